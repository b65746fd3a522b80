import PyProof.Rows.All
import Wide.All
import OpenK.AllK
import Wide.FinOn
import HandS.ForMost
import HandS.Star
import HandS.NoneIn
import HandS.Style
import HandS.Defaults
import HandS.Walk
import HandS.Comp
import HandS.Zip
import HandS.Rev
import KE.GoesEnum
import HandS.More
import HandS.SetFor
import HandS.Wide
import HandS.WideBits
import HandS.TupAny
import HandS.TupLe
import HandS.Deep
import HandS.Steps
import HandS.IsInst
import HandS.Property
import HandS.HeadEnd
import HandS.Codes
import HandS.SortInts
import HandS.TupSets
import HandS.SortRule
import HandS.Text
import HandS.Strs
import HandS.Dict
import HandS.Small
import HandS.DictComp
import HandS.TupMul
import HandS.Conv
import KE.KStateDown
import HandS.Words
import HandS.WordsExc
import HandS.Head0
import HandS.Head1
import HandS.Head2
import HandS.HeadHook1
import HandS.HeadHook2
import HandS.HeadNt
import HandS.Ends
import HandS.RevTup
import PySem.Challenge.RW_pairsums_k06_whole_values_put_together
set_option Elab.async false
set_option linter.all false
set_option maxRecDepth 100000
set_option maxHeartbeats 4000000
/-! MiA: value trees, how a value stands for a tree, what a step leaves as it was. -/
namespace MI
open PySem L2
inductive Kd where
  | tup | scr | lst (o : Bool) | dK (o : Bool) (ks : List Key) | dT (o : Bool) (ks : List (List Key)) | ins (o : Bool) (c : Str) (fs : List Str)
inductive T where
  | dead | non | bl (b : Bool) | int (i : Int) | str (s : Str) | nd (k : Kd) (ts : List T)
def Kd.own : Kd → Bool
  | .tup => false
  | .scr => false
  | .lst o => o
  | .dK o _ => o
  | .dT o _ => o
  | .ins o _ _ => o
def Kd.fz : Kd → Kd
  | .tup => .tup
  | .scr => .scr
  | .lst _ => .lst false
  | .dK _ ks => .dK false ks
  | .dT _ ks => .dT false ks
  | .ins _ c fs => .ins false c fs
def Kd.isTup : Kd → Bool
  | .tup => true
  | _ => false
mutual
def T.imm : T → Bool
  | .dead => false
  | .non => true
  | .bl _ => true
  | .int _ => true
  | .str _ => true
  | .nd k ts => !k.own && immL ts
def immL : List T → Bool
  | [] => true
  | t :: ts => t.imm && immL ts
end
mutual
/-- plain data: no list, dict, object within -/
def T.pur : T → Bool
  | .dead => false
  | .non => true
  | .bl _ => true
  | .int _ => true
  | .str _ => true
  | .nd k ts => k.isTup && purL ts
def purL : List T → Bool
  | [] => true
  | t :: ts => t.pur && purL ts
end
mutual
def T.fz : T → T
  | .dead => .dead
  | .non => .non
  | .bl b => .bl b
  | .int i => .int i
  | .str s => .str s
  | .nd k ts => .nd k.fz (fzL ts)
def fzL : List T → List T
  | [] => []
  | t :: ts => t.fz :: fzL ts
end
theorem fzL_eq : ∀ ts : List T, fzL ts = ts.map T.fz
  | [] => rfl
  | t :: ts => by rw [fzL, fzL_eq ts]; rfl
theorem immL_eq : ∀ ts : List T, immL ts = ts.all T.imm
  | [] => rfl
  | t :: ts => by rw [immL, immL_eq ts]; rfl
theorem purL_eq : ∀ ts : List T, purL ts = ts.all T.pur
  | [] => rfl
  | t :: ts => by rw [purL, purL_eq ts]; rfl
/-- the written part, and where the classes stand -/
structure Gc where
  K : PySem.W.Frag
  cl : Str → Addr
/-- a list of the written part -/
def LW (K : PySem.W.Frag) (a : Addr) (xs : List V) : Prop := ∃ (o : Obj) (its : Array Value) (n : Nat), K.lookup a = some o ∧ o.cls = .type "list" ∧ o.dict = none ∧ o.data = .seq its n ∧ its.size ≤ sizeLine ∧ Vals xs its.toList
/-- a tuple of the written part: its first item is a number -/
def KTup (K : PySem.W.Frag) (a : Addr) (xs : List V) : Prop := (∃ i r, xs = V.int i :: r) ∧ ∃ (o : Obj) (its : Array Value) (n : Nat), K.lookup a = some o ∧ o.cls = .type "tuple" ∧ o.data = .seq its n ∧ its.size ≤ sizeLine ∧ Vals xs its.toList
/-- at a stands a node of kind k with the values xs -/
def At (g : Gc) (S : Addr → Prop) (H : Hp) (k : Kd) (a : Addr) (xs : List V) : Prop :=
  match k with
  | .tup => H a = some (.tup xs) ∨ KTup g.K a xs
  | .lst true => H a = some (.lst xs)
  | .lst false => H a = some (.lst xs) ∧ S a
  | .scr => (Rd H a (.lst xs) ∧ S a) ∨ LW g.K a xs
  | .dK o ks => H a = some (.dK (ks.zip xs)) ∧ ks.length = xs.length ∧ (o = false → S a)
  | .dT o ks => H a = some (.dT (ks.zip xs)) ∧ ks.length = xs.length ∧ (o = false → S a)
  | .ins o c fs => (∃ dx, H a = some (.ins (g.cl c) dx (fs.zip xs))) ∧ fs.length = xs.length ∧ (o = false → S a)
mutual
/-- the value x stands for the tree t; A: where its own nodes stand -/
def Rp (g : Gc) (S : Addr → Prop) (H : Hp) : T → V → List Addr → Prop
  | .dead, _, A => A = []
  | .non, x, A => x = .non ∧ A = []
  | .bl b, x, A => x = .bl b ∧ A = []
  | .int i, x, A => x = .int i ∧ A = []
  | .str s, x, A => x = .str s ∧ A = []
  | .nd k ts, x, A => ∃ a xs B, x = .ref a ∧ At g S H k a xs ∧ A = (if k.own then a :: B else B) ∧ (k.own = true ∨ k.isTup = true ∨ B = []) ∧ RpL g S H ts xs B
def RpL (g : Gc) (S : Addr → Prop) (H : Hp) : List T → List V → List Addr → Prop
  | [], xs, A => xs = [] ∧ A = []
  | t :: ts, xs, A => ∃ y ys A1 A2, xs = y :: ys ∧ A = A1 ++ A2 ∧ Rp g S H t y A1 ∧ RpL g S H ts ys A2
end
section
variable {g : Gc} {S S' : Addr → Prop} {H H' : Hp} {M : Addr → Prop}
theorem At.own_mut {k : Kd} {a : Addr} {xs : List V} (h : At g S H k a xs) (ho : k.own = true) : Mut (H a) := by
  cases k with
  | tup => cases ho
  | scr => cases ho
  | lst o =>
    have e : o = true := ho
    subst e
    have h : H a = some (.lst xs) := h
    rw [h]; trivial
  | dK o ks =>
    obtain ⟨h, _⟩ := h
    rw [h]; trivial
  | dT o ks =>
    obtain ⟨h, _⟩ := h
    rw [h]; trivial
  | ins o c fs =>
    obtain ⟨⟨dx, h⟩, _⟩ := h
    rw [h]; trivial
theorem rd_keep {a : Addr} {u : HO} (h : Rd H a u) (k : ∀ o, H a = some o → H' a = some o) : Rd H' a u := by
  rcases h with h | ⟨o, h⟩
  · exact .inl (k _ h)
  · exact .inr ⟨o, k _ h⟩
/-- what a node leans on stays: all but the addresses M is kept, M are own nodes of others -/
theorem At.keep {k : Kd} {a : Addr} {xs : List V} (h : At g S H k a xs) (kp : ∀ a o, H a = some o → ¬ M a → H' a = some o) (hm : ∀ a, M a → Mut (H a)) (hS : ∀ a, S a → ¬ M a) (hs : ∀ a, S a → S' a) (ho : k.own = true → ¬ M a) : At g S' H' k a xs := by
  cases k with
  | tup =>
    rcases (show H a = some (.tup xs) ∨ KTup g.K a xs from h) with h | h
    · refine Or.inl (kp a _ h fun m => ?_)
      have mu := hm a m
      rw [h] at mu; exact mu
    · exact Or.inr h
  | lst o =>
    cases o with
    | true => exact kp _ _ h (ho rfl)
    | false => exact ⟨kp _ _ h.1 (hS a h.2), hs _ h.2⟩
  | scr =>
    rcases (show (Rd H a (.lst xs) ∧ S a) ∨ LW g.K a xs from h) with h | h
    · exact Or.inl ⟨rd_keep h.1 fun o e => kp a o e (hS a h.2), hs _ h.2⟩
    · exact Or.inr h
  | dK o ks =>
    refine ⟨kp _ _ h.1 ?_, h.2.1, fun e => hs _ (h.2.2 e)⟩
    cases o with
    | true => exact ho rfl
    | false => exact hS a (h.2.2 rfl)
  | dT o ks =>
    refine ⟨kp _ _ h.1 ?_, h.2.1, fun e => hs _ (h.2.2 e)⟩
    cases o with
    | true => exact ho rfl
    | false => exact hS a (h.2.2 rfl)
  | ins o c fs =>
    obtain ⟨⟨dx, e⟩, h2⟩ := h
    refine ⟨⟨dx, kp _ _ e ?_⟩, h2.1, fun e => hs _ (h2.2 e)⟩
    cases o with
    | true => exact ho rfl
    | false => exact hS a (h2.2 rfl)
theorem At.fz {k : Kd} {a : Addr} {xs : List V} (h : At g S H k a xs) (hs : ∀ a, S a → S' a) (ho : k.own = true → S' a) : At g S' H k.fz a xs := by
  cases k with
  | tup => exact h
  | lst o =>
    cases o with
    | true => exact ⟨h, ho rfl⟩
    | false => exact ⟨h.1, hs _ h.2⟩
  | scr =>
    rcases (show (Rd H a (.lst xs) ∧ S a) ∨ LW g.K a xs from h) with h | h
    · exact Or.inl ⟨h.1, hs _ h.2⟩
    · exact Or.inr h
  | dK o ks =>
    refine ⟨h.1, h.2.1, fun _ => ?_⟩
    cases o with
    | true => exact ho rfl
    | false => exact hs _ (h.2.2 rfl)
  | dT o ks =>
    refine ⟨h.1, h.2.1, fun _ => ?_⟩
    cases o with
    | true => exact ho rfl
    | false => exact hs _ (h.2.2 rfl)
  | ins o c fs =>
    refine ⟨h.1, h.2.1, fun _ => ?_⟩
    cases o with
    | true => exact ho rfl
    | false => exact hs _ (h.2.2 rfl)
theorem At.sqT {a : Addr} {xs : List V} (h : At g S H .tup a xs) : SqT g.K H a xs := by
  rcases (show H a = some (.tup xs) ∨ KTup g.K a xs from h) with h | h
  · exact .inl (.inl h)
  · exact .inr h.2
theorem At.sqL {o : Bool} {a : Addr} {xs : List V} (h : At g S H (.lst o) a xs) : SqL g.K H a xs := by
  cases o with
  | true => exact SqL.of h
  | false => exact SqL.of h.1
theorem At.lst {o : Bool} {a : Addr} {xs : List V} (h : At g S H (.lst o) a xs) : H a = some (.lst xs) := by
  cases o with
  | true => exact h
  | false => exact h.1
theorem At.sqS {a : Addr} {xs : List V} (h : At g S H .scr a xs) : SqL g.K H a xs := by
  rcases (show (Rd H a (.lst xs) ∧ S a) ∨ LW g.K a xs from h) with h | h
  · exact Or.inl h.1
  · exact Or.inr h
theorem At.rd {o : Bool} {a : Addr} {xs : List V} (h : At g S H (.lst o) a xs) : Rd H a (.lst xs) := by
  cases o with
  | true => exact .inl h
  | false => exact .inl h.1
theorem Kd.fz_own (k : Kd) : k.fz.own = false := by cases k <;> rfl
theorem Kd.fz_isTup (k : Kd) : k.fz.isTup = k.isTup := by cases k <;> rfl
mutual
theorem Rp.keep (kp : ∀ a o, H a = some o → ¬ M a → H' a = some o) (hm : ∀ a, M a → Mut (H a)) (hS : ∀ a, S a → ¬ M a) (hs : ∀ a, S a → S' a) :
    ∀ (t : T) (x : V) (A : List Addr), Rp g S H t x A → (∀ a ∈ A, ¬ M a) → Rp g S' H' t x A
  | .dead, _, _, h, _ => h
  | .non, _, _, h, _ => h
  | .bl _, _, _, h, _ => h
  | .int _, _, _, h, _ => h
  | .str _, _, _, h, _ => h
  | .nd k ts, x, A, h, hA => by
    obtain ⟨a, xs, B, e, at_, eA, c, r⟩ := h
    refine ⟨a, xs, B, e, at_.keep kp hm hS hs fun ho => hA a ?_, eA, c, RpL.keep kp hm hS hs ts xs B r fun b hb => hA b ?_⟩
    · rw [eA, if_pos ho]; exact List.mem_cons_self
    · rw [eA]
      split
      · exact List.mem_cons_of_mem _ hb
      · exact hb
theorem RpL.keep (kp : ∀ a o, H a = some o → ¬ M a → H' a = some o) (hm : ∀ a, M a → Mut (H a)) (hS : ∀ a, S a → ¬ M a) (hs : ∀ a, S a → S' a) :
    ∀ (ts : List T) (xs : List V) (A : List Addr), RpL g S H ts xs A → (∀ a ∈ A, ¬ M a) → RpL g S' H' ts xs A
  | [], _, _, h, _ => h
  | t :: ts, xs, A, h, hA => by
    obtain ⟨y, ys, A1, A2, e1, e2, r1, r2⟩ := h
    subst e2
    exact ⟨y, ys, A1, A2, e1, rfl, Rp.keep kp hm hS hs t y A1 r1 fun a ha => hA a (List.mem_append_left _ ha), RpL.keep kp hm hS hs ts ys A2 r2 fun a ha => hA a (List.mem_append_right _ ha)⟩
end
mutual
theorem Rp.fz (hs : ∀ a, S a → S' a) : ∀ (t : T) (x : V) (A : List Addr), Rp g S H t x A → (∀ a ∈ A, S' a) → Rp g S' H t.fz x []
  | .dead, _, _, h, _ => rfl
  | .non, _, _, h, _ => ⟨h.1, rfl⟩
  | .bl _, _, _, h, _ => ⟨h.1, rfl⟩
  | .int _, _, _, h, _ => ⟨h.1, rfl⟩
  | .str _, _, _, h, _ => ⟨h.1, rfl⟩
  | .nd k ts, x, A, h, hA => by
    obtain ⟨a, xs, B, e, at_, eA, c, r⟩ := h
    refine ⟨a, xs, [], e, at_.fz hs fun ho => hA a ?_, ?_, .inr (.inr rfl), RpL.fz hs ts xs B r fun b hb => hA b ?_⟩
    · rw [eA, if_pos ho]; exact List.mem_cons_self
    · rw [Kd.fz_own]; rfl
    · rw [eA]
      split
      · exact List.mem_cons_of_mem _ hb
      · exact hb
theorem RpL.fz (hs : ∀ a, S a → S' a) : ∀ (ts : List T) (xs : List V) (A : List Addr), RpL g S H ts xs A → (∀ a ∈ A, S' a) → RpL g S' H (fzL ts) xs []
  | [], _, _, h, _ => ⟨h.1, rfl⟩
  | t :: ts, xs, A, h, hA => by
    obtain ⟨y, ys, A1, A2, e1, e2, r1, r2⟩ := h
    subst e2
    exact ⟨y, ys, [], [], e1, rfl, Rp.fz hs t y A1 r1 fun a ha => hA a (List.mem_append_left _ ha), RpL.fz hs ts ys A2 r2 fun a ha => hA a (List.mem_append_right _ ha)⟩
end
mutual
theorem Rp.imm_nil : ∀ (t : T) (x : V) (A : List Addr), Rp g S H t x A → t.imm = true → A = []
  | .dead, _, _, h, _ => h
  | .non, _, _, h, _ => h.2
  | .bl _, _, _, h, _ => h.2
  | .int _, _, _, h, _ => h.2
  | .str _, _, _, h, _ => h.2
  | .nd k ts, x, A, h, hi => by
    obtain ⟨a, xs, B, e, at_, eA, c, r⟩ := h
    have hi : (!k.own && immL ts) = true := hi
    obtain ⟨h1, h2⟩ := Bool.and_eq_true_iff.mp hi
    rw [eA, if_neg (by simpa using h1)]
    exact RpL.imm_nil ts xs B r h2
theorem RpL.imm_nil : ∀ (ts : List T) (xs : List V) (A : List Addr), RpL g S H ts xs A → immL ts = true → A = []
  | [], _, _, h, _ => h.2
  | t :: ts, xs, A, h, hi => by
    obtain ⟨y, ys, A1, A2, e1, e2, r1, r2⟩ := h
    have hi : (t.imm && immL ts) = true := hi
    obtain ⟨h1, h2⟩ := Bool.and_eq_true_iff.mp hi
    rw [e2, Rp.imm_nil t y A1 r1 h1, RpL.imm_nil ts ys A2 r2 h2]; rfl
end
mutual
/-- own nodes can be written -/
theorem Rp.cells : ∀ (t : T) (x : V) (A : List Addr), Rp g S H t x A → ∀ a ∈ A, Mut (H a)
  | .dead, _, _, h => by rw [show _ = [] from h]; exact fun a z => nomatch z
  | .non, _, _, h => by rw [h.2]; exact fun a z => nomatch z
  | .bl _, _, _, h => by rw [h.2]; exact fun a z => nomatch z
  | .int _, _, _, h => by rw [h.2]; exact fun a z => nomatch z
  | .str _, _, _, h => by rw [h.2]; exact fun a z => nomatch z
  | .nd k ts, x, A, h => by
    obtain ⟨a, xs, B, e, at_, eA, c, r⟩ := h
    intro b hb
    rw [eA] at hb
    split at hb
    · rename_i ho
      rcases List.mem_cons.mp hb with rfl | hb
      · exact at_.own_mut ho
      · exact RpL.cells ts xs B r b hb
    · exact RpL.cells ts xs B r b hb
theorem RpL.cells : ∀ (ts : List T) (xs : List V) (A : List Addr), RpL g S H ts xs A → ∀ a ∈ A, Mut (H a)
  | [], _, _, h => by rw [h.2]; exact fun a z => nomatch z
  | t :: ts, xs, A, h => by
    obtain ⟨y, ys, A1, A2, e1, e2, r1, r2⟩ := h
    intro b hb
    rw [e2] at hb
    rcases List.mem_append.mp hb with hb | hb
    · exact Rp.cells t y A1 r1 b hb
    · exact RpL.cells ts ys A2 r2 b hb
end
mutual
theorem T.fz_imm : ∀ t : T, t.imm = true → t.fz = t
  | .dead, _ => rfl
  | .non, _ => rfl
  | .bl _, _ => rfl
  | .int _, _ => rfl
  | .str _, _ => rfl
  | .nd k ts, h => by
    have h : (!k.own && immL ts) = true := h
    obtain ⟨h1, h2⟩ := Bool.and_eq_true_iff.mp h
    rw [T.fz, fzL_imm ts h2]
    cases k with
    | tup => rfl
    | scr => rfl
    | lst o =>
      cases o with
      | true => cases h1
      | false => rfl
    | dK o ks =>
      cases o with
      | true => cases h1
      | false => rfl
    | dT o ks =>
      cases o with
      | true => cases h1
      | false => rfl
    | ins o c fs =>
      cases o with
      | true => cases h1
      | false => rfl
theorem fzL_imm : ∀ ts : List T, immL ts = true → fzL ts = ts
  | [], _ => rfl
  | t :: ts, h => by
    have h : (t.imm && immL ts) = true := h
    obtain ⟨h1, h2⟩ := Bool.and_eq_true_iff.mp h
    rw [fzL, T.fz_imm t h1, fzL_imm ts h2]
end
mutual
theorem T.pur_imm : ∀ t : T, t.pur = true → t.imm = true
  | .dead, h => h
  | .non, _ => rfl
  | .bl _, _ => rfl
  | .int _, _ => rfl
  | .str _, _ => rfl
  | .nd k ts, h => by
    have h : (k.isTup && purL ts) = true := h
    obtain ⟨h1, h2⟩ := Bool.and_eq_true_iff.mp h
    show (!k.own && immL ts) = true
    cases k with
    | tup => exact purL_imm ts h2
    | _ => cases h1
theorem purL_imm : ∀ ts : List T, purL ts = true → immL ts = true
  | [], _ => rfl
  | t :: ts, h => by
    have h : (t.pur && purL ts) = true := h
    obtain ⟨h1, h2⟩ := Bool.and_eq_true_iff.mp h
    show (t.imm && immL ts) = true
    rw [T.pur_imm t h1, purL_imm ts h2]; rfl
end
mutual
/-- plain data lean on no frozen node -/
theorem Rp.pur_any : ∀ (t : T) (x : V) (A : List Addr), Rp g S H t x A → t.pur = true → Rp g S' H t x A
  | .dead, _, _, h, _ => h
  | .non, _, _, h, _ => h
  | .bl _, _, _, h, _ => h
  | .int _, _, _, h, _ => h
  | .str _, _, _, h, _ => h
  | .nd k ts, x, A, h, hp => by
    have hp : (k.isTup && purL ts) = true := hp
    obtain ⟨h1, h2⟩ := Bool.and_eq_true_iff.mp hp
    obtain ⟨a, xs, B, e, at_, eA, c, r⟩ := h
    cases k with
    | tup => exact ⟨a, xs, B, e, at_, eA, c, RpL.pur_any ts xs B r h2⟩
    | _ => cases h1
theorem RpL.pur_any : ∀ (ts : List T) (xs : List V) (A : List Addr), RpL g S H ts xs A → purL ts = true → RpL g S' H ts xs A
  | [], _, _, h, _ => h
  | t :: ts, xs, A, h, hp => by
    have hp : (t.pur && purL ts) = true := hp
    obtain ⟨h1, h2⟩ := Bool.and_eq_true_iff.mp hp
    obtain ⟨y, ys, A1, A2, e1, e2, r1, r2⟩ := h
    exact ⟨y, ys, A1, A2, e1, e2, Rp.pur_any t y A1 r1 h1, RpL.pur_any ts ys A2 r2 h2⟩
end
theorem RpL.length : ∀ (ts : List T) (xs : List V) (A : List Addr), RpL g S H ts xs A → ts.length = xs.length
  | [], _, _, h => by rw [h.1]; rfl
  | t :: ts, xs, A, h => by
    obtain ⟨y, ys, A1, A2, e1, e2, r1, r2⟩ := h
    rw [e1, List.length_cons, List.length_cons, RpL.length ts ys A2 r2]
theorem RpL.get : ∀ (ts : List T) (xs : List V) (A : List Addr), RpL g S H ts xs A → ∀ (i : Nat) (t : T), ts[i]? = some t → ∃ x B, xs[i]? = some x ∧ Rp g S H t x B ∧ ∀ a ∈ B, a ∈ A
  | [], _, _, h, i, t, e => by simp at e
  | t0 :: ts, xs, A, h, i, t, e => by
    obtain ⟨y, ys, A1, A2, e1, e2, r1, r2⟩ := h
    subst e1; subst e2
    cases i with
    | zero =>
      simp at e; subst e
      exact ⟨y, A1, rfl, r1, fun a ha => List.mem_append_left _ ha⟩
    | succ i =>
      obtain ⟨x, B, h1, h2, h3⟩ := RpL.get ts ys A2 r2 i t (by simpa using e)
      exact ⟨x, B, by simpa using h1, h2, fun a ha => List.mem_append_right _ (h3 a ha)⟩
theorem RpL.append : ∀ (ts : List T) (xs : List V) (A : List Addr) (us : List T) (ys : List V) (B : List Addr), RpL g S H ts xs A → RpL g S H us ys B → RpL g S H (ts ++ us) (xs ++ ys) (A ++ B)
  | [], _, _, us, ys, B, h, h' => by rw [h.1, h.2]; exact h'
  | t :: ts, xs, A, us, ys, B, h, h' => by
    obtain ⟨y, zs, A1, A2, e1, e2, r1, r2⟩ := h
    subst e1; subst e2
    exact ⟨y, zs ++ ys, A1, A2 ++ B, rfl, List.append_assoc _ _ _, r1, RpL.append ts zs A2 us ys B r2 h'⟩
theorem RpL.one {t : T} {x : V} {A : List Addr} (h : Rp g S H t x A) : RpL g S H [t] [x] A := ⟨x, [], A, [], rfl, (List.append_nil _).symm, h, rfl, rfl⟩
end
/-! ### the slots -/
def Rp1 (g : Gc) (S : Addr → Prop) (H : Hp) (t : T) (o : Option V) (A : List Addr) : Prop := (t = .dead ∧ A = []) ∨ ∃ x, o = some x ∧ Rp g S H t x A
def slot (Ts : List T) (i : Nat) : T := Ts.getD i .dead
structure SR (g : Gc) (S : Addr → Prop) (H : Hp) (σ : L2.St) (Ts : List T) (A : Nat → List Addr) : Prop where
  rep : ∀ i, Rp1 g S H (slot Ts i) (σ.getD i none) (A i)
  nd : ∀ i, (A i).Nodup
  dj : ∀ i j, i ≠ j → ∀ a ∈ A i, a ∉ A j
  ns : ∀ i, ∀ a ∈ A i, ¬ S a
  len : Ts.length = σ.length
  st : ∀ a, S a → ∃ o, H a = some o
/-- what a step leaves -/
structure Po (S : Addr → Prop) (H : Hp) (A : Nat → List Addr) (S' : Addr → Prop) (H' : Hp) (A' : Nat → List Addr) : Prop where
  keep : ∀ a o, H a = some o → (∀ i, a ∉ A i) → H' a = some o
  sub : ∀ a, S a → S' a
  snew : ∀ a, S' a → S a ∨ (∃ i, a ∈ A i) ∨ H a = none
  anew : ∀ i, ∀ a ∈ A' i, (∃ j, a ∈ A j) ∨ H a = none
/-- the slots that a step does not touch -/
def Stb (eff : List Nat) (H : Hp) (Ts : List T) (A : Nat → List Addr) (H' : Hp) (Ts' : List T) (A' : Nat → List Addr) : Prop :=
  ∀ j, j ∉ eff → slot Ts' j = slot Ts j ∧ A' j = A j ∧ ∀ a ∈ A j, ∀ o, H a = some o → H' a = some o
/-- whose a result's nodes are: its own, or those of the slots bo -/
structure Ow (bo : List Nat) (H : Hp) (A : Nat → List Addr) (S' : Addr → Prop) (A' : Nat → List Addr) (Ax : List Addr) : Prop where
  ns : ∀ a ∈ Ax, ¬ S' a
  dj : ∀ i, i ∉ bo → ∀ a ∈ Ax, a ∉ A' i
  nd : bo = [] → Ax.Nodup
  new : ∀ a ∈ Ax, (∃ j, a ∈ A j) ∨ H a = none
section
variable {g : Gc} {S S1 S2 : Addr → Prop} {H H1 H2 : Hp} {A A1 A2 : Nat → List Addr} {σ : L2.St} {Ts Ts1 Ts2 : List T} {eff eff1 eff2 bo : List Nat}
theorem SR.cells (R : SR g S H σ Ts A) : ∀ i, ∀ a ∈ A i, Mut (H a) := fun i a ha => by
  rcases R.rep i with ⟨_, e⟩ | ⟨x, _, r⟩
  · rw [e] at ha; exact nomatch ha
  · exact Rp.cells _ _ _ r a ha
theorem mut_ne {o : Option HO} (h : Mut o) : o ≠ none := by rintro rfl; exact h
theorem Po.refl : Po S H A S H A := ⟨fun _ _ e _ => e, fun _ h => h, fun _ h => .inl h, fun i a h => .inl ⟨i, h⟩⟩
theorem Po.trans (R : SR g S H σ Ts A) (p : Po S H A S1 H1 A1) (q : Po S1 H1 A1 S2 H2 A2) : Po S H A S2 H2 A2 where
  keep := fun a o e n => q.keep a o (p.keep a o e n) fun i hi => by
    rcases p.anew i a hi with ⟨j, hj⟩ | hn
    · exact n j hj
    · rw [hn] at e; cases e
  sub := fun a h => q.sub a (p.sub a h)
  snew := fun a h => by
    have back : H1 a = none → (∃ i, a ∈ A i) ∨ H a = none := fun hn => by
      cases e : H a with
      | none => exact .inr rfl
      | some o =>
        by_cases hj : ∃ j, a ∈ A j
        · exact .inl hj
        · rw [p.keep a o e fun i hi => hj ⟨i, hi⟩] at hn; cases hn
    rcases q.snew a h with h | ⟨i, hi⟩ | hn
    · exact p.snew a h
    · exact .inr (p.anew i a hi)
    · exact .inr (back hn)
  anew := fun i a h => by
    rcases q.anew i a h with ⟨j, hj⟩ | hn
    · exact p.anew j a hj
    · cases e : H a with
      | none => exact .inr rfl
      | some o =>
        by_cases hj : ∃ j, a ∈ A j
        · exact .inl hj
        · rw [p.keep a o e fun i hi => hj ⟨i, hi⟩] at hn; cases hn
theorem Stb.refl : Stb eff H Ts A H Ts A := fun j _ => ⟨rfl, rfl, fun _ _ _ e => e⟩
theorem Stb.trans (p : Stb eff1 H Ts A H1 Ts1 A1) (q : Stb eff2 H1 Ts1 A1 H2 Ts2 A2) : Stb (eff1 ++ eff2) H Ts A H2 Ts2 A2 := fun j hj => by
  have h1 : j ∉ eff1 := fun z => hj (List.mem_append_left _ z)
  have h2 : j ∉ eff2 := fun z => hj (List.mem_append_right _ z)
  obtain ⟨a1, a2, a3⟩ := p j h1
  obtain ⟨b1, b2, b3⟩ := q j h2
  exact ⟨b1.trans a1, b2.trans a2, fun a ha o e => b3 a (by rw [a2]; exact ha) o (a3 a ha o e)⟩
theorem Stb.mono (p : Stb eff1 H Ts A H1 Ts1 A1) (h : ∀ j ∈ eff1, j ∈ eff2) : Stb eff2 H Ts A H1 Ts1 A1 := fun j hj => p j fun z => hj (h j z)
/-- a result that is held while something else is worked out -/
theorem Rp.held {t : T} {x : V} {Ax : List Addr} (R1 : SR g S1 H1 σ Ts1 A1) (r : Rp g S1 H1 t x Ax) (o : Ow bo H A S1 A1 Ax) (p : Po S1 H1 A1 S2 H2 A2) (s : Stb eff2 H1 Ts1 A1 H2 Ts2 A2) (d : ∀ j ∈ bo, j ∉ eff2) : Rp g S2 H2 t x Ax := by
  -- M: what may change: the own nodes of the slots in eff2
  refine Rp.keep (M := fun a => ∃ j, j ∈ eff2 ∧ a ∈ A1 j) (fun a ob e n => ?_) (fun a ⟨j, _, hj⟩ => R1.cells j a hj) (fun a hs ⟨j, _, hj⟩ => R1.ns j a hj hs) p.sub t x Ax r fun a ha ⟨j, hj, hA⟩ => ?_
  · by_cases h : ∃ j, a ∈ A1 j
    · obtain ⟨j, hj⟩ := h
      by_cases he : j ∈ eff2
      · exact absurd ⟨j, he, hj⟩ n
      · exact (s j he).2.2 a hj ob e
    · exact p.keep a ob e fun i hi => h ⟨i, hi⟩
  · have hb : j ∉ bo := fun z => d j z hj
    exact o.dj j hb a ha hA
theorem RpL.held {ts : List T} {xs : List V} {Ax : List Addr} (R1 : SR g S1 H1 σ Ts1 A1) (r : RpL g S1 H1 ts xs Ax) (o : Ow bo H A S1 A1 Ax) (p : Po S1 H1 A1 S2 H2 A2) (s : Stb eff2 H1 Ts1 A1 H2 Ts2 A2) (d : ∀ j ∈ bo, j ∉ eff2) : RpL g S2 H2 ts xs Ax := by
  refine RpL.keep (M := fun a => ∃ j, j ∈ eff2 ∧ a ∈ A1 j) (fun a ob e n => ?_) (fun a ⟨j, _, hj⟩ => R1.cells j a hj) (fun a hs ⟨j, _, hj⟩ => R1.ns j a hj hs) p.sub ts xs Ax r fun a ha ⟨j, hj, hA⟩ => ?_
  · by_cases h : ∃ j, a ∈ A1 j
    · obtain ⟨j, hj⟩ := h
      by_cases he : j ∈ eff2
      · exact absurd ⟨j, he, hj⟩ n
      · exact (s j he).2.2 a hj ob e
    · exact p.keep a ob e fun i hi => h ⟨i, hi⟩
  · have hb : j ∉ bo := fun z => d j z hj
    exact o.dj j hb a ha hA
end
end MI
namespace MI
open PySem L2
section
variable {g : Gc} {S S1 S2 : Addr → Prop} {H H1 H2 : Hp} {A A1 A2 : Nat → List Addr} {σ σ2 : L2.St} {Ts Ts1 Ts2 : List T} {eff eff1 eff2 bo bo2 : List Nat} {Ax Ay : List Addr}
/-- a result's claim stays while something else is worked out -/
theorem Ow.held (R1 : SR g S1 H1 σ Ts1 A1) (R2 : SR g S2 H2 σ2 Ts2 A2) (hc : ∀ a ∈ Ax, Mut (H1 a)) (o : Ow bo H A S1 A1 Ax) (p : Po S1 H1 A1 S2 H2 A2) (s : Stb eff2 H1 Ts1 A1 H2 Ts2 A2) (d : ∀ j ∈ bo, j ∉ eff2) : Ow bo H A S2 A2 Ax where
  ns := fun a ha h => by
    rcases p.snew a h with h | ⟨i, hi⟩ | hn
    · exact o.ns a ha h
    · have hb : i ∈ bo := Classical.byContradiction fun z => o.dj i z a ha hi
      have e := (s i (d i hb)).2.1
      exact R2.ns i a (by rw [e]; exact hi) h
    · exact mut_ne (hc a ha) hn
  dj := fun i hi a ha h => by
    rcases p.anew i a h with ⟨j, hj⟩ | hn
    · have hb : j ∈ bo := Classical.byContradiction fun z => o.dj j z a ha hj
      have e := (s j (d j hb)).2.1
      have ne : i ≠ j := by rintro rfl; exact hi hb
      exact R2.dj i j ne a h (by rw [e]; exact hj)
    · exact mut_ne (hc a ha) hn
  nd := o.nd
  new := o.new
theorem Ow.back (p : Po S H A S1 H1 A1) (o : Ow bo H1 A1 S2 A2 Ay) : ∀ a ∈ Ay, (∃ j, a ∈ A j) ∨ H a = none := fun a ha => by
  rcases o.new a ha with ⟨j, hj⟩ | hn
  · exact p.anew j a hj
  · cases e : H a with
    | none => exact .inr rfl
    | some ob =>
      by_cases hj : ∃ j, a ∈ A j
      · exact .inl hj
      · rw [p.keep a ob e fun i hi => hj ⟨i, hi⟩] at hn; cases hn
/-- two results, the first held -/
theorem Ow.app (p : Po S H A S1 H1 A1) (hc : ∀ a ∈ Ax, Mut (H1 a)) (o1 : Ow bo H A S1 A1 Ax) (o : Ow bo H A S2 A2 Ax) (o2 : Ow bo2 H1 A1 S2 A2 Ay) : Ow (bo ++ bo2) H A S2 A2 (Ax ++ Ay) where
  ns := fun a ha => (List.mem_append.mp ha).elim (o.ns a) (o2.ns a)
  dj := fun i hi a ha => (List.mem_append.mp ha).elim (o.dj i (fun z => hi (List.mem_append_left _ z)) a) (o2.dj i (fun z => hi (List.mem_append_right _ z)) a)
  nd := fun e => by
    obtain ⟨e1, e2⟩ := List.append_eq_nil_iff.mp e
    refine List.nodup_append.mpr ⟨o.nd e1, o2.nd e2, fun a ha b hb e3 => ?_⟩
    subst e3
    rcases o2.new a hb with ⟨j, hj⟩ | hn
    · exact o1.dj j (by rw [e1]; exact fun z => nomatch z) a ha hj
    · exact mut_ne (hc a ha) hn
  new := fun a ha => (List.mem_append.mp ha).elim (o.new a) (o2.back p a)
theorem Ow.nil : Ow bo H A S2 A2 [] := ⟨(fun _ h => nomatch h), (fun _ _ _ h => nomatch h), (fun _ => List.nodup_nil), (fun _ h => nomatch h)⟩
theorem Ow.mono {bo' : List Nat} (o : Ow bo H A S2 A2 Ax) (h : ∀ i ∈ bo, i ∈ bo') (hn : bo' = [] → bo = []) : Ow bo' H A S2 A2 Ax := ⟨o.ns, fun i hi => o.dj i fun z => hi (h i z), fun e => o.nd (hn e), o.new⟩
/-! ### the mirror's monad -/
abbrev M (α : Type) := List T → Option (α × List T)
def bnd {α β : Type} (x : M α) (f : α → M β) : M β := fun s => match x s with
  | none => none
  | some (a, s') => f a s'
def ret {α : Type} (a : α) : M α := fun s => some (a, s)
def lft {α : Type} (o : Option α) : M α := fun s => match o with
  | none => none
  | some a => some (a, s)
theorem bnd_some {α β : Type} {x : M α} {f : α → M β} {s s2 : List T} {b : β} (h : bnd x f s = some (b, s2)) : ∃ a s1, x s = some (a, s1) ∧ f a s1 = some (b, s2) := by
  unfold bnd at h
  cases e : x s with
  | none => rw [e] at h; cases h
  | some p => obtain ⟨a, s1⟩ := p; rw [e] at h; exact ⟨a, s1, rfl, h⟩
theorem lft_some {α : Type} {o : Option α} {s s2 : List T} {b : α} (h : lft o s = some (b, s2)) : o = some b ∧ s2 = s := by
  unfold lft at h
  cases o with
  | none => cases h
  | some a =>
    have h : some (a, s) = some (b, s2) := h
    injection h with h
    injection h with h1 h2
    exact ⟨by rw [h1], h2.symm⟩
/-! ### readings -/
/-- an expression's reading by its mirror f; eff: the slots that it may change, bo: the slots that its result may be a part of -/
def TM (g : Gc) (f : M T) (eff bo : List Nat) : TE := fun σ H Q => ∃ S Ts A t Ts', SR g S H σ Ts A ∧ f Ts = some (t, Ts') ∧
  ∀ x H' S' A' Ax, SR g S' H' σ Ts' A' → Rp g S' H' t x Ax → Ow bo H A S' A' Ax → Po S H A S' H' A' → Stb eff H Ts A H' Ts' A' → Q x H'
def TMt (g : Gc) (f : M Bool) (eff : List Nat) : TT := fun σ H Q => ∃ S Ts A b Ts', SR g S H σ Ts A ∧ f Ts = some (b, Ts') ∧
  ∀ H' S' A', SR g S' H' σ Ts' A' → Po S H A S' H' A' → Stb eff H Ts A H' Ts' A' → Q b H'
def TMs (g : Gc) (f : M (List T)) (eff bo : List Nat) : TA := fun σ H Q => ∃ S Ts A ts Ts', SR g S H σ Ts A ∧ f Ts = some (ts, Ts') ∧
  ∀ xs H' S' A' Ax, SR g S' H' σ Ts' A' → RpL g S' H' ts xs Ax → Ow bo H A S' A' Ax → Po S H A S' H' A' → Stb eff H Ts A H' Ts' A' → Q xs H'
def PEm (g : Gc) (X : Cx) (e : Expr) (f : M T) (eff bo : List Nat) : Prop := PE X e (TM g f eff bo)
def PTm (g : Gc) (X : Cx) (e : Expr) (f : M Bool) (eff : List Nat) : Prop := PT X e (TMt g f eff)
def PAm (g : Gc) (X : Cx) (es : List Expr) (f : M (List T)) (eff bo : List Nat) : Prop := PA X es (TMs g f eff bo)
theorem PE.imp {X : Cx} {e : Expr} {t t' : TE} (h : PE X e t) (i : ∀ σ H Q, t' σ H Q → t σ H Q) : PE X e t' := ⟨fun pins s σ H Q I q => h.run pins s σ H Q I (i σ H Q q)⟩
theorem PT.imp {X : Cx} {e : Expr} {t t' : TT} (h : PT X e t) (i : ∀ σ H Q, t' σ H Q → t σ H Q) : PT X e t' := ⟨fun pins s σ H Q I q => h.run pins s σ H Q I (i σ H Q q)⟩
theorem PA.imp {X : Cx} {e : List Expr} {t t' : TA} (h : PA X e t) (i : ∀ σ H Q, t' σ H Q → t σ H Q) : PA X e t' := ⟨fun pos pins s σ H Q I q => h.run pos pins s σ H Q I (i σ H Q q)⟩
theorem PS.imp {X : Cx} {e : Stmt} {t t' : TS} (h : PS X e t) (i : ∀ D σ H, t' D σ H → t D σ H) : PS X e t' := ⟨fun pins s σ H D I q => h.run pins s σ H D I (i D σ H q)⟩
theorem PSs.imp {X : Cx} {e : List Stmt} {t t' : TS} (h : PSs X e t) (i : ∀ D σ H, t' D σ H → t D σ H) : PSs X e t' := ⟨fun pins s σ H D I q => h.run pins s σ H D I (i D σ H q)⟩
end
end MI
namespace MI
open PySem L2
/-! ### a new thing -/
/-- z stands for t in H', which has all that H has; its own nodes are new -/
structure New (g : Gc) (S : Addr → Prop) (H H' : Hp) (t : T) (z : V) (Az : List Addr) : Prop where
  ext : ∀ a o, H a = some o → H' a = some o
  rep : Rp g S H' t z Az
  nd : Az.Nodup
  new : ∀ a ∈ Az, H a = none
section
variable {g : Gc} {S S1 S2 : Addr → Prop} {H H1 H2 : Hp} {A A1 A2 : Nat → List Addr} {σ : L2.St} {Ts Ts1 Ts2 : List T} {eff eff1 eff2 bo bo2 : List Nat} {Ax Ay : List Addr}
theorem Rp.ext (e : ∀ a o, H a = some o → H1 a = some o) {t : T} {x : V} (r : Rp g S H t x Ax) : Rp g S H1 t x Ax :=
  Rp.keep (M := fun _ => False) (fun a o h _ => e a o h) (fun _ h => h.elim) (fun _ _ h => h) (fun _ h => h) t x Ax r fun _ _ h => h
theorem RpL.ext (e : ∀ a o, H a = some o → H1 a = some o) {t : List T} {x : List V} (r : RpL g S H t x Ax) : RpL g S H1 t x Ax :=
  RpL.keep (M := fun _ => False) (fun a o h _ => e a o h) (fun _ h => h.elim) (fun _ _ h => h) (fun _ h => h) t x Ax r fun _ _ h => h
theorem SR.ext (R : SR g S H σ Ts A) (e : ∀ a o, H a = some o → H1 a = some o) : SR g S H1 σ Ts A where
  rep := fun i => by
    rcases R.rep i with h | ⟨x, h1, h2⟩
    · exact .inl h
    · exact .inr ⟨x, h1, h2.ext e⟩
  nd := R.nd
  dj := R.dj
  ns := R.ns
  len := R.len
  st := fun a h => let ⟨o, q⟩ := R.st a h; ⟨o, e a o q⟩
theorem Po.ext (e : ∀ a o, H a = some o → H1 a = some o) : Po S H A S H1 A := ⟨fun a o h _ => e a o h, fun _ h => h, fun _ h => .inl h, fun i a h => .inl ⟨i, h⟩⟩
theorem Stb.ext (e : ∀ a o, H a = some o → H1 a = some o) : Stb eff H Ts A H1 Ts A := fun j _ => ⟨rfl, rfl, fun a _ o h => e a o h⟩
theorem SR.fresh (R : SR g S H σ Ts A) {a : Addr} (h : H a = none) : ¬ S a ∧ ∀ i, a ∉ A i :=
  ⟨(fun z => by obtain ⟨o, q⟩ := R.st a z; rw [h] at q; cases q), fun i z => mut_ne (R.cells i a z) h⟩
theorem Ow.of_new (R : SR g S H σ Ts A) {t : T} {z : V} {Az : List Addr} (n : New g S H H1 t z Az) : Ow bo H A S A Az :=
  ⟨fun a ha => (R.fresh (n.new a ha)).1, fun i _ a ha => (R.fresh (n.new a ha)).2 i, fun _ => n.nd, fun a ha => .inr (n.new a ha)⟩
theorem New.atom {t : T} {z : V} (r : Rp g S H t z []) : New g S H H t z [] := ⟨fun _ _ e => e, r, List.nodup_nil, fun _ h => nomatch h⟩
/-! ### operations by values -/
abbrev RC := List V → Hp → VK → Prop
/-- an operation on two values does what f does on trees -/
def OpT (g : Gc) (r : R2) (f : T → T → Option T) : Prop := ∀ S H a b x y Ax Ay t Q, Rp g S H a x Ax → Rp g S H b y Ay → f a b = some t → (∀ z H' Az, New g S H H' t z Az → Q z H') → r x y H Q
def UnT (g : Gc) (r : V → Hp → VK → Prop) (f : T → Option T) : Prop := ∀ S H a x Ax t Q, Rp g S H a x Ax → f a = some t → (∀ z H' Az, New g S H H' t z Az → Q z H') → r x H Q
def CallT (g : Gc) (r : RC) (f : List T → Option T) : Prop := ∀ S H ts xs Ax t Q, RpL g S H ts xs Ax → f ts = some t → (∀ z H' Az, New g S H H' t z Az → Q z H') → r xs H Q
/-- a method's: the object, the arguments -/
def MtT (g : Gc) (r : V → List V → Hp → VK → Prop) (f : T → List T → Option T) : Prop := ∀ S H a ts x xs Aa Ax t Q, Rp g S H a x Aa → RpL g S H ts xs Ax → f a ts = some t → (∀ z H' Az, New g S H H' t z Az → Q z H') → r x xs H Q
/-! ### two parts -/
theorem tm_two {fa : M T} {fb : M T} {R : V → V → Hp → Prop} {a b : T} (d : ∀ j ∈ bo, j ∉ eff2) (SR0 : SR g S H σ Ts A) (ea : fa Ts = some (a, Ts1)) (eb : fb Ts1 = some (b, Ts2))
    (h : ∀ x y H' S' A' Ax Ay, SR g S' H' σ Ts2 A' → Rp g S' H' a x Ax → Rp g S' H' b y Ay → Ow bo H A S' A' Ax → Ow (bo ++ bo2) H A S' A' (Ax ++ Ay) → Po S H A S' H' A' → Stb (eff1 ++ eff2) H Ts A H' Ts2 A' → R x y H') :
    TM g fa eff1 bo σ H fun x H1 => TM g fb eff2 bo2 σ H1 fun y H2 => R x y H2 := by
  refine ⟨S, Ts, A, a, Ts1, SR0, ea, fun x H1 S1 A1 Ax R1 r1 o1 p1 s1 => ⟨S1, Ts1, A1, b, Ts2, R1, eb, fun y H2 S2 A2 Ay R2 r2 o2 p2 s2 => ?_⟩⟩
  have hc := Rp.cells _ _ _ r1
  have o1' := o1.held R1 R2 hc p2 s2 d
  exact h x y H2 S2 A2 Ax Ay R2 (r1.held R1 o1 p2 s2 d) r2 o1' (Ow.app p1 hc o1 o1' o2) (p1.trans SR0 p2) (s1.trans s2)
end
section
variable {g : Gc} {X : Cx} {a b c : Expr} {fa fb fc : M T} {e1 e2 e3 b1 b2 b3 : List Nat} {pos : Pos} {r : R2} {f : T → T → Option T}
def m2 (f : T → T → Option T) (fa fb : M T) : M T := bnd fa fun a => bnd fb fun b => lft (f a b)
def m1 (f : T → Option T) (fa : M T) : M T := bnd fa fun a => lft (f a)
/-- the reading of two parts and an operation -/
theorem tm_op2 {fa fb : M T} (hop : OpT g r f) (d : ∀ j ∈ b1, j ∉ e2) (σ : L2.St) (H : Hp) (Q : VK) (h : TM g (m2 f fa fb) (e1 ++ e2) [] σ H Q) : tOp r (TM g fa e1 b1) (TM g fb e2 b2) σ H Q := by
  obtain ⟨S, Ts, A, t, Ts', R, e, k⟩ := h
  obtain ⟨ta, Ts1, ea, e⟩ := bnd_some e
  obtain ⟨tb, Ts2, eb, e⟩ := bnd_some e
  obtain ⟨ef, rfl⟩ := lft_some e
  refine tm_two d R ea eb fun x y H' S' A' Ax Ay R' rx ry _ _ p s => ?_
  refine hop S' H' ta tb x y Ax Ay t Q rx ry ef fun z H2 Az n => ?_
  have R2 := R'.ext n.ext
  have o : Ow [] H' A' S' A' Az := Ow.of_new R' n
  refine k z H2 S' A' Az R2 n.rep ⟨o.ns, o.dj, o.nd, o.back p⟩ (p.trans R (Po.ext n.ext)) ?_
  have := s.trans (Stb.ext (eff := []) (Ts := Ts') (A := A') n.ext)
  rw [List.append_nil] at this
  exact this
theorem tm_un1 {fa : M T} {r : V → Hp → VK → Prop} {f : T → Option T} (hop : UnT g r f) (σ : L2.St) (H : Hp) (Q : VK) (h : TM g (m1 f fa) e1 [] σ H Q) : tUn r (TM g fa e1 b1) σ H Q := by
  obtain ⟨S, Ts, A, t, Ts', R, e, k⟩ := h
  obtain ⟨ta, Ts1, ea, e⟩ := bnd_some e
  obtain ⟨ef, rfl⟩ := lft_some e
  refine ⟨S, Ts, A, ta, Ts', R, ea, fun x H' S' A' Ax R' rx o1 p s => ?_⟩
  refine hop S' H' ta x Ax t Q rx ef fun z H2 Az n => ?_
  have o : Ow [] H' A' S' A' Az := Ow.of_new R' n
  refine k z H2 S' A' Az (R'.ext n.ext) n.rep ⟨o.ns, o.dj, o.nd, o.back p⟩ (p.trans R (Po.ext n.ext)) ?_
  have := s.trans (Stb.ext (eff := []) (Ts := Ts') (A := A') n.ext)
  rw [List.append_nil] at this
  exact this
theorem tm_bin {op : Operator} (ho : OpR X (binaryOp op) r) (hop : OpT g r f) (ha : PEm g X a fa e1 b1) (hb : PEm g X b fb e2 b2) (d : ∀ j ∈ b1, j ∉ e2 := by decide) : PEm g X (.BinOp a op b pos) (m2 f fa fb) (e1 ++ e2) [] :=
  PE.imp (pe_op ho ha hb) (tm_op2 hop d)
theorem tm_un {op : UnaryOp} {r : V → Hp → VK → Prop} {f : T → Option T} (ho : UnR X (unaryOp op) r) (hop : UnT g r f) (ha : PEm g X a fa e1 b1) : PEm g X (.UnaryOp op a pos) (m1 f fa) e1 [] :=
  PE.imp (pe_un ho ha) (tm_un1 hop)
theorem tm_cmp {op : CmpOp} (ho : OpR X (compareOp op) r) (hop : OpT g r f) (ha : PEm g X a fa e1 b1) (hb : PEm g X b fb e2 b2) (d : ∀ j ∈ b1, j ∉ e2 := by decide) (hm : behindInMarks op b = false := by rfl) : PEm g X (.Compare a [op] [b] pos) (m2 f fa fb) (e1 ++ e2) [] :=
  PE.imp (pe_cmpR ho ha hb hm) (tm_op2 hop d)
/-- as a test: the tree is a truth value -/
def asB (fa : M T) : M Bool := bnd fa fun t => lft (match t with
  | .bl b => some b
  | _ => none)
theorem asB_some {fa : M T} {s s' : List T} {k : Bool} (h : asB fa s = some (k, s')) : fa s = some (.bl k, s') := by
  obtain ⟨t, s1, e1, e2⟩ := bnd_some h
  obtain ⟨e3, rfl⟩ := lft_some e2
  cases t with
  | bl q => injection e3 with e3; rw [e1, e3]
  | _ => cases e3
theorem tmt_of {t : TE} {fa : M T} (h : ∀ σ H Q, TM g fa e1 b1 σ H Q → t σ H Q) (σ : L2.St) (H : Hp) (Q : Bool → Hp → Prop) (q : TMt g (asB fa) e1 σ H Q) : tTest t σ H Q := by
  obtain ⟨S, Ts, A, k, Ts', R, e, w⟩ := q
  refine h σ H _ ⟨S, Ts, A, .bl k, Ts', R, asB_some e, fun x H' S' A' Ax R' rx o p s => ?_⟩
  exact ⟨k, rx.1, w H' S' A' R' p s⟩
theorem tmt_cmp {op : CmpOp} (ho : OpR X (compareOp op) r) (hop : OpT g r f) (ha : PEm g X a fa e1 b1) (hb : PEm g X b fb e2 b2) (d : ∀ j ∈ b1, j ∉ e2 := by decide) (hm : behindInMarks op b = false := by rfl) : PTm g X (.Compare a [op] [b] pos) (asB (m2 f fa fb)) (e1 ++ e2) :=
  PT.imp (pt_cmpR ho ha hb hm) (tmt_of (b1 := []) (tm_op2 hop d))
end
/-! ### names, constants -/
section
variable {g : Gc} {X : Cx} {pos : Pos}
def mC (t : T) : M T := ret t
def mRd (i : Nat) : M T := fun Ts => match slot Ts i with
  | .dead => none
  | t => some (t, Ts)
/-- read and hand on: what is plain or frozen alone -/
def mIm (fa : M T) : M T := bnd fa fun t => lft (if t.imm then some t else none)
/-- read and hand on: an own tree is frozen first -/
def mFz (i : Nat) : M T := fun Ts => match slot Ts i with
  | .dead => none
  | t => if t.imm then some (t, Ts) else some (t.fz, Ts.set i t.fz)
/-- read and hand on, the name is dead then -/
def mMv (i : Nat) : M T := fun Ts => match slot Ts i with
  | .dead => none
  | t => if t.imm then some (t, Ts) else some (t, Ts.set i .dead)
theorem tm_c {v : V} {t : T} {e : Expr} (h : PE X e (tC v)) (r : ∀ S H, Rp g S H t v []) : PEm g X e (mC t) [] [] :=
  PE.imp h fun σ H Q ⟨S, Ts, A, t', Ts', R, e, k⟩ => by
    have e : some (t, Ts) = some (t', Ts') := e
    injection e with e
    injection e with e1 e2
    subst e1; subst e2
    exact k v H S A [] R (r S H) Ow.nil Po.refl Stb.refl
theorem tm_int {i : Int} {j : Nat} : PEm g X (.Constant (.int i) j pos) (mC (.int i)) [] [] := tm_c pe_int fun _ _ => ⟨rfl, rfl⟩
theorem tm_str {x : Str} {j : Nat} : PEm g X (.Constant (.str x) j pos) (mC (.str x)) [] [] := tm_c pe_str fun _ _ => ⟨rfl, rfl⟩
theorem tm_bl {b : Bool} {j : Nat} : PEm g X (.Constant (.bool b) j pos) (mC (.bl b)) [] [] := tm_c pe_bl fun _ _ => ⟨rfl, rfl⟩
theorem tm_non {j : Nat} : PEm g X (.Constant .none j pos) (mC .non) [] [] := tm_c pe_non fun _ _ => ⟨rfl, rfl⟩
theorem mRd_some {i : Nat} {Ts Ts' : List T} {t : T} (h : mRd i Ts = some (t, Ts')) : slot Ts i = t ∧ t ≠ .dead ∧ Ts' = Ts := by
  unfold mRd at h
  cases e : slot Ts i <;> rw [e] at h <;> first | (cases h; done) | (injection h with h; injection h with h1 h2; subst h1; subst h2; exact ⟨rfl, (fun z => nomatch z), rfl⟩)
theorem SR.at {S : Addr → Prop} {H : Hp} {σ : L2.St} {Ts : List T} {A : Nat → List Addr} {i : Nat} {t : T} (R : SR g S H σ Ts A) (e : slot Ts i = t) (n : t ≠ .dead) : ∃ x, σ[i]? = some (some x) ∧ Rp g S H t x (A i) := by
  rcases R.rep i with ⟨h, _⟩ | ⟨x, h1, h2⟩
  · exact absurd (e.symm.trans h) n
  · rw [e] at h2
    refine ⟨x, ?_, h2⟩
    rw [List.getD_eq_getElem?_getD] at h1
    cases q : σ[i]? with
    | none => rw [q] at h1; cases h1
    | some o => rw [q] at h1; exact congrArg some h1
theorem tm_rd {i : Nat} {e : Expr} (h : PE X e (tVar i)) : PEm g X e (mRd i) [] [i] :=
  PE.imp h fun σ H Q ⟨S, Ts, A, t, Ts', R, e, k⟩ => by
    obtain ⟨e1, n, rfl⟩ := mRd_some e
    obtain ⟨x, hx, rx⟩ := R.at e1 n
    refine ⟨x, hx, k x H S A (A i) R rx ⟨R.ns i, fun j hj a ha => R.dj i j (fun z => hj (by rw [z]; exact List.mem_singleton.mpr rfl)) a ha, (fun z => nomatch z), fun a ha => .inl ⟨i, ha⟩⟩ Po.refl Stb.refl⟩
theorem tm_im {e : Expr} {fa : M T} {e1 b1 : List Nat} (h : PEm g X e fa e1 b1) : PEm g X e (mIm fa) e1 [] :=
  PE.imp h fun σ H Q ⟨S, Ts, A, t, Ts', R, e, k⟩ => by
    obtain ⟨t', Ts1, ea, e⟩ := bnd_some e
    obtain ⟨ef, rfl⟩ := lft_some e
    split at ef
    · rename_i hi
      injection ef with ef
      subst ef
      refine ⟨S, Ts, A, t', Ts', R, ea, fun x H' S' A' Ax R' rx o p s => ?_⟩
      have en := Rp.imm_nil _ _ _ rx hi
      subst en
      exact k x H' S' A' [] R' rx Ow.nil p s
    · cases ef
/-- the slot's own tree is frozen -/
theorem SR.frz {S : Addr → Prop} {H : Hp} {σ : L2.St} {Ts : List T} {A : Nat → List Addr} {i : Nat} {t : T} (R : SR g S H σ Ts A) (e : slot Ts i = t) (n : t ≠ .dead) :
    SR g (fun a => S a ∨ a ∈ A i) H σ (Ts.set i t.fz) (fun j => if j = i then [] else A j) ∧ Po S H A (fun a => S a ∨ a ∈ A i) H (fun j => if j = i then [] else A j) ∧ Stb [i] H Ts A H (Ts.set i t.fz) (fun j => if j = i then [] else A j) := by
  obtain ⟨x, hx, rx⟩ := R.at e n
  have il : i < Ts.length := by
    rw [R.len]
    exact (List.getElem?_eq_some_iff.mp hx).1
  have hset : ∀ j, j ≠ i → slot (Ts.set i t.fz) j = slot Ts j := fun j hj => by
    unfold slot
    rw [List.getD_eq_getElem?_getD, List.getD_eq_getElem?_getD, List.getElem?_set_ne (Ne.symm hj)]
  have hself : slot (Ts.set i t.fz) i = t.fz := by
    unfold slot
    rw [List.getD_eq_getElem?_getD, List.getElem?_set_self il]; rfl
  refine ⟨⟨fun j => ?_, fun j => ?_, fun j k hjk a ha => ?_, fun j a ha => ?_, by rw [List.length_set]; exact R.len, fun a h => ?_⟩, ⟨fun _ _ h _ => h, fun a h => .inl h, fun a h => h.elim .inl fun z => .inr (.inl ⟨i, z⟩), fun j a h => ?_⟩, fun j hj => ?_⟩
  · by_cases hj : j = i
    · subst hj
      rw [hself, if_pos rfl]
      refine .inr ⟨x, ?_, Rp.fz (fun _ h => .inl h) t x _ rx fun a ha => .inr ha⟩
      rw [List.getD_eq_getElem?_getD, hx]; rfl
    · rw [hset j hj, if_neg hj]
      rcases R.rep j with h | ⟨y, h1, h2⟩
      · exact .inl h
      · exact .inr ⟨y, h1, Rp.keep (M := fun _ => False) (fun a o h _ => h) (fun _ h => h.elim) (fun _ _ h => h) (fun _ h => .inl h) _ _ _ h2 fun _ _ h => h⟩
  · split
    · exact List.nodup_nil
    · exact R.nd j
  · split at ha
    · exact nomatch ha
    · split
      · exact fun z => nomatch z
      · exact R.dj j k hjk a ha
  · split at ha
    · exact nomatch ha
    · rename_i hj
      rintro (h | h)
      · exact R.ns j a ha h
      · exact R.dj j i hj a ha h
  · rcases h with h | h
    · exact R.st a h
    · have := R.cells i a h
      cases q : H a with
      | none => rw [q] at this; exact this.elim
      | some o => exact ⟨o, rfl⟩
  · split at h
    · exact nomatch h
    · exact .inl ⟨j, h⟩
  · have hj : j ≠ i := fun z => hj (by rw [z]; exact List.mem_singleton.mpr rfl)
    exact ⟨hset j hj, if_neg hj, fun _ _ _ h => h⟩
theorem tm_fz {i : Nat} {e : Expr} (h : PE X e (tVar i)) : PEm g X e (mFz i) [i] [] :=
  PE.imp h fun σ H Q ⟨S, Ts, A, t, Ts', R, e, k⟩ => by
    have key : ∃ u, slot Ts i = u ∧ u ≠ .dead ∧ (if u.imm then some (u, Ts) else some (u.fz, Ts.set i u.fz)) = some (t, Ts') := by
      unfold mFz at e
      cases q : slot Ts i <;> rw [q] at e <;> first | (cases e; done) | exact ⟨_, rfl, (fun z => nomatch z), e⟩
    obtain ⟨u, e1, n, e2⟩ := key
    obtain ⟨x, hx, rx⟩ := R.at e1 n
    refine ⟨x, hx, ?_⟩
    split at e2
    · rename_i hi
      injection e2 with e2
      injection e2 with h1 h2
      subst h1; subst h2
      have en := Rp.imm_nil _ _ _ rx hi
      rw [en] at rx
      exact k x H S A [] R rx Ow.nil Po.refl Stb.refl
    · injection e2 with e2
      injection e2 with h1 h2
      subst h1; subst h2
      obtain ⟨R', p, s⟩ := R.frz e1 n
      exact k x H _ _ [] R' (Rp.fz (fun _ h => .inl h) u x _ rx fun a ha => .inr ha) Ow.nil p s
end
end MI
namespace MI
open PySem L2
section
variable {g : Gc} {S S1 S2 : Addr → Prop} {H H1 H2 : Hp} {A A1 A2 : Nat → List Addr} {σ : L2.St} {Ts Ts1 Ts2 : List T} {eff eff1 eff2 bo bo2 : List Nat} {Ax Ay : List Addr}
theorem RpL.at : ∀ (ts : List T) (xs : List V) (A : List Addr), RpL g S H ts xs A → ∀ (i : Nat) (t : T), ts[i]? = some t → ∃ x B, xs[i]? = some x ∧ Rp g S H t x B ∧ B.Sublist A
  | [], _, _, h, i, t, e => by simp at e
  | t0 :: ts, xs, A, h, i, t, e => by
    obtain ⟨y, ys, A1, A2, e1, e2, r1, r2⟩ := h
    subst e1; subst e2
    cases i with
    | zero =>
      simp at e; subst e
      exact ⟨y, A1, rfl, r1, List.sublist_append_left _ _⟩
    | succ i =>
      obtain ⟨x, B, h1, h2, h3⟩ := RpL.at ts ys A2 r2 i t (by simpa using e)
      exact ⟨x, B, by simpa using h1, h2, h3.trans (List.sublist_append_right _ _)⟩
theorem Ow.part {B : List Addr} (o : Ow bo H A S2 A2 Ax) (h : B.Sublist Ax) : Ow bo H A S2 A2 B :=
  ⟨fun a ha => o.ns a (h.subset ha), fun i hi a ha => o.dj i hi a (h.subset ha), fun e => (o.nd e).sublist h, fun a ha => o.new a (h.subset ha)⟩
theorem RpL.imm_one {ts : List T} {xs : List V} (r : RpL g S H ts xs Ax) (hi : immL ts = true) : RpL g S H ts xs [] := by
  have e := RpL.imm_nil _ _ _ r hi
  rw [← e]; exact r
theorem Ow.rebase (p : Po S H A S1 H1 A1) (o : Ow bo H1 A1 S2 A2 Ay) : Ow bo H A S2 A2 Ay := ⟨o.ns, o.dj, o.nd, o.back p⟩
/-- the slot's tree is moved out -/
theorem SR.mv {i : Nat} {t : T} (R : SR g S H σ Ts A) (e : slot Ts i = t) (n : t ≠ .dead) :
    SR g S H σ (Ts.set i .dead) (fun j => if j = i then [] else A j) ∧ Po S H A S H (fun j => if j = i then [] else A j) ∧ Stb [i] H Ts A H (Ts.set i .dead) (fun j => if j = i then [] else A j) ∧ Ow [] H A S (fun j => if j = i then [] else A j) (A i) := by
  obtain ⟨x, hx, rx⟩ := R.at e n
  have il : i < Ts.length := by
    rw [R.len]
    exact (List.getElem?_eq_some_iff.mp hx).1
  have hset : ∀ j, j ≠ i → slot (Ts.set i .dead) j = slot Ts j := fun j hj => by
    unfold slot
    rw [List.getD_eq_getElem?_getD, List.getD_eq_getElem?_getD, List.getElem?_set_ne (Ne.symm hj)]
  have hself : slot (Ts.set i .dead) i = .dead := by
    unfold slot
    rw [List.getD_eq_getElem?_getD, List.getElem?_set_self il]; rfl
  refine ⟨⟨fun j => ?_, fun j => ?_, fun j k hjk a ha => ?_, fun j a ha => ?_, by rw [List.length_set]; exact R.len, R.st⟩, ⟨fun _ _ h _ => h, fun a h => h, fun a h => .inl h, fun j a h => ?_⟩, fun j hj => ?_, ⟨R.ns i, fun j _ a ha => ?_, fun _ => R.nd i, fun a ha => .inl ⟨i, ha⟩⟩⟩
  · by_cases hj : j = i
    · subst hj
      rw [hself, if_pos rfl]
      exact .inl ⟨rfl, rfl⟩
    · rw [hset j hj, if_neg hj]
      exact R.rep j
  · split
    · exact List.nodup_nil
    · exact R.nd j
  · split at ha
    · exact nomatch ha
    · split
      · exact fun z => nomatch z
      · exact R.dj j k hjk a ha
  · split at ha
    · exact nomatch ha
    · exact R.ns j a ha
  · split at h
    · exact nomatch h
    · exact .inl ⟨j, h⟩
  · have hj : j ≠ i := fun z => hj (by rw [z]; exact List.mem_singleton.mpr rfl)
    exact ⟨hset j hj, if_neg hj, fun _ _ _ h => h⟩
  · split
    · exact fun z => nomatch z
    · rename_i hj
      exact R.dj i j (Ne.symm hj) a ha
end
section
variable {g : Gc} {X : Cx} {a b c e : Expr} {es : List Expr} {fa fb fc : M T} {fs : M (List T)} {e1 e2 e3 b1 b2 b3 : List Nat} {pos p2 : Pos} {r : R2} {f : T → T → Option T}
theorem tm_mv {i : Nat} {e : Expr} (h : PE X e (tVar i)) : PEm g X e (mMv i) [i] [] :=
  PE.imp h fun σ H Q ⟨S, Ts, A, t, Ts', R, e, k⟩ => by
    have key : ∃ u, slot Ts i = u ∧ u ≠ .dead ∧ (if u.imm then some (u, Ts) else some (u, Ts.set i .dead)) = some (t, Ts') := by
      unfold mMv at e
      cases q : slot Ts i <;> rw [q] at e <;> first | (cases e; done) | exact ⟨_, rfl, (fun z => nomatch z), e⟩
    obtain ⟨u, e1, n, e2⟩ := key
    obtain ⟨x, hx, rx⟩ := R.at e1 n
    refine ⟨x, hx, ?_⟩
    split at e2
    · rename_i hi
      injection e2 with e2
      injection e2 with h1 h2
      subst h1; subst h2
      have en := Rp.imm_nil _ _ _ rx hi
      rw [en] at rx
      exact k x H S A [] R rx Ow.nil Po.refl Stb.refl
    · injection e2 with e2
      injection e2 with h1 h2
      subst h1; subst h2
      obtain ⟨R', p, s, o⟩ := R.mv e1 n
      exact k x H _ _ (A i) R' rx o p s
/-! ### lists of parts -/
def mNil : M (List T) := ret []
def mCons (fa : M T) (fs : M (List T)) : M (List T) := bnd fa fun a => bnd fs fun as => ret (a :: as)
/-- *e: the items of a list or tuple, all plain or frozen -/
def kids : T → Option (List T)
  | .nd .tup ts => some ts
  | .nd (.lst _) ts => some ts
  | .nd .scr ts => some ts
  | _ => none
def kidsI (t : T) : Option (List T) := match kids t with
  | some ts => if immL ts then some ts else none
  | none => none
def mStar (fa : M T) (fs : M (List T)) : M (List T) := bnd fa fun a => bnd (lft (kidsI a)) fun ks => bnd fs fun as => ret (ks ++ as)
theorem tms_nil : PAm g X [] mNil [] [] :=
  PA.imp pa_nil fun σ H Q ⟨S, Ts, A, ts, Ts', R, e, k⟩ => by
    have e : some (([] : List T), Ts) = some (ts, Ts') := e
    injection e with e
    injection e with h1 h2
    subst h1; subst h2
    exact k [] H S A [] R ⟨rfl, rfl⟩ Ow.nil Po.refl Stb.refl
theorem tms_cons_r (d : ∀ j ∈ b1, j ∉ e2) (σ : L2.St) (H : Hp) (Q : List V → Hp → Prop) (h : TMs g (mCons fa fs) (e1 ++ e2) (b1 ++ b2) σ H Q) : tCons (TM g fa e1 b1) (TMs g fs e2 b2) σ H Q := by
  obtain ⟨S, Ts, A, ts, Ts', R, e, k⟩ := h
  obtain ⟨ta, Ts1, ea, e⟩ := bnd_some e
  obtain ⟨tb, Ts2, eb, e⟩ := bnd_some e
  have e : some (ta :: tb, Ts2) = some (ts, Ts') := e
  injection e with e
  injection e with h1 h2
  subst h1; subst h2
  refine ⟨S, Ts, A, ta, Ts1, R, ea, fun x H1 S1 A1 Ax R1 r1 o1 p1 s1 => ⟨S1, Ts1, A1, tb, Ts2, R1, eb, fun ys H2 S2 A2 Ay R2 r2 o2 p2 s2 => ?_⟩⟩
  have hc := Rp.cells _ _ _ r1
  have o1' := o1.held R1 R2 hc p2 s2 d
  exact k (x :: ys) H2 S2 A2 (Ax ++ Ay) R2 ⟨x, ys, Ax, Ay, rfl, rfl, r1.held R1 o1 p2 s2 d, r2⟩ (Ow.app p1 hc o1 o1' o2) (p1.trans R p2) (s1.trans s2)
theorem tms_cons (ha : PEm g X e fa e1 b1) (hs : PAm g X es fs e2 b2) (d : ∀ j ∈ b1, j ∉ e2 := by decide) (hst : starEach (e :: es) X.env = (false, eval e X.env) :: starEach es X.env := by rfl) : PAm g X (e :: es) (mCons fa fs) (e1 ++ e2) (b1 ++ b2) :=
  PA.imp (pa_cons ha hs hst) (tms_cons_r d)
theorem kidsI_rep {S : Addr → Prop} {H : Hp} {t : T} {ks : List T} {x : V} {Ax : List Addr} (hk : kidsI t = some ks) (r : Rp g S H t x Ax) : ∃ p xs, x = .ref p ∧ (SqT g.K H p xs ∨ SqL g.K H p xs) ∧ RpL g S H ks xs [] := by
  unfold kidsI kids at hk
  split at hk
  · rename_i h
    split at hk
    · rename_i hi
      injection hk with hk; subst hk
      split at h
      · injection h with h; subst h
        obtain ⟨a, xs, B, e, at_, eA, c, r⟩ := r
        exact ⟨a, xs, e, .inl at_.sqT, r.imm_one hi⟩
      · rename_i o _
        injection h with h; subst h
        obtain ⟨a, xs, B, e, at_, eA, c, r⟩ := r
        exact ⟨a, xs, e, .inr at_.sqL, r.imm_one hi⟩
      · injection h with h; subst h
        obtain ⟨a, xs, B, e, at_, eA, c, r⟩ := r
        exact ⟨a, xs, e, .inr at_.sqS, r.imm_one hi⟩
      · cases h
    · cases hk
  · cases hk
theorem kidsI_repA {S : Addr → Prop} {H : Hp} {t : T} {ks : List T} {x : V} {Ax : List Addr} (hk : kidsI t = some ks) (r : Rp g S H t x Ax) : ∃ p xs, x = .ref p ∧ (At g S H .tup p xs ∨ SqL g.K H p xs) ∧ RpL g S H ks xs [] := by
  unfold kidsI kids at hk
  split at hk
  · rename_i h
    split at hk
    · rename_i hi
      injection hk with hk; subst hk
      split at h
      · injection h with h; subst h
        obtain ⟨a, xs, B, e, at_, eA, c, r⟩ := r
        exact ⟨a, xs, e, .inl at_, r.imm_one hi⟩
      · rename_i o _
        injection h with h; subst h
        obtain ⟨a, xs, B, e, at_, eA, c, r⟩ := r
        exact ⟨a, xs, e, .inr at_.sqL, r.imm_one hi⟩
      · injection h with h; subst h
        obtain ⟨a, xs, B, e, at_, eA, c, r⟩ := r
        exact ⟨a, xs, e, .inr at_.sqS, r.imm_one hi⟩
      · cases h
    · cases hk
  · cases hk
theorem tms_star_r (hK : g.K = X.K) (σ : L2.St) (H : Hp) (Q : List V → Hp → Prop) (h : TMs g (mStar fa fs) (e1 ++ e2) b2 σ H Q) : StX.tStar X.K (TM g fa e1 b1) (TMs g fs e2 b2) σ H Q := by
  obtain ⟨S, Ts, A, ts, Ts', R, e, k⟩ := h
  obtain ⟨ta, Ts1, ea, q1⟩ := bnd_some e
  obtain ⟨ks, Ts1', ek0, q2⟩ := bnd_some q1
  obtain ⟨ek, eT⟩ := lft_some ek0
  subst eT
  obtain ⟨tb, Ts2, eb, q3⟩ := bnd_some q2
  have q4 : some (ks ++ tb, Ts2) = some (ts, Ts') := q3
  injection q4 with q4
  injection q4 with h1 h2
  subst h1; subst h2
  refine ⟨S, Ts, A, ta, Ts1', R, ea, fun x H1 S1 A1 Ax R1 r1 o1 p1 s1 => ?_⟩
  obtain ⟨p, xs, ex, hx, rk⟩ := kidsI_rep ek r1
  rw [hK] at hx
  refine ⟨p, xs, ex, hx, S1, Ts1', A1, tb, Ts2, R1, eb, fun ys H2 S2 A2 Ay R2 r2 o2 p2 s2 => ?_⟩
  have rk2 : RpL g S2 H2 ks xs [] := RpL.held (bo := []) (H := H) (A := A) R1 rk Ow.nil p2 s2 fun _ z => nomatch z
  exact k (xs ++ ys) H2 S2 A2 Ay R2 (RpL.append _ _ _ _ _ _ rk2 r2) (o2.rebase p1) (p1.trans R p2) (s1.trans s2)
theorem tms_star (hK : g.K = X.K) (ha : PEm g X e fa e1 b1) (hs : PAm g X es fs e2 b2) (hst : starEach (.Starred e p2 :: es) X.env = (true, eval e X.env) :: starEach es X.env := by rfl) : PAm g X (.Starred e p2 :: es) (mStar fa fs) (e1 ++ e2) b2 :=
  PA.imp (StX.pa_star ha hs hst) (tms_star_r hK)
/-! ### displays -/
def mTup (fs : M (List T)) : M T := bnd fs fun ts => lft (if ts.length ≤ sizeLine then some (.nd .tup ts) else none)
def mLst (fs : M (List T)) : M T := bnd fs fun ts => lft (if ts.length ≤ sizeLine then some (.nd (.lst true) ts) else none)
section
variable {S : Addr → Prop} {H : Hp} {A : Nat → List Addr} {σ : L2.St} {Ts : List T}
theorem upd_ext {p : Addr} {o : HO} (hp : H p = none) : ∀ a u, H a = some u → upd H p o a = some u := fun a u e => by rw [upd_ne (ne_of_none e hp)]; exact e
end
theorem tm_tup {k : Nat} (hs : PAm g X es fs e1 []) : PEm g X (.Tuple es k pos) (mTup fs) e1 [] :=
  PE.imp (pe_tup hs) fun σ H Q ⟨S, Ts, A, t, Ts', R, e, k⟩ => by
    obtain ⟨ts, Ts1, ea, e⟩ := bnd_some e
    obtain ⟨ef, rfl⟩ := lft_some e
    split at ef
    · rename_i hz
      injection ef with ef; subst ef
      refine ⟨S, Ts, A, ts, Ts', R, ea, fun xs H1 S1 A1 Ax R1 r1 o1 p1 s1 => ⟨by rw [← RpL.length _ _ _ r1]; exact hz, fun p hp => ?_⟩⟩
      have ex := upd_ext (o := .tup xs) hp
      have s2 := s1.trans (Stb.ext (eff := []) (Ts := Ts') (A := A1) ex)
      rw [List.append_nil] at s2
      exact k _ _ S1 A1 Ax (R1.ext ex) ⟨p, xs, Ax, rfl, .inl upd_same, rfl, .inr (.inl rfl), r1.ext ex⟩ o1 (p1.trans R (Po.ext ex)) s2
    · cases ef
theorem tm_lst (hs : PAm g X es fs e1 []) : PEm g X (.List es pos) (mLst fs) e1 [] :=
  PE.imp (pe_lst hs) fun σ H Q ⟨S, Ts, A, t, Ts', R, e, k⟩ => by
    obtain ⟨ts, Ts1, ea, e⟩ := bnd_some e
    obtain ⟨ef, rfl⟩ := lft_some e
    split at ef
    · rename_i hz
      injection ef with ef; subst ef
      refine ⟨S, Ts, A, ts, Ts', R, ea, fun xs H1 S1 A1 Ax R1 r1 o1 p1 s1 => ⟨by rw [← RpL.length _ _ _ r1]; exact hz, fun p hp => ?_⟩⟩
      have ex := upd_ext (o := .lst xs) hp
      have s2 := s1.trans (Stb.ext (eff := []) (Ts := Ts') (A := A1) ex)
      rw [List.append_nil] at s2
      have fr := R1.fresh hp
      have hc := RpL.cells _ _ _ r1
      have bk : (∃ j, p ∈ A j) ∨ H p = none := by
        cases e : H p with
        | none => exact .inr rfl
        | some ob =>
          by_cases hj : ∃ j, p ∈ A j
          · exact .inl hj
          · rw [p1.keep p ob e fun i hi => hj ⟨i, hi⟩] at hp; cases hp
      refine k _ _ S1 A1 (p :: Ax) (R1.ext ex) ⟨p, xs, Ax, rfl, upd_same, rfl, .inl rfl, r1.ext ex⟩ ⟨fun a ha => ?_, fun i hi a ha => ?_, fun e => List.nodup_cons.mpr ⟨fun z => mut_ne (hc p z) hp, o1.nd e⟩, fun a ha => ?_⟩ (p1.trans R (Po.ext ex)) s2
      · rcases List.mem_cons.mp ha with rfl | ha
        · exact fr.1
        · exact o1.ns a ha
      · rcases List.mem_cons.mp ha with rfl | ha
        · exact fr.2 i
        · exact o1.dj i hi a ha
      · rcases List.mem_cons.mp ha with rfl | ha
        · exact bk
        · exact o1.new a ha
    · cases ef
/-! ### builtins called -/
def mF (f : List T → Option T) (fs : M (List T)) : M T := bnd fs fun ts => lft (f ts)
theorem tm_cb_r {f : List T → Option T} {r : RC} (hf : CallT g r f) (σ : L2.St) (H : Hp) (Q : VK) (h : TM g (mF f fs) e1 [] σ H Q) : tCB r (TMs g fs e1 b1) σ H Q := by
  obtain ⟨S, Ts, A, t, Ts', R, e, k⟩ := h
  obtain ⟨ta, Ts1, ea, e⟩ := bnd_some e
  obtain ⟨ef, rfl⟩ := lft_some e
  refine ⟨S, Ts, A, ta, Ts', R, ea, fun x H' S' A' Ax R' rx o1 p s => ?_⟩
  refine hf S' H' ta x Ax t Q rx ef fun z H2 Az n => ?_
  have o : Ow [] H' A' S' A' Az := Ow.of_new R' n
  have s2 := s.trans (Stb.ext (eff := []) (Ts := Ts') (A := A') n.ext)
  rw [List.append_nil] at s2
  exact k z H2 S' A' Az (R'.ext n.ext) n.rep (o.rebase p) (p.trans R (Po.ext n.ext)) s2
theorem tm_callB {x : Str} {id : String} {r : RC} {f : List T → Option T} (hc : CallR X (.builtin id) r) (hf : CallT g r f) (hg : Gl X x) (hm : X.mg x = none) (hv : bootBuiltins x = some (.builtin id)) (ha : PAm g X (e :: es) fs e1 b1) (hn : x ≠ "__name__" := by decide) (hdb : (x == ("__debug__" : Str)) = false := by decide)
    (he : starEach (e :: es) X.env = (false, eval e X.env) :: starEach es X.env := by rfl) (hpl : (backTo pos (starEach es X.env)).any (·.1) = false := by rfl) : PEm g X (.Call (.Name x p2) (e :: es) [] pos) (mF f fs) e1 [] :=
  PE.imp (pe_callB hc hg hm hv ha hn hdb he hpl) (tm_cb_r hf)
theorem tm_callTy {x : Str} {id : String} {r : RC} {f : List T → Option T} (hc : CallR X (.type id) r) (hf : CallT g r f) (hg : Gl X x) (hm : X.mg x = none) (hv : bootBuiltins x = some (.type id)) (ha : PAm g X (e :: es) fs e1 b1) (hn : x ≠ "__name__" := by decide) (hdb : (x == ("__debug__" : Str)) = false := by decide)
    (he : starEach (e :: es) X.env = (false, eval e X.env) :: starEach es X.env := by rfl) (hpl : (backTo pos (starEach es X.env)).any (·.1) = false := by rfl) : PEm g X (.Call (.Name x p2) (e :: es) [] pos) (mF f fs) e1 [] :=
  PE.imp (pe_callTy hc hg hm hv ha hn hdb he hpl) (tm_cb_r hf)
/-! ### a part of a thing -/
/-- the result is a part of the first operand -/
def OpP (g : Gc) (r : R2) (f : T → T → Option T) : Prop := ∀ S H a b x y Ax Ay t Q, Rp g S H a x Ax → Rp g S H b y Ay → f a b = some t → (∀ z B, Rp g S H t z B → B.Sublist Ax → Q z H) → r x y H Q
theorem tm_ix {r : R2} {f : T → T → Option T} (hr : IxR X r) (hf : OpP g r f) (ha : PEm g X a fa e1 b1) (hb : PEm g X b fb e2 b2) (d : ∀ j ∈ b1, j ∉ e2 := by decide) (hs : PlainIx b := by exact fun _ _ => rfl) : PEm g X (.Subscript a b pos) (m2 f fa fb) (e1 ++ e2) b1 :=
  PE.imp (pe_ix hr ha hb hs) fun σ H Q h => by
    obtain ⟨S, Ts, A, t, Ts', R, e, k⟩ := h
    obtain ⟨ta, Ts1, ea, e⟩ := bnd_some e
    obtain ⟨tb, Ts2, eb, e⟩ := bnd_some e
    obtain ⟨ef, rfl⟩ := lft_some e
    refine tm_two (bo2 := b2) d R ea eb fun x y H' S' A' Ax Ay R' rx ry ox _ p s => ?_
    exact hf S' H' ta tb x y Ax Ay t Q rx ry ef fun z B rz hB => k z H' S' A' B R' rz (ox.part hB) p s
/-! ### tests -/
def mAnd (fa fb : M Bool) : M Bool := bnd fa fun a => if a then fb else ret false
def mOr (fa fb : M Bool) : M Bool := bnd fa fun a => if a then ret true else fb
def mNot (fa : M Bool) : M Bool := bnd fa fun a => ret (!a)
def PWm (g : Gc) (X : Cx) (e : Expr) (f : M Bool) (eff : List Nat) : Prop := PW X e (TMt g f eff)
theorem PW.imp {X : Cx} {e : Expr} {t t' : TT} (h : PW X e t) (i : ∀ σ H Q, t' σ H Q → t σ H Q) : PW X e t' := ⟨fun wh pins s σ H Q I q => h.run wh pins s σ H Q I (i σ H Q q)⟩
variable {ta tb : M Bool} {rest : List Expr}
theorem tmt_seq {tb : Bool → M Bool} {R : Bool → TT} (hR : ∀ b σ H Q, TMt g (tb b) e2 σ H Q → R b σ H Q) (σ : L2.St) (H : Hp) (Q : Bool → Hp → Prop) (h : TMt g (bnd ta tb) (e1 ++ e2) σ H Q) : TMt g ta e1 σ H fun b H1 => R b σ H1 Q := by
  obtain ⟨S, Ts, A, t, Ts', R0, e, k⟩ := h
  obtain ⟨b, Ts1, ea, eb⟩ := bnd_some e
  refine ⟨S, Ts, A, b, Ts1, R0, ea, fun H1 S1 A1 R1 p1 s1 => hR b σ H1 Q ⟨S1, Ts1, A1, t, Ts', R1, eb, fun H2 S2 A2 R2 p2 s2 => k H2 S2 A2 R2 (p1.trans R0 p2) (s1.trans s2)⟩⟩
theorem tmt_ret {b : Bool} {σ : L2.St} {H : Hp} {Q : Bool → Hp → Prop} {eff : List Nat} (h : TMt g (ret b) eff σ H Q) : Q b H := by
  obtain ⟨S, Ts, A, t, Ts', R0, e, k⟩ := h
  have e : some (b, Ts) = some (t, Ts') := e
  injection e with e
  injection e with h1 h2
  subst h1; subst h2
  exact k H S A R0 Po.refl Stb.refl
theorem tmt_and1 (ha : PTm g X a ta e1) : PWm g X (.BoolOp .And [a] pos) ta e1 := pw_and1 ha
theorem tmt_or1 (ha : PTm g X a ta e1) : PWm g X (.BoolOp .Or [a] pos) ta e1 := pw_or1 ha
theorem tmt_and (ha : PTm g X a ta e1) (hb : PWm g X (.BoolOp .And (b :: rest) pos) tb e2) : PWm g X (.BoolOp .And (a :: b :: rest) pos) (mAnd ta tb) (e1 ++ e2) :=
  PW.imp (pw_and ha hb) (tmt_seq (R := fun c => fun σ H Q => if c = true then TMt g tb e2 σ H Q else Q false H) fun c σ H Q h => by
    cases c with
    | true => exact iteT h
    | false => exact iteF (tmt_ret h))
theorem tmt_or (ha : PTm g X a ta e1) (hb : PWm g X (.BoolOp .Or (b :: rest) pos) tb e2) : PWm g X (.BoolOp .Or (a :: b :: rest) pos) (mOr ta tb) (e1 ++ e2) :=
  PW.imp (pw_or ha hb) (tmt_seq (R := fun c => fun σ H Q => if c = true then Q true H else TMt g tb e2 σ H Q) fun c σ H Q h => by
    cases c with
    | true => exact iteT (tmt_ret h)
    | false => exact iteF h)
theorem tmt_w (h : PWm g X a ta e1) : PTm g X a ta e1 := PW.pt h
theorem tmt_not (ha : PTm g X a ta e1) : PTm g X (.UnaryOp .Not a pos) (mNot ta) e1 :=
  PT.imp (pt_not ha) fun σ H Q h => by
    obtain ⟨S, Ts, A, t, Ts', R0, e, k⟩ := h
    obtain ⟨b, Ts1, ea, eb⟩ := bnd_some e
    have eb : some ((!b), Ts1) = some (t, Ts') := eb
    injection eb with eb
    injection eb with h1 h2
    subst h1; subst h2
    exact ⟨S, Ts, A, b, Ts1, R0, ea, k⟩
/-- a value's truth -/
def tru : T → Option Bool
  | .non => some false
  | .bl b => some b
  | .int i => some (i != 0)
  | .str s => if s.length ≤ sizeLine then some ((s.length : Int) != 0) else none
  | .nd .tup ts => some (!ts.isEmpty)
  | .nd (.lst _) ts => some (!ts.isEmpty)
  | .nd (.dK _ ks) _ => some (!ks.isEmpty)
  | _ => none
def mTru (fa : M T) : M Bool := bnd fa fun a => lft (tru a)
theorem isEmpty_len {α β : Type} {a : List α} {b : List β} (h : a.length = b.length) : a.isEmpty = b.isEmpty := by
  cases a <;> cases b <;> first | rfl | cases h
theorem tru_ok {S : Addr → Prop} {H : Hp} {t : T} {x : V} {Ax : List Addr} {k : Bool} (r : Rp g S H t x Ax) (e : tru t = some k) : TruV g.K x H k := by
  cases t with
  | dead => cases e
  | non => injection e with e; subst e; rw [r.1]; rfl
  | bl b => injection e with e; subst e; rw [r.1]; rfl
  | int i => injection e with e; subst e; rw [r.1]; rfl
  | str s =>
    have e : (if s.length ≤ sizeLine then some ((s.length : Int) != 0) else none) = some k := e
    split at e
    · rename_i h
      injection e with e
      rw [r.1]
      exact ⟨h, e.symm⟩
    · cases e
  | nd kk ts =>
    obtain ⟨a, xs, B, ex, at_, eA, c, rl⟩ := r
    have hl := RpL.length _ _ _ rl
    rw [ex]
    cases kk with
    | tup =>
      have e : some (!ts.isEmpty) = some k := e
      injection e with e
      exact .inr (.inl ⟨xs, At.sqT at_, by rw [← e, isEmpty_len hl]⟩)
    | lst o =>
      have e : some (!ts.isEmpty) = some k := e
      injection e with e
      exact .inl ⟨xs, at_.sqL, by rw [← e, isEmpty_len hl]⟩
    | dK o ks =>
      have e : some (!ks.isEmpty) = some k := e
      injection e with e
      refine .inr (.inr ⟨_, at_.1, ?_⟩)
      rw [← e]
      congr 1
      exact isEmpty_len (by rw [List.length_zip, ← at_.2.1, Nat.min_self])
    | dT o ks => cases e
    | ins o c fs => cases e
    | scr => cases e
theorem tmt_tru (hK : g.K = X.K) (ha : PEm g X a fa e1 b1) (he : ∀ whole, isTrue a X.env whole = (do let v ← whole; standAt a.pos; holding [v] (truthy v)) := by intro _; rfl) : PTm g X a (mTru fa) e1 :=
  PT.imp (pt_truth ha he) fun σ H Q h => by
    obtain ⟨S, Ts, A, t, Ts', R0, e, k⟩ := h
    obtain ⟨ta, Ts1, ea, eb⟩ := bnd_some e
    obtain ⟨ek, rfl⟩ := lft_some eb
    exact ⟨S, Ts, A, ta, Ts', R0, ea, fun x H' S' A' Ax R' rx o p s => ⟨t, hK ▸ tru_ok rx ek, k H' S' A' R' p s⟩⟩
/-! ### a if c else b -/
def mIf (c : M Bool) (fa fb : M T) : M T := bnd c fun b => if b then fa else fb
theorem tm_if {fc : M Bool} (hc : PTm g X c fc e1) (ha : PEm g X a fa e2 b2) (hb : PEm g X b fb e3 b3) : PEm g X (.IfExp c a b pos) (mIf fc fa fb) (e1 ++ (e2 ++ e3)) (b2 ++ b3) :=
  PE.imp (pe_ifExp hc ha hb) fun σ H Q h => by
    obtain ⟨S, Ts, A, t, Ts', R0, e, k⟩ := h
    obtain ⟨b, Ts1, ea, eb⟩ := bnd_some e
    refine ⟨S, Ts, A, b, Ts1, R0, ea, fun H1 S1 A1 R1 p1 s1 => ?_⟩
    have go : ∀ (f : M T) (ef bf : List Nat), (∀ j ∈ ef, j ∈ e2 ++ e3) → (∀ j ∈ bf, j ∈ b2 ++ b3) → (b2 ++ b3 = [] → bf = []) → f Ts1 = some (t, Ts') → TM g f ef bf σ H1 Q := fun f ef bf hef hbf hn eq =>
      ⟨S1, Ts1, A1, t, Ts', R1, eq, fun x H2 S2 A2 Ax R2 rx o p s => k x H2 S2 A2 Ax R2 rx ((o.rebase p1).mono hbf hn) (p1.trans R0 p) ((s1.trans s).mono fun j hj => (List.mem_append.mp hj).elim (List.mem_append_left _) fun z => List.mem_append_right _ (hef j z))⟩
    cases b with
    | true => exact iteT (go fa e2 b2 (fun j => List.mem_append_left _) (fun j => List.mem_append_left _) (fun z => (List.append_eq_nil_iff.mp z).1) eb)
    | false => exact iteF (go fb e3 b3 (fun j => List.mem_append_right _) (fun j => List.mem_append_right _) (fun z => (List.append_eq_nil_iff.mp z).2) eb)
end
end MI
namespace MI
open PySem L2
inductive Fl where
  | nx | rt (t : T) | bk | ct
def FlE (g : Gc) (D : Ends) (H : Hp) (A : Nat → List Addr) (fl : Fl) (σ' : L2.St) (H' : Hp) (S' : Addr → Prop) (A' : Nat → List Addr) : Prop := match fl with
  | .nx => D.nx σ' H'
  | .bk => D.bk σ' H'
  | .ct => D.ct σ' H'
  | .rt t => ∀ x Ax, Rp g S' H' t x Ax → Ow [] H A S' A' Ax → D.rt x H'
def TSm (g : Gc) (f : M Fl) (asg eff : List Nat) : TS := fun D σ H => ∃ S Ts A fl Ts', SR g S H σ Ts A ∧ f Ts = some (fl, Ts') ∧
  ∀ σ' H' S' A', (∀ i, i ∉ asg → σ'[i]? = σ[i]?) → SR g S' H' σ' Ts' A' → Po S H A S' H' A' → Stb eff H Ts A H' Ts' A' → FlE g D H A fl σ' H' S' A'
def PSm (g : Gc) (X : Cx) (st : Stmt) (f : M Fl) (asg eff : List Nat) : Prop := PS X st (TSm g f asg eff)
def PSsm (g : Gc) (X : Cx) (st : List Stmt) (f : M Fl) (asg eff : List Nat) : Prop := PSs X st (TSm g f asg eff)
def mSeq (f1 f2 : M Fl) : M Fl := bnd f1 fun fl => match fl with
  | .nx => f2
  | o => ret o
section
variable {g : Gc} {X : Cx} {st : Stmt} {rest : List Stmt} {f1 f2 : M Fl} {a1 a2 e1 e2 e3 b1 b2 : List Nat} {pos : Pos} {fa fb : M T} {e : Expr}
theorem FlE.rebase {D : Ends} {S S1 : Addr → Prop} {H H1 : Hp} {A A1 : Nat → List Addr} {fl : Fl} {σ' : L2.St} {H' : Hp} {S' : Addr → Prop} {A' : Nat → List Addr} (p : Po S H A S1 H1 A1) (h : FlE g D H A fl σ' H' S' A') : FlE g D H1 A1 fl σ' H' S' A' := by
  cases fl with
  | rt t => exact fun x Ax r o => h x Ax r (o.rebase p)
  | nx => exact h
  | bk => exact h
  | ct => exact h
theorem ts_seq (D : Ends) (σ : L2.St) (H : Hp) (h : TSm g (mSeq f1 f2) (a1 ++ a2) (e1 ++ e2) D σ H) : tSeq (TSm g f1 a1 e1) (TSm g f2 a2 e2) D σ H := by
  obtain ⟨S, Ts, A, fl, Ts', R, e, k⟩ := h
  obtain ⟨fl1, Ts1, q1, q2⟩ := bnd_some e
  refine ⟨S, Ts, A, fl1, Ts1, R, q1, fun σ1 H1 S1 A1 hσ R1 p1 s1 => ?_⟩
  have same : ∀ o : Fl, fl1 = o → o ≠ .nx → FlE g D H A o σ1 H1 S1 A1 := fun o eo hn => by
    subst eo
    have q3 : some (fl1, Ts1) = some (fl, Ts') := by cases fl1 <;> first | exact absurd rfl hn | exact q2
    injection q3 with q3
    injection q3 with h1 h2
    subst h1; subst h2
    exact k σ1 H1 S1 A1 (fun i hi => hσ i fun z => hi (List.mem_append_left _ z)) R1 p1 (s1.mono fun j hj => List.mem_append_left _ hj)
  cases fl1 with
  | nx =>
    refine ⟨S1, Ts1, A1, fl, Ts', R1, q2, fun σ2 H2 S2 A2 hσ2 R2 p2 s2 => ?_⟩
    exact (k σ2 H2 S2 A2 (fun i hi => (hσ2 i fun z => hi (List.mem_append_right _ z)).trans (hσ i fun z => hi (List.mem_append_left _ z))) R2 (p1.trans R p2) (s1.trans s2)).rebase p1
  | rt t => exact same _ rfl (fun z => nomatch z)
  | bk => exact same _ rfl (fun z => nomatch z)
  | ct => exact same _ rfl (fun z => nomatch z)
theorem tss_cons (h1 : PSm g X st f1 a1 e1) (h2 : PSsm g X rest f2 a2 e2) : PSsm g X (st :: rest) (mSeq f1 f2) (a1 ++ a2) (e1 ++ e2) := PSs.imp (pss_cons h1 h2) ts_seq
theorem tss_one (h1 : PSm g X st f1 a1 e1) : PSsm g X [st] f1 a1 e1 := pss_one h1
theorem tss_nil : PSsm g X [] (ret .nx) [] [] := PSs.imp pss_nil fun D σ H ⟨S, Ts, A, fl, Ts', R, e, k⟩ => by
  have e : some (Fl.nx, Ts) = some (fl, Ts') := e
  injection e with e
  injection e with h1 h2
  subst h1; subst h2
  exact k σ H S A (fun _ _ => rfl) R Po.refl Stb.refl
theorem ts_pass : PSm g X (.Pass pos) (ret .nx) [] [] := PS.imp ps_pass fun D σ H ⟨S, Ts, A, fl, Ts', R, e, k⟩ => by
  have e : some (Fl.nx, Ts) = some (fl, Ts') := e
  injection e with e
  injection e with h1 h2
  subst h1; subst h2
  exact k σ H S A (fun _ _ => rfl) R Po.refl Stb.refl
theorem ts_break : PSm g X (.Break pos) (ret .bk) [] [] := PS.imp ps_break fun D σ H ⟨S, Ts, A, fl, Ts', R, e, k⟩ => by
  have e : some (Fl.bk, Ts) = some (fl, Ts') := e
  injection e with e
  injection e with h1 h2
  subst h1; subst h2
  exact k σ H S A (fun _ _ => rfl) R Po.refl Stb.refl
theorem ts_cont : PSm g X (.Continue pos) (ret .ct) [] [] := PS.imp ps_continue fun D σ H ⟨S, Ts, A, fl, Ts', R, e, k⟩ => by
  have e : some (Fl.ct, Ts) = some (fl, Ts') := e
  injection e with e
  injection e with h1 h2
  subst h1; subst h2
  exact k σ H S A (fun _ _ => rfl) R Po.refl Stb.refl
/-- a statement that no way reaches -/
theorem ts_never : PSm g X st (fun _ => none) [] [] := PS.imp ps_never fun D σ H ⟨S, Ts, A, fl, Ts', R, e, k⟩ => nomatch e
def mRet (fa : M T) : M Fl := bnd fa fun t => ret (.rt t)
theorem ts_ret (he : PEm g X e fa e1 []) : PSm g X (.Return (some e) pos) (mRet fa) [] e1 := PS.imp (ps_ret he) fun D σ H ⟨S, Ts, A, fl, Ts', R, q, k⟩ => by
  obtain ⟨t, Ts1, q1, q2⟩ := bnd_some q
  have q3 : some (Fl.rt t, Ts1) = some (fl, Ts') := q2
  injection q3 with q3
  injection q3 with h1 h2
  subst h1; subst h2
  exact ⟨S, Ts, A, t, Ts1, R, q1, fun x H' S' A' Ax R' rx o p s => k σ H' S' A' (fun _ _ => rfl) R' p s x Ax rx o⟩
theorem ts_retN : PSm g X (.Return none pos) (ret (.rt .non)) [] [] := PS.imp ps_retN fun D σ H ⟨S, Ts, A, fl, Ts', R, q, k⟩ => by
  have q3 : some (Fl.rt .non, Ts) = some (fl, Ts') := q
  injection q3 with q3
  injection q3 with h1 h2
  subst h1; subst h2
  exact k σ H S A (fun _ _ => rfl) R Po.refl Stb.refl .non [] ⟨rfl, rfl⟩ Ow.nil
def mDrop (fa : M T) : M Fl := bnd fa fun _ => ret .nx
theorem ts_expr (he : PEm g X e fa e1 b1) (hs : swapsWith e none pos.line X.env = pure false := by rfl) : PSm g X (.Expr e pos) (mDrop fa) [] e1 := PS.imp (ps_expr he hs) fun D σ H ⟨S, Ts, A, fl, Ts', R, q, k⟩ => by
  obtain ⟨t, Ts1, q1, q2⟩ := bnd_some q
  have q3 : some (Fl.nx, Ts1) = some (fl, Ts') := q2
  injection q3 with q3
  injection q3 with h1 h2
  subst h1; subst h2
  exact ⟨S, Ts, A, t, Ts1, R, q1, fun x H' S' A' Ax R' rx o p s => k σ H' S' A' (fun _ _ => rfl) R' p s⟩
def mIfS (c : M Bool) (f1 f2 : M Fl) : M Fl := bnd c fun b => if b then f1 else f2
theorem ts_if {c : Expr} {fc : M Bool} {s1 s2 : List Stmt} (hc : PTm g X c fc e1) (h1 : PSsm g X s1 f1 a1 e2) (h2 : PSsm g X s2 f2 a2 e3) : PSm g X (.If c s1 s2 pos) (mIfS fc f1 f2) (a1 ++ a2) (e1 ++ (e2 ++ e3)) :=
  PS.imp (ps_if hc h1 h2) fun D σ H ⟨S, Ts, A, fl, Ts', R, q, k⟩ => by
    obtain ⟨b, Ts1, q1, q2⟩ := bnd_some q
    refine ⟨S, Ts, A, b, Ts1, R, q1, fun H1 S1 A1 R1 p1 s1 => ?_⟩
    have go : ∀ (f : M Fl) (ag ef : List Nat), (∀ j ∈ ef, j ∈ e2 ++ e3) → (∀ j ∈ ag, j ∈ a1 ++ a2) → f Ts1 = some (fl, Ts') → TSm g f ag ef D σ H1 := fun f ag ef hef hag eq =>
      ⟨S1, Ts1, A1, fl, Ts', R1, eq, fun σ2 H2 S2 A2 hσ R2 p s => (k σ2 H2 S2 A2 (fun i hi => hσ i fun z => hi (hag i z)) R2 (p1.trans R p) ((s1.trans s).mono fun j hj => (List.mem_append.mp hj).elim (List.mem_append_left _) fun z => List.mem_append_right _ (hef j z))).rebase p1⟩
    cases b with
    | true => exact iteT (go f1 a1 e2 (fun j => List.mem_append_left _) (fun j => List.mem_append_left _) q2)
    | false => exact iteF (go f2 a2 e3 (fun j => List.mem_append_right _) (fun j => List.mem_append_right _) q2)
/-! ### targets -/
def TGm (g : Gc) (m : T → M Unit) (asg : List Nat) : TG := fun v σ H Q => ∃ S Ts A t Av Ts', SR g S H σ Ts A ∧ Rp g S H t v Av ∧ Av.Nodup ∧ (∀ a ∈ Av, ¬ S a ∧ ∀ i, a ∉ A i) ∧ m t Ts = some ((), Ts') ∧
  ∀ σ' A', (σ'.length = σ.length ∧ ∀ i, i ∉ asg → σ'[i]? = σ[i]?) → SR g S H σ' Ts' A' → (∀ i, ∀ a ∈ A' i, (∃ j, a ∈ A j) ∨ a ∈ Av) → (∀ j, j ∉ asg → slot Ts' j = slot Ts j ∧ A' j = A j) → Q σ' H
def TGsm (g : Gc) (m : List T → M Unit) (asg : List Nat) : TGs := fun vs σ H Q => ∃ S Ts A ts Av Ts', SR g S H σ Ts A ∧ RpL g S H ts vs Av ∧ Av.Nodup ∧ (∀ a ∈ Av, ¬ S a ∧ ∀ i, a ∉ A i) ∧ m ts Ts = some ((), Ts') ∧
  ∀ σ' A', (σ'.length = σ.length ∧ ∀ i, i ∉ asg → σ'[i]? = σ[i]?) → SR g S H σ' Ts' A' → (∀ i, ∀ a ∈ A' i, (∃ j, a ∈ A j) ∨ a ∈ Av) → (∀ j, j ∉ asg → slot Ts' j = slot Ts j ∧ A' j = A j) → Q σ' H
def PGm (g : Gc) (X : Cx) (tg : Expr) (m : T → M Unit) (asg : List Nat) : Prop := PG X tg (TGm g m asg)
def PGsm (g : Gc) (X : Cx) (tg : List Expr) (m : List T → M Unit) (asg : List Nat) : Prop := PGs X tg (TGsm g m asg)
theorem PG.imp {X : Cx} {tg : Expr} {t t' : TG} (h : PG X tg t) (i : ∀ v σ H Q, t' v σ H Q → t v σ H Q) : PG X tg t' := ⟨fun pins s σ H v u Q I r q => h.run pins s σ H v u Q I r (i v σ H Q q)⟩
theorem PGs.imp {X : Cx} {tg : List Expr} {t t' : TGs} (h : PGs X tg t) (i : ∀ v σ H Q, t' v σ H Q → t v σ H Q) : PGs X tg t' := ⟨fun pins s σ H v u Q I r q => h.run pins s σ H v u Q I r (i v σ H Q q)⟩
def mPut (i : Nat) (t : T) : M Unit := fun Ts => if i < Ts.length then some ((), Ts.set i t) else none
theorem SR.put {S : Addr → Prop} {H : Hp} {σ : L2.St} {Ts : List T} {A : Nat → List Addr} {i : Nat} {t : T} {v : V} {Av : List Addr} (R : SR g S H σ Ts A) (hi : i < Ts.length) (r : Rp g S H t v Av) (nd : Av.Nodup) (dj : ∀ a ∈ Av, ¬ S a ∧ ∀ i, a ∉ A i) :
    SR g S H (σ.set i (some v)) (Ts.set i t) (fun j => if j = i then Av else A j) where
  rep := fun j => by
    by_cases hj : j = i
    · subst hj
      rw [if_pos rfl]
      refine .inr ⟨v, ?_, ?_⟩
      · rw [List.getD_eq_getElem?_getD, List.getElem?_set_self (by rw [← R.len]; exact hi)]; rfl
      · unfold slot
        rw [List.getD_eq_getElem?_getD, List.getElem?_set_self hi]
        exact r
    · rw [if_neg hj]
      have h := R.rep j
      unfold slot at h ⊢
      rw [List.getD_eq_getElem?_getD, List.getD_eq_getElem?_getD] at h ⊢
      rw [List.getElem?_set_ne (Ne.symm hj), List.getElem?_set_ne (Ne.symm hj)]
      exact h
  nd := fun j => by
    split
    · exact nd
    · exact R.nd j
  dj := fun j k hjk a ha => by
    split at ha
    · rename_i h1
      split
      · rename_i h2
        exact absurd (h1.trans h2.symm) hjk
      · exact (dj a ha).2 k
    · split
      · exact fun z => (dj a z).2 j ha
      · exact R.dj j k hjk a ha
  ns := fun j a ha => by
    split at ha
    · exact (dj a ha).1
    · exact R.ns j a ha
  len := by rw [List.length_set, List.length_set]; exact R.len
  st := R.st
theorem slot_set_ne {Ts : List T} {i j : Nat} {t : T} (h : j ≠ i) : slot (Ts.set i t) j = slot Ts j := by
  unfold slot
  rw [List.getD_eq_getElem?_getD, List.getD_eq_getElem?_getD, List.getElem?_set_ne (Ne.symm h)]
theorem slot_set_eq {Ts : List T} {i : Nat} {t : T} (h : i < Ts.length) : slot (Ts.set i t) i = t := by
  unfold slot
  rw [List.getD_eq_getElem?_getD, List.getElem?_set_self h]; rfl
theorem tg_name {i : Nat} {tg : Expr} (h : PG X tg (gName i)) : PGm g X tg (mPut i) [i] := PG.imp h fun v σ H Q ⟨S, Ts, A, t, Av, Ts', R, r, nd, dj, q, k⟩ => by
  unfold mPut at q
  split at q
  · rename_i hi
    injection q with q
    injection q with _ q
    subst q
    refine k _ _ ⟨List.length_set .., fun j hj => ?_⟩ (R.put hi r nd dj) (fun j a ha => ?_) fun j hj => ?_
    · rw [List.getElem?_set_ne]
      exact fun z => hj (by rw [z]; exact List.mem_singleton.mpr rfl)
    · split at ha
      · exact .inr ha
      · exact .inl ⟨j, ha⟩
    · have hj : j ≠ i := fun z => hj (by rw [z]; exact List.mem_singleton.mpr rfl)
      exact ⟨slot_set_ne hj, if_neg hj⟩
  · cases q
def mGnil (ts : List T) : M Unit := match ts with
  | [] => ret ()
  | _ => fun _ => none
def mGcons (m : T → M Unit) (ms : List T → M Unit) (ts : List T) : M Unit := match ts with
  | t :: ts => bnd (m t) fun _ => ms ts
  | [] => fun _ => none
theorem tgs_nil : PGsm g X [] mGnil [] := PGs.imp pgs_nil fun v σ H Q ⟨S, Ts, A, ts, Av, Ts', R, r, nd, dj, q, k⟩ => by
  cases ts with
  | nil =>
    have q : some ((), Ts) = some ((), Ts') := q
    injection q with q
    injection q with _ q
    subst q
    exact ⟨r.1, k σ A ⟨rfl, fun _ _ => rfl⟩ R (fun i a h => .inl ⟨i, h⟩) fun j _ => ⟨rfl, rfl⟩⟩
  | cons t ts => cases q
theorem tgs_cons {tg : Expr} {tgs : List Expr} {m : T → M Unit} {ms : List T → M Unit} (h1 : PGm g X tg m a1) (h2 : PGsm g X tgs ms a2) (hs : (assignEach (tg :: tgs) X.env).map (·.2) = assign tg X.env :: (assignEach tgs X.env).map (·.2) := by rfl) : PGsm g X (tg :: tgs) (mGcons m ms) (a1 ++ a2) :=
  PGs.imp (pgs_cons h1 h2 hs) fun vs σ H Q ⟨S, Ts, A, ts, Av, Ts', R, r, nd, dj, q, k⟩ => by
    cases ts with
    | nil => cases q
    | cons t ts =>
      obtain ⟨_, Ts1, q1, q2⟩ := bnd_some q
      obtain ⟨y, ys, A1, A2, e1, e2, r1, r2⟩ := r
      subst e2
      obtain ⟨nd1, nd2, nd3⟩ := List.nodup_append.mp nd
      refine ⟨y, ys, e1, S, Ts, A, t, A1, Ts1, R, r1, nd1, fun a ha => dj a (List.mem_append_left _ ha), q1, fun σ1 B1 hσ1 R1 n1 s1 => ?_⟩
      refine ⟨S, Ts1, B1, ts, A2, Ts', R1, r2, nd2, fun a ha => ⟨(dj a (List.mem_append_right _ ha)).1, fun i hi => ?_⟩, q2, fun σ2 B2 hσ2 R2 n2 s2 => ?_⟩
      · rcases n1 i a hi with ⟨j, hj⟩ | h
        · exact (dj a (List.mem_append_right _ ha)).2 j hj
        · exact nd3 a h a ha rfl
      · refine k σ2 B2 ⟨hσ2.1.trans hσ1.1, fun i hi => (hσ2.2 i fun z => hi (List.mem_append_right _ z)).trans (hσ1.2 i fun z => hi (List.mem_append_left _ z))⟩ R2 (fun i a ha => ?_) fun j hj => ?_
        · rcases n2 i a ha with ⟨j, hj⟩ | h
          · rcases n1 j a hj with h | h
            · exact .inl h
            · exact .inr (List.mem_append_left _ h)
          · exact .inr (List.mem_append_right _ h)
        · obtain ⟨x1, x2⟩ := s1 j fun z => hj (List.mem_append_left _ z)
          obtain ⟨y1, y2⟩ := s2 j fun z => hj (List.mem_append_right _ z)
          exact ⟨y1.trans x1, y2.trans x2⟩
/-- a, b, .. = a tuple -/
def mUnT (n : Nat) (ms : List T → M Unit) (t : T) : M Unit := match t with
  | .nd .tup ts => if ts.length = n then ms ts else fun _ => none
  | _ => fun _ => none
/-- a, b, .. = a list -/
def mUnL (n : Nat) (ms : List T → M Unit) (t : T) : M Unit := match t with
  | .nd (.lst _) ts => if ts.length = n then ms ts else fun _ => none
  | _ => fun _ => none
theorem tg_tup {tgs : List Expr} {ms : List T → M Unit} {n k : Nat} (hK : g.K = X.K) (hc : X.calm = true) (h : PGsm g X tgs ms a1) (hn : (assignEach tgs X.env).length = n := by rfl) (hst : (assignEach tgs X.env).findIdx? (·.1) = none := by rfl) : PGm g X (.Tuple tgs k pos) (mUnT n ms) a1 :=
  PG.imp (pg_tup hc h hn hst) fun v σ H Q ⟨S, Ts, A, t, Av, Ts', R, r, nd, dj, q, k⟩ => by
    unfold mUnT at q
    split at q
    · split at q
      · rename_i hl
        obtain ⟨a, xs, B, e, at_, eA, c, rl⟩ := r
        have eA : Av = B := eA
        subst eA
        exact ⟨a, xs, e, hK ▸ At.sqT at_, by rw [← hl, RpL.length _ _ _ rl], S, Ts, A, _, Av, Ts', R, rl, nd, dj, q, k⟩
      · cases q
    · cases q
theorem tg_unl {tgs : List Expr} {ms : List T → M Unit} {n k : Nat} (hK : g.K = X.K) (hc : X.calm = true) (h : PGsm g X tgs ms a1) (hn : (assignEach tgs X.env).length = n := by rfl) (hst : (assignEach tgs X.env).findIdx? (·.1) = none := by rfl) : PGm g X (.Tuple tgs k pos) (mUnL n ms) a1 :=
  PG.imp (pg_unl hc h hn hst) fun v σ H Q ⟨S, Ts, A, t, Av, Ts', R, r, nd, dj, q, k⟩ => by
    unfold mUnL at q
    split at q
    · rename_i o ts
      split at q
      · rename_i hl
        obtain ⟨a, xs, B, e, at_, eA, c, rl⟩ := r
        have sq : SqL X.K H a xs := hK ▸ at_.sqL
        have sub : B.Sublist Av := by
          rw [eA]
          split
          · exact List.sublist_cons_self _ _
          · exact List.Sublist.refl _
        refine ⟨a, xs, e, sq, by rw [← hl, RpL.length _ _ _ rl], S, Ts, A, _, B, Ts', R, rl, nd.sublist sub, fun b hb => dj b (sub.subset hb), q, fun σ' A' h1 h2 h3 h4 => k σ' A' h1 h2 (fun i b hb => ?_) h4⟩
        rcases h3 i b hb with h | h
        · exact .inl h
        · exact .inr (sub.subset h)
      · cases q
    · cases q
/-- target = value -/
def mAsg (fa : M T) (m : T → M Unit) : M Fl := bnd fa fun t => bnd (m t) fun _ => ret .nx
theorem asg_r {m : T → M Unit} (D : Ends) (σ : L2.St) (H : Hp) (h : TSm g (mAsg fa m) a1 (e1 ++ a1) D σ H) : tAsg (TM g fa e1 []) (TGm g m a1) D σ H := by
  obtain ⟨S, Ts, A, fl, Ts', R, q, k⟩ := h
  obtain ⟨t, Ts1, q1, q2⟩ := bnd_some q
  obtain ⟨_, Ts2, q3, q4⟩ := bnd_some q2
  have q5 : some (Fl.nx, Ts2) = some (fl, Ts') := q4
  injection q5 with q5
  injection q5 with h1 h2
  subst h1; subst h2
  refine ⟨S, Ts, A, t, Ts1, R, q1, fun x H1 S1 A1 Ax R1 rx o p s => ⟨S1, Ts1, A1, t, Ax, Ts2, R1, rx, o.nd rfl, fun a ha => ⟨o.ns a ha, fun i => o.dj i (fun z => nomatch z) a ha⟩, q3, fun σ' A' hσ R' n s' => ?_⟩⟩
  refine k σ' H1 S1 A' hσ.2 R' ⟨p.keep, p.sub, p.snew, fun i a ha => ?_⟩ fun j hj => ?_
  · rcases n i a ha with ⟨j, hj⟩ | h
    · exact p.anew j a hj
    · exact o.new a h
  · obtain ⟨x1, x2, x3⟩ := s j fun z => hj (List.mem_append_left _ z)
    obtain ⟨y1, y2⟩ := s' j fun z => hj (List.mem_append_right _ z)
    exact ⟨y1.trans x1, y2.trans x2, x3⟩
theorem ts_asg {tg : Expr} {m : T → M Unit} (he : PEm g X e fa e1 []) (hg : PGm g X tg m a1) (hs : swapsWithSole [tg] e pos.line X.env = pure false := by rfl) (hw : swappedStores [tg] e X.env = pure none := by rfl)
    (h1 : (assignEach [tg] X.env).map (·.2) = [assign tg X.env] := by rfl) : PSm g X (.Assign [tg] e pos) (mAsg fa m) a1 (e1 ++ a1) := PS.imp (ps_asg he hg hs hw h1) asg_r
def mSet (i : Nat) (fa : M T) : M Fl := mAsg fa (mPut i)
theorem tgm_name {i : Nat} (v : V) (σ : L2.St) (H : Hp) (Q : L2.St → Hp → Prop) (h : TGm g (mPut i) [i] v σ H Q) : gName i v σ H Q := by
  obtain ⟨S, Ts, A, t, Av, Ts', R, r, nd, dj, q, k⟩ := h
  unfold mPut at q
  split at q
  · rename_i hi
    injection q with q
    injection q with _ q
    subst q
    refine k _ _ ⟨List.length_set .., fun j hj => ?_⟩ (R.put hi r nd dj) (fun j a ha => ?_) fun j hj => ?_
    · rw [List.getElem?_set_ne]
      exact fun z => hj (by rw [z]; exact List.mem_singleton.mpr rfl)
    · split at ha
      · exact .inr ha
      · exact .inl ⟨j, ha⟩
    · have hj : j ≠ i := fun z => hj (by rw [z]; exact List.mem_singleton.mpr rfl)
      exact ⟨slot_set_ne hj, if_neg hj⟩
  · cases q
theorem TM.mono {bo : List Nat} {σ : L2.St} {H : Hp} {Q Q' : VK} (h : TM g fa e1 bo σ H Q) (k : ∀ x H', Q x H' → Q' x H') : TM g fa e1 bo σ H Q' := by
  obtain ⟨S, Ts, A, t, Ts', R, e, w⟩ := h
  exact ⟨S, Ts, A, t, Ts', R, e, fun x H' S' A' Ax a b c d f => k x H' (w x H' S' A' Ax a b c d f)⟩
theorem ts_set {i : Nat} {st : Stmt} (h : PS X st (tAsg (TM g fa e1 []) (gName i))) : PSm g X st (mSet i fa) [i] (e1 ++ [i]) := PS.imp h fun D σ H q => (asg_r (m := mPut i) D σ H q).mono fun x H' z => tgm_name x σ H' _ z
/-- a, b = x, y by plain names -/
def mPar (i j : Nat) (fs : M (List T)) : M Fl := bnd fs fun ts => bnd (mGcons (mPut i) (mGcons (mPut j) mGnil) ts) fun _ => ret .nx
end
end MI
namespace MI
open PySem PySem.Spec PyProof.Rows L2
/-! ### a def's promise by its mirror -/
structure PoF (S : Addr → Prop) (H : Hp) (A : List Addr) (S' : Addr → Prop) (H' : Hp) (B : List Addr) : Prop where
  keep : ∀ a o, H a = some o → a ∉ A → H' a = some o
  sub : ∀ a, S a → S' a
  snew : ∀ a, S' a → S a ∨ a ∈ A ∨ H a = none
  anew : ∀ a ∈ B, a ∈ A ∨ H a = none
abbrev Cal := List T → Option (T × List T)
def spT (g : Gc) (io : List Nat) (c : Cal) : Sp := fun vs H Q _ => ∃ (S : Addr → Prop) (ts : List T) (A : List Addr) (r : T) (outs : List T),
  RpL g S H ts vs A ∧ A.Nodup ∧ (∀ a ∈ A, ¬ S a) ∧ (∀ a, S a → ∃ o, H a = some o) ∧ c ts = some (r, outs) ∧
  ∀ x H' S' Ar Ao, Rp g S' H' r x Ar → RpL g S' H' outs (io.map fun i => vs.getD i .non) Ao → (Ao ++ Ar).Nodup → (∀ a ∈ Ao ++ Ar, ¬ S' a) → (∀ a, S' a → ∃ o, H' a = some o) → PoF S H A S' H' (Ao ++ Ar) → Q x H'
def runB (np n : Nat) (io : List Nat) (f : M Fl) : Cal := fun ts => if ts.length = np then (match f (ts ++ List.replicate (n - np) .dead) with
  | some (.rt r, Ts') => some (r, io.map (slot Ts'))
  | some (.nx, Ts') => some (.non, io.map (slot Ts'))
  | _ => none) else none
section
variable {g : Gc} {S S1 S2 : Addr → Prop} {H H1 H2 : Hp} {σ : L2.St}
theorem RpL.slots : ∀ (ts : List T) (vs : List V) (A : List Addr), RpL g S H ts vs A → A.Nodup → ∃ A0 : Nat → List Addr, (∀ i, (slot ts i = .dead ∧ A0 i = []) ∨ ∃ x, vs[i]? = some x ∧ Rp g S H (slot ts i) x (A0 i)) ∧ (∀ i, (A0 i).Nodup) ∧ (∀ i j, i ≠ j → ∀ a ∈ A0 i, a ∉ A0 j) ∧ (∀ i, ∀ a ∈ A0 i, a ∈ A)
  | [], _, _, _, _ => ⟨fun _ => [], fun i => .inl ⟨by unfold slot; simp, rfl⟩, fun _ => List.nodup_nil, (fun _ _ _ _ h => nomatch h), fun _ _ h => nomatch h⟩
  | t :: ts, vs, A, h, nd => by
    obtain ⟨y, ys, A1, A2, e1, e2, r1, r2⟩ := h
    subst e2
    obtain ⟨nd1, nd2, nd3⟩ := List.nodup_append.mp nd
    obtain ⟨A0, h1, h2, h3, h4⟩ := RpL.slots ts ys A2 r2 nd2
    refine ⟨fun i => match i with | 0 => A1 | i + 1 => A0 i, fun i => ?_, fun i => ?_, fun i j hij a ha => ?_, fun i a ha => ?_⟩
    · cases i with
      | zero => exact .inr ⟨y, by rw [e1]; rfl, r1⟩
      | succ i =>
        rcases h1 i with ⟨q1, q2⟩ | ⟨x, q1, q2⟩
        · exact .inl ⟨q1, q2⟩
        · exact .inr ⟨x, by rw [e1]; simpa using q1, q2⟩
    · cases i with
      | zero => exact nd1
      | succ i => exact h2 i
    · cases i with
      | zero =>
        cases j with
        | zero => exact absurd rfl hij
        | succ j => exact fun z => nd3 a ha a (h4 j a z) rfl
      | succ i =>
        cases j with
        | zero => exact fun z => nd3 a z a (h4 i a ha) rfl
        | succ j => exact h3 i j (fun z => hij (by rw [z])) a ha
    · cases i with
      | zero => exact List.mem_append_left _ ha
      | succ i => exact List.mem_append_right _ (h4 i a ha)
theorem slot_app {ts : List T} {n i : Nat} : slot (ts ++ List.replicate n .dead) i = slot ts i := by
  unfold slot
  rw [List.getD_eq_getElem?_getD, List.getD_eq_getElem?_getD, List.getElem?_append]
  split
  · rfl
  · rename_i h
    rw [List.getElem?_replicate]
    have e : ts[i]? = none := List.getElem?_eq_none_iff.mpr (by omega)
    rw [e]
    split <;> rfl
/-- the slots at a def's entry -/
theorem SR.start {N : List Str} {ts : List T} {vs : List V} {A : List Addr} (r : RpL g S H ts vs A) (nd : A.Nodup) (ns : ∀ a ∈ A, ¬ S a) (st : ∀ a, S a → ∃ o, H a = some o) :
    ∃ A0, SR g S H (start N vs) (ts ++ List.replicate (N.length - ts.length) .dead) A0 ∧ ∀ i, ∀ a ∈ A0 i, a ∈ A := by
  obtain ⟨A0, h1, h2, h3, h4⟩ := RpL.slots ts vs A r nd
  have hl := RpL.length _ _ _ r
  refine ⟨A0, ⟨fun i => ?_, h2, h3, fun i a ha => ns a (h4 i a ha), ?_, st⟩, h4⟩
  · rw [slot_app]
    rcases h1 i with h | ⟨x, q1, q2⟩
    · exact .inl h
    · refine .inr ⟨x, ?_, q2⟩
      unfold L2.start
      have hi : i < vs.length := (List.getElem?_eq_some_iff.mp q1).1
      rw [List.getD_eq_getElem?_getD, List.getElem?_append_left (by simpa using hi), List.getElem?_map, q1]; rfl
  · unfold L2.start
    rw [List.length_append, List.length_append, List.length_map, List.length_replicate, List.length_replicate, hl]
theorem RpL.outs {Ts' : List T} {A' : Nat → List Addr} {σ' : L2.St} (R : SR g S H σ' Ts' A') : ∀ (io : List Nat) (vs : List V), io.Nodup → (∀ i ∈ io, σ'[i]? = some (some (vs.getD i .non))) →
    ∃ Ao, RpL g S H (io.map (slot Ts')) (io.map fun i => vs.getD i .non) Ao ∧ Ao.Nodup ∧ (∀ a ∈ Ao, ∃ i ∈ io, a ∈ A' i)
  | [], _, _, _ => ⟨[], ⟨rfl, rfl⟩, List.nodup_nil, fun _ h => nomatch h⟩
  | i :: io, vs, nd, h => by
    obtain ⟨n1, n2⟩ := List.nodup_cons.mp nd
    obtain ⟨Ao, r, nd', hm⟩ := RpL.outs R io vs n2 fun j hj => h j (List.mem_cons_of_mem _ hj)
    have hi := h i List.mem_cons_self
    have r1 : Rp g S H (slot Ts' i) (vs.getD i .non) (A' i) := by
      rcases R.rep i with ⟨e1, e2⟩ | ⟨x, e1, e2⟩
      · rw [e1, e2]; exact rfl
      · rw [List.getD_eq_getElem?_getD, hi] at e1
        have e1 : some (vs.getD i .non) = some x := e1
        injection e1 with e1
        rw [e1]; exact e2
    refine ⟨A' i ++ Ao, ⟨_, _, A' i, Ao, rfl, rfl, r1, r⟩, List.nodup_append.mpr ⟨R.nd i, nd', fun a ha b hb e => ?_⟩, fun a ha => ?_⟩
    · subst e
      obtain ⟨j, hj, hA⟩ := hm a hb
      exact R.dj i j (by rintro rfl; exact n1 hj) a ha hA
    · rcases List.mem_append.mp ha with h | h
      · exact ⟨i, List.mem_cons_self, h⟩
      · obtain ⟨j, hj, hA⟩ := hm a h
        exact ⟨j, List.mem_cons_of_mem _ hj, hA⟩
end
/-! ### arguments, some of them lent -/
def RpC (g : Gc) (S : Addr → Prop) (H : Hp) (σ : L2.St) : List (Option Nat) → List T → List V → List Addr → List Addr → Prop
  | [], ts, xs, Al, Ab => ts = [] ∧ xs = [] ∧ Al = [] ∧ Ab = []
  | none :: ln, ts, xs, Al, Ab => ∃ t ts' x xs' B Ab', ts = t :: ts' ∧ xs = x :: xs' ∧ Ab = B ++ Ab' ∧ Rp g S H t x B ∧ RpC g S H σ ln ts' xs' Al Ab'
  | some s :: ln, ts, xs, Al, Ab => ∃ t ts' x xs' B Al', ts = t :: ts' ∧ xs = x :: xs' ∧ Al = B ++ Al' ∧ Rp g S H t x B ∧ σ[s]? = some (some x) ∧ RpC g S H σ ln ts' xs' Al' Ab
def TMc (g : Gc) (f : M (List T)) (eff bo : List Nat) (ln : List (Option Nat)) : TA := fun σ H Q => ∃ S Ts A ts Ts', SR g S H σ Ts A ∧ f Ts = some (ts, Ts') ∧
  ∀ xs H' S' A' Al Ab, SR g S' H' σ Ts' A' → RpC g S' H' σ ln ts xs Al Ab → Ow [] H A S' A' Al → Ow bo H A S' A' Ab → (∀ a ∈ Al, a ∉ Ab) → Po S H A S' H' A' → Stb eff H Ts A H' Ts' A' → Q xs H'
def PAc (g : Gc) (X : Cx) (es : List Expr) (f : M (List T)) (eff bo : List Nat) (ln : List (Option Nat)) : Prop := PA X es (TMc g f eff bo ln)
def mLn (s : Nat) : M T := fun Ts => match slot Ts s with
  | .dead => none
  | t => some (t, Ts.set s .dead)
def lentIx : Nat → List (Option Nat) → List Nat
  | _, [] => []
  | n, none :: ln => lentIx (n + 1) ln
  | n, some _ :: ln => n :: lentIx (n + 1) ln
def fzA : List (Option Nat) → List T → List T
  | none :: ln, t :: ts => t.fz :: fzA ln ts
  | some _ :: ln, t :: ts => t :: fzA ln ts
  | _, _ => []
def putO : List (Option Nat) → List T → M Unit
  | [], _ => ret ()
  | none :: ln, os => putO ln os
  | some s :: ln, o :: os => fun Ts => if s < Ts.length then putO ln os (Ts.set s o) else none
  | some _ :: _, [] => fun _ => none
section
variable {g : Gc} {X : Cx} {e : Expr} {es : List Expr} {fa : M T} {fs : M (List T)} {e1 e2 b1 b2 : List Nat} {ln : List (Option Nat)} {pos p2 : Pos}
theorem tmc_nil : PAc g X [] mNil [] [] [] :=
  PA.imp pa_nil fun σ H Q ⟨S, Ts, A, ts, Ts', R, q, k⟩ => by
    have q : some (([] : List T), Ts) = some (ts, Ts') := q
    injection q with q
    injection q with h1 h2
    subst h1; subst h2
    exact k [] H S A [] [] R ⟨rfl, rfl, rfl, rfl⟩ Ow.nil Ow.nil (fun _ h => nomatch h) Po.refl Stb.refl
theorem tmc_arg (ha : PEm g X e fa e1 b1) (hs : PAc g X es fs e2 b2 ln) (d : ∀ j ∈ b1, j ∉ e2 := by decide) (hst : starEach (e :: es) X.env = (false, eval e X.env) :: starEach es X.env := by rfl) : PAc g X (e :: es) (mCons fa fs) (e1 ++ e2) (b1 ++ b2) (none :: ln) :=
  PA.imp (pa_cons ha hs hst) fun σ H Q ⟨S, Ts, A, ts, Ts', R, q, k⟩ => by
    obtain ⟨ta, Ts1, ea, q1⟩ := bnd_some q
    obtain ⟨tb, Ts2, eb, q2⟩ := bnd_some q1
    have q3 : some (ta :: tb, Ts2) = some (ts, Ts') := q2
    injection q3 with q3
    injection q3 with h1 h2
    subst h1; subst h2
    refine ⟨S, Ts, A, ta, Ts1, R, ea, fun x H1 S1 A1 Ax R1 r1 o1 p1 s1 => ⟨S1, Ts1, A1, tb, Ts2, R1, eb, fun ys H2 S2 A2 Al Ab R2 r2 ol ob dj p2 s2 => ?_⟩⟩
    have hc := Rp.cells _ _ _ r1
    have o1' := o1.held R1 R2 hc p2 s2 d
    refine k (x :: ys) H2 S2 A2 Al (Ax ++ Ab) R2 ⟨ta, tb, x, ys, Ax, Ab, rfl, rfl, rfl, r1.held R1 o1 p2 s2 d, r2⟩ (ol.rebase p1) (Ow.app p1 hc o1 o1' ob) (fun a hl hx => ?_) (p1.trans R p2) (s1.trans s2)
    rcases List.mem_append.mp hx with hx | hx
    · rcases ol.new a hl with ⟨j, hj⟩ | hn
      · have hb : j ∈ b1 := Classical.byContradiction fun z => o1.dj j z a hx hj
        have e := (s2 j (d j hb)).2.1
        exact ol.dj j (fun z => nomatch z) a hl (by rw [e]; exact hj)
      · exact mut_ne (hc a hx) hn
    · exact dj a hl hx
theorem tmc_lend {s : Nat} (ha : PE X e (tVar s)) (hs : PAc g X es fs e2 b2 ln) (hst : starEach (e :: es) X.env = (false, eval e X.env) :: starEach es X.env := by rfl) : PAc g X (e :: es) (mCons (mLn s) fs) ([s] ++ e2) b2 (some s :: ln) :=
  PA.imp (pa_cons ha hs hst) fun σ H Q ⟨S, Ts, A, ts, Ts', R, q, k⟩ => by
    obtain ⟨ta, Ts1, ea, q1⟩ := bnd_some q
    obtain ⟨tb, Ts2, eb, q2⟩ := bnd_some q1
    have q3 : some (ta :: tb, Ts2) = some (ts, Ts') := q2
    injection q3 with q3
    injection q3 with h1 h2
    subst h1; subst h2
    have key : ∃ u, slot Ts s = u ∧ u ≠ .dead ∧ some (u, Ts.set s .dead) = some (ta, Ts1) := by
      unfold mLn at ea
      cases q : slot Ts s <;> rw [q] at ea <;> first | (cases ea; done) | exact ⟨_, rfl, (fun z => nomatch z), ea⟩
    obtain ⟨u, e1, n, e2'⟩ := key
    injection e2' with e2'
    injection e2' with h1 h2
    subst h1; subst h2
    obtain ⟨x, hx, rx⟩ := R.at e1 n
    obtain ⟨R1, p1, s1, o1⟩ := R.mv e1 n
    refine ⟨x, hx, S, Ts.set s .dead, _, tb, Ts2, R1, eb, fun ys H2 S2 A2 Al Ab R2 r2 ol ob dj p2 s2 => ?_⟩
    have hc := Rp.cells _ _ _ rx
    have o1' := o1.held R1 R2 hc p2 s2 (fun _ z => nomatch z)
    have ap := Ow.app p1 hc o1 o1' ol
    refine k (x :: ys) H2 S2 A2 (A s ++ Al) Ab R2 ⟨u, tb, x, ys, A s, Al, rfl, rfl, rfl, rx.held R1 o1 p2 s2 (fun _ z => nomatch z), hx, r2⟩ ap (ob.rebase p1) (fun a hl hx => ?_) (p1.trans R p2) (s1.trans s2)
    rcases List.mem_append.mp hl with hl | hl
    · rcases ob.new a hx with ⟨j, hj⟩ | hn
      · exact o1.dj j (fun z => nomatch z) a hl hj
      · exact mut_ne (hc a hl) hn
    · exact dj a hl hx
end
section
variable {g : Gc} {S S1 S2 : Addr → Prop} {H H1 H2 : Hp} {σ : L2.St}
theorem RpC.call : ∀ (ln : List (Option Nat)) (ts : List T) (xs : List V) (Al Ab : List Addr), RpC g S H σ ln ts xs Al Ab → (∀ a, S a → S2 a) → (∀ a ∈ Ab, S2 a) → RpL g S2 H (fzA ln ts) xs Al
  | [], _, _, _, _, h, _, _ => by obtain ⟨h1, h2, h3, h4⟩ := h; subst h1 h2 h3; exact ⟨rfl, rfl⟩
  | none :: ln, _, _, Al, _, h, hs, hb => by
    obtain ⟨t, ts', x, xs', B, Ab', e1, e2, e3, r, h⟩ := h
    subst e1 e2 e3
    exact ⟨x, xs', [], Al, rfl, rfl, Rp.fz hs t x B r fun a ha => hb a (List.mem_append_left _ ha), RpC.call ln ts' xs' Al Ab' h hs fun a ha => hb a (List.mem_append_right _ ha)⟩
  | some s :: ln, _, _, _, Ab, h, hs, hb => by
    obtain ⟨t, ts', x, xs', B, Al', e1, e2, e3, r, _, h⟩ := h
    subst e1 e2 e3
    exact ⟨x, xs', B, Al', rfl, rfl, Rp.keep (M := fun _ => False) (fun a o h _ => h) (fun _ h => h.elim) (fun _ _ h => h) hs t x B r (fun _ _ h => h), RpC.call ln ts' xs' Al' Ab h hs hb⟩
theorem RpC.bcells : ∀ (ln : List (Option Nat)) (ts : List T) (xs : List V) (Al Ab : List Addr), RpC g S H σ ln ts xs Al Ab → ∀ a ∈ Ab, ∃ o, H a = some o
  | [], _, _, _, _, h, a, ha => by rw [h.2.2.2] at ha; exact nomatch ha
  | none :: ln, _, _, Al, _, h, a, ha => by
    obtain ⟨t, ts', x, xs', B, Ab', e1, e2, e3, r, h⟩ := h
    rw [e3] at ha
    rcases List.mem_append.mp ha with ha | ha
    · have m := Rp.cells _ _ _ r a ha
      cases e : H a with
      | none => rw [e] at m; exact m.elim
      | some o => exact ⟨o, rfl⟩
    · exact RpC.bcells ln ts' xs' Al Ab' h a ha
  | some s :: ln, _, _, _, Ab, h, a, ha => by
    obtain ⟨t, ts', x, xs', B, Al', e1, e2, e3, r, _, h⟩ := h
    exact RpC.bcells ln ts' xs' Al' Ab h a ha
theorem RpC.lent : ∀ (ln : List (Option Nat)) (ts : List T) (xs : List V) (Al Ab : List Addr) (n : Nat) (ys : List V), RpC g S H σ ln ts xs Al Ab → ys.length = n →
    ∃ zs : List V, (lentIx n ln).map (fun i => (ys ++ xs).getD i .non) = zs ∧ zs.length = (ln.filterMap id).length ∧ ∀ (k : Nat) (s : Nat), (ln.filterMap id)[k]? = some s → ∃ x, zs[k]? = some x ∧ σ[s]? = some (some x)
  | [], _, _, _, _, n, ys, h, _ => ⟨[], rfl, rfl, fun k s e => by simp at e⟩
  | none :: ln, _, _, Al, _, n, ys, h, hn => by
    obtain ⟨t, ts', x, xs', B, Ab', e1, e2, e3, r, h⟩ := h
    subst e2
    obtain ⟨zs, h1, h2, h3⟩ := RpC.lent ln ts' xs' Al Ab' (n + 1) (ys ++ [x]) h (by simp [hn])
    refine ⟨zs, ?_, h2, h3⟩
    rw [← h1]
    show (lentIx (n + 1) ln).map _ = _
    rw [show ys ++ [x] ++ xs' = ys ++ x :: xs' by simp]
  | some s :: ln, _, _, _, Ab, n, ys, h, hn => by
    obtain ⟨t, ts', x, xs', B, Al', e1, e2, e3, r, hs, h⟩ := h
    subst e2
    obtain ⟨zs, h1, h2, h3⟩ := RpC.lent ln ts' xs' Al' Ab (n + 1) (ys ++ [x]) h (by simp [hn])
    refine ⟨x :: zs, ?_, by simp [h2], fun k s' e => ?_⟩
    · show _ :: (lentIx (n + 1) ln).map _ = _
      rw [← h1]
      congr 1
      · show (ys ++ x :: xs').getD n V.non = x
        rw [List.getD_eq_getElem?_getD, List.getElem?_append_right (by omega), ← hn]; simp
      · rw [show ys ++ [x] ++ xs' = ys ++ x :: xs' by simp]
    · cases k with
      | zero =>
        have e : s = s' := by simpa using e
        subst e
        exact ⟨x, rfl, hs⟩
      | succ k =>
        obtain ⟨y, q1, q2⟩ := h3 k s' (by simpa using e)
        exact ⟨y, by simpa using q1, q2⟩
/-- the lent trees come back -/
theorem SR.putO : ∀ (ln : List (Option Nat)) (outs : List T) (zs : List V) (Ao : List Addr) (Ts Ts' : List T) (A : Nat → List Addr), SR g S H σ Ts A → RpL g S H outs zs Ao → Ao.Nodup → (∀ a ∈ Ao, ¬ S a ∧ ∀ i, a ∉ A i) →
    (∀ (k : Nat) (s : Nat), (ln.filterMap id)[k]? = some s → ∃ x, zs[k]? = some x ∧ σ[s]? = some (some x)) → MI.putO ln outs Ts = some ((), Ts') →
    ∃ A', SR g S H σ Ts' A' ∧ (∀ i, ∀ a ∈ A' i, (∃ j, a ∈ A j) ∨ a ∈ Ao) ∧ (∀ j, j ∉ ln.filterMap id → slot Ts' j = slot Ts j ∧ A' j = A j)
  | [], outs, zs, Ao, Ts, Ts', A, R, r, nd, dj, hz, q => by
    have q : some ((), Ts) = some ((), Ts') := q
    injection q with q
    injection q with _ q
    subst q
    exact ⟨A, R, fun i a h => .inl ⟨i, h⟩, fun j _ => ⟨rfl, rfl⟩⟩
  | none :: ln, outs, zs, Ao, Ts, Ts', A, R, r, nd, dj, hz, q => SR.putO ln outs zs Ao Ts Ts' A R r nd dj hz q
  | some s :: ln, [], zs, Ao, Ts, Ts', A, R, r, nd, dj, hz, q => nomatch q
  | some s :: ln, o :: outs, zs, Ao, Ts, Ts', A, R, r, nd, dj, hz, q => by
    obtain ⟨y, ys, A1, A2, e1, e2, r1, r2⟩ := r
    subst e1; subst e2
    obtain ⟨nd1, nd2, nd3⟩ := List.nodup_append.mp nd
    have q : (if s < Ts.length then MI.putO ln outs (Ts.set s o) else none) = some ((), Ts') := q
    split at q
    · rename_i hs
      obtain ⟨x, z1, z2⟩ := hz 0 s (by simp)
      have z1 : y = x := by simpa using z1
      subst z1
      have eσ : σ.set s (some y) = σ := List.ext_getElem? fun j => by
        by_cases hj : s = j
        · subst hj
          rw [List.getElem?_set_self (by rw [← R.len]; exact hs), z2]
        · rw [List.getElem?_set_ne hj]
      have R1 := R.put hs r1 nd1 fun a ha => dj a (List.mem_append_left _ ha)
      rw [eσ] at R1
      obtain ⟨A', R', h1, h2⟩ := SR.putO ln outs ys A2 (Ts.set s o) Ts' _ R1 r2 nd2 (fun a ha => ⟨(dj a (List.mem_append_right _ ha)).1, fun i hi => by
        split at hi
        · exact nd3 a hi a ha rfl
        · exact (dj a (List.mem_append_right _ ha)).2 i hi⟩) (fun k s' e => by
          obtain ⟨x, w1, w2⟩ := hz (k + 1) s' (by simpa using e)
          exact ⟨x, by simpa using w1, w2⟩) q
      refine ⟨A', R', fun i a ha => ?_, fun j hj => ?_⟩
      · rcases h1 i a ha with ⟨j, hj⟩ | h
        · split at hj
          · exact .inr (List.mem_append_left _ hj)
          · exact .inl ⟨j, hj⟩
        · exact .inr (List.mem_append_right _ h)
      · have hj1 : j ≠ s := fun z => hj (by simp [z])
        have hj2 : j ∉ ln.filterMap id := fun z => hj (by simp only [List.filterMap_cons, id]; exact List.mem_cons_of_mem _ z)
        obtain ⟨w1, w2⟩ := h2 j hj2
        exact ⟨w1.trans (slot_set_ne hj1), w2.trans (if_neg hj1)⟩
    · cases q
end
/-- the call -/
def mCall (c : Cal) (ln : List (Option Nat)) (fs : M (List T)) : M T := bnd fs fun ts => bnd (lft (c (fzA ln ts))) fun p => bnd (putO ln p.2) fun _ => ret p.1
mutual
/-- no frozen node within -/
def T.nofz : T → Bool
  | .nd k ts => (k.isTup || k.own) && nofzL ts
  | _ => true
def nofzL : List T → Bool
  | [] => true
  | t :: ts => t.nofz && nofzL ts
end
/-- the call of a def that hands back plain data: what was lent to be read is one's own again -/
def mCallP (c : Cal) (ln : List (Option Nat)) (fs : M (List T)) : M T := bnd fs fun ts => bnd (lft (c (fzA ln ts))) fun p => if p.1.nofz && nofzL p.2 then bnd (putO ln p.2) fun _ => ret p.1 else fun _ => none
section
variable {g : Gc} {S S1 S2 : Addr → Prop} {H H1 H2 : Hp} {σ : L2.St}
mutual
theorem Rp.nofz_any : ∀ (t : T) (x : V) (A : List Addr), Rp g S H t x A → t.nofz = true → Rp g S2 H t x A
  | .dead, _, _, h, _ => h
  | .non, _, _, h, _ => h
  | .bl _, _, _, h, _ => h
  | .int _, _, _, h, _ => h
  | .str _, _, _, h, _ => h
  | .nd k ts, x, A, h, hp => by
    have hp : ((k.isTup || k.own) && nofzL ts) = true := hp
    obtain ⟨h1, h2⟩ := Bool.and_eq_true_iff.mp hp
    obtain ⟨a, xs, B, e, at_, eA, c, r⟩ := h
    refine ⟨a, xs, B, e, ?_, eA, c, RpL.nofz_any ts xs B r h2⟩
    cases k with
    | tup => exact at_
    | scr => cases h1
    | lst o => cases o with
      | true => exact at_
      | false => cases h1
    | dK o ks => cases o with
      | true => exact ⟨at_.1, at_.2.1, fun z => nomatch z⟩
      | false => cases h1
    | dT o ks => cases o with
      | true => exact ⟨at_.1, at_.2.1, fun z => nomatch z⟩
      | false => cases h1
    | ins o c fs => cases o with
      | true => exact ⟨at_.1, at_.2.1, fun z => nomatch z⟩
      | false => cases h1
theorem RpL.nofz_any : ∀ (ts : List T) (xs : List V) (A : List Addr), RpL g S H ts xs A → nofzL ts = true → RpL g S2 H ts xs A
  | [], _, _, h, _ => h
  | t :: ts, xs, A, h, hp => by
    have hp : (t.nofz && nofzL ts) = true := hp
    obtain ⟨h1, h2⟩ := Bool.and_eq_true_iff.mp hp
    obtain ⟨y, ys, A1, A2, e1, e2, r1, r2⟩ := h
    exact ⟨y, ys, A1, A2, e1, e2, Rp.nofz_any t y A1 r1 h1, RpL.nofz_any ts ys A2 r2 h2⟩
end
end
section
variable {g : Gc} {X : Cx} {e : Expr} {es : List Expr} {fa : M T} {fs : M (List T)} {e1 e2 b1 b2 : List Nat} {ln : List (Option Nat)} {pos p2 : Pos} {c : Cal} {io : List Nat}
/-- behind a call -/
theorem call_post {S S1 S' S2 : Addr → Prop} {H H1 H' : Hp} {σ : L2.St} {Ts Ts1 Ts2 : List T} {A A1 : Nat → List Addr} {Al Ab Ar Ao : List Addr} {r : T} {outs : List T} {x : V} {zs : List V} {Q : VK}
    (R : SR g S H σ Ts A) (R1 : SR g S1 H1 σ Ts1 A1) (hcl : ∀ a ∈ Al, Mut (H1 a)) (ol : Ow [] H A S1 A1 Al) (ob : Ow b1 H A S1 A1 Ab) (p : Po S H A S1 H1 A1) (s : Stb e1 H Ts A H1 Ts1 A1)
    (pf : PoF (fun a => S1 a ∨ a ∈ Ab) H1 Al S' H' (Ao ++ Ar)) (hS2 : ∀ a, S2 a → S' a) (hS1 : ∀ a, S1 a → S2 a) (hb : ∀ a, S2 a → a ∈ Ab → b1 = []) (rx : Rp g S2 H' r x Ar) (ro : RpL g S2 H' outs zs Ao) (nd : (Ao ++ Ar).Nodup) (ns : ∀ a ∈ Ao ++ Ar, ¬ S' a) (st : ∀ a, S' a → ∃ o, H' a = some o)
    (hz : ∀ (k : Nat) (s : Nat), (ln.filterMap id)[k]? = some s → ∃ x, zs[k]? = some x ∧ σ[s]? = some (some x)) (q : putO ln outs Ts1 = some ((), Ts2)) (hl : ∀ s ∈ ln.filterMap id, s ∈ e1)
    (k : ∀ x H' S' A' Ax, SR g S' H' σ Ts2 A' → Rp g S' H' r x Ax → Ow [] H A S' A' Ax → Po S H A S' H' A' → Stb e1 H Ts A H' Ts2 A' → Q x H') : Q x H' := by
  have njl : ∀ i, ∀ a ∈ A1 i, a ∉ Al := fun i a ha z => ol.dj i (fun z => nomatch z) a z ha
  have kpA : ∀ i, ∀ a ∈ A1 i, ∀ o, H1 a = some o → H' a = some o := fun i a ha o eo => pf.keep a o eo (njl i a ha)
  have ns1 : ∀ i, ∀ a ∈ A1 i, ¬ S2 a := fun i a ha z => by
    rcases pf.snew a (hS2 a z) with (h | h) | h | h
    · exact R1.ns i a ha h
    · have e := hb a z h
      exact ob.dj i (by rw [e]; exact fun z => nomatch z) a h ha
    · exact njl i a ha h
    · exact mut_ne (R1.cells i a ha) h
  have R2 : SR g S2 H' σ Ts1 A1 := ⟨fun i => by
      rcases R1.rep i with h | ⟨y, h1, h2⟩
      · exact .inl h
      · exact .inr ⟨y, h1, Rp.keep (M := fun a => a ∈ Al) (fun a o eo n => pf.keep a o eo n) hcl (fun a h z => ol.ns a z h) hS1 _ _ _ h2 fun a ha => njl i a ha⟩,
    R1.nd, R1.dj, ns1, R1.len, fun a h => st a (hS2 a h)⟩
  obtain ⟨ndo, ndr, ndd⟩ := List.nodup_append.mp nd
  have off : ∀ a ∈ Ao ++ Ar, ∀ i, a ∉ A1 i := fun a ha i hi => by
    rcases pf.anew a ha with h | h
    · exact njl i a hi h
    · exact mut_ne (R1.cells i a hi) h
  obtain ⟨A', R', h1, h2⟩ := R2.putO ln outs zs Ao Ts1 Ts2 A1 ro ndo (fun a ha => ⟨fun z => ns a (List.mem_append_left _ ha) (hS2 a z), off a (List.mem_append_left _ ha)⟩) hz q
  have back : ∀ a, H1 a = none → (∃ j, a ∈ A j) ∨ H a = none := fun a hn => by
    cases e : H a with
    | none => exact .inr rfl
    | some ob =>
      by_cases hj : ∃ j, a ∈ A j
      · exact .inl hj
      · rw [p.keep a ob e fun i hi => hj ⟨i, hi⟩] at hn; cases hn
  have nw : ∀ a ∈ Ao ++ Ar, (∃ j, a ∈ A j) ∨ H a = none := fun a ha => by
    rcases pf.anew a ha with h | h
    · exact ol.new a h
    · exact back a h
  refine k x H' S2 A' Ar R' rx ⟨fun a ha z => ns a (List.mem_append_right _ ha) (hS2 a z), fun i _ a ha hi => ?_, fun _ => ndr, fun a ha => nw a (List.mem_append_right _ ha)⟩ ⟨fun a o eo na => ?_, fun a h => hS1 a (p.sub a h), fun a h => ?_, fun i a ha => ?_⟩ fun j hj => ?_
  · rcases h1 i a hi with ⟨j, hj⟩ | h
    · exact off a (List.mem_append_right _ ha) j hj
    · exact ndd a h a ha rfl
  · refine pf.keep a o (p.keep a o eo na) fun z => ?_
    rcases ol.new a z with ⟨j, hj⟩ | h
    · exact na j hj
    · rw [h] at eo; cases eo
  · rcases pf.snew a (hS2 a h) with (h | h) | h | h
    · exact p.snew a h
    · exact .inr (ob.new a h)
    · exact .inr (ol.new a h)
    · exact .inr (back a h)
  · rcases h1 i a ha with ⟨j, hj⟩ | h
    · exact p.anew j a hj
    · exact nw a (List.mem_append_left _ h)
  · obtain ⟨x1, x2, x3⟩ := s j hj
    obtain ⟨y1, y2⟩ := h2 j fun z => hj (hl j z)
    exact ⟨y1.trans x1, y2.trans x2, fun a ha o eo => kpA j a (by rw [x2]; exact ha) o (x3 a ha o eo)⟩
theorem call_r (hb : b1 = []) (hio : io = lentIx 0 ln) (hl : ∀ s ∈ ln.filterMap id, s ∈ e1) (σ : L2.St) (H : Hp) (Q : VK) (h : TM g (mCall c ln fs) e1 [] σ H Q) : tCall (spT g io c) [] E0 (TMc g fs e1 b1 ln) σ H Q := by
  obtain ⟨S, Ts, A, r, Ts', R, q, k⟩ := h
  obtain ⟨ts, Ts1, q1, q2⟩ := bnd_some q
  obtain ⟨⟨r', outs⟩, Ts1', q3, q4⟩ := bnd_some q2
  obtain ⟨q5, e5⟩ := lft_some q3
  subst e5
  obtain ⟨_, Ts2, q6, q7⟩ := bnd_some q4
  have q7 : some (r', Ts2) = some (r, Ts') := q7
  injection q7 with q7
  injection q7 with h1 h2
  subst h1; subst h2
  refine ⟨S, Ts, A, ts, Ts1', R, q1, fun xs H1 S1 A1 Al Ab R1 rc ol ob dj p s => ?_⟩
  have hcl : ∀ a ∈ Al, Mut (H1 a) := by
    have z := RpC.call (S2 := fun a => S1 a ∨ a ∈ Ab) ln ts xs Al Ab rc (fun _ h => .inl h) (fun _ h => .inr h)
    exact RpL.cells _ _ _ z
  have hob : ∀ a ∈ Ab, ∃ o, H1 a = some o := RpC.bcells ln ts xs Al Ab rc
  show spT g io c (xs ++ []) H1 Q E0
  rw [List.append_nil]
  refine ⟨fun a => S1 a ∨ a ∈ Ab, fzA ln ts, Al, r', outs, RpC.call ln ts xs Al Ab rc (fun _ h => .inl h) (fun _ h => .inr h), ol.nd rfl, fun a ha => ?_, fun a h => h.elim (R1.st a) (hob a), q5, fun x H' S' Ar Ao rx ro nd ns st pf => ?_⟩
  · rintro (h | h)
    · exact ol.ns a ha h
    · exact dj a ha h
  · obtain ⟨zs, z1, z2, z3⟩ := RpC.lent ln ts xs Al Ab 0 [] rc rfl
    rw [List.nil_append] at z1
    rw [hio, z1] at ro
    exact call_post R R1 hcl ol ob p s pf (fun _ h => h) (fun a h => pf.sub a (.inl h)) (fun _ _ _ => hb) rx ro nd ns st z3 q6 hl k
theorem callP_r (hio : io = lentIx 0 ln) (hl : ∀ s ∈ ln.filterMap id, s ∈ e1) (σ : L2.St) (H : Hp) (Q : VK) (h : TM g (mCallP c ln fs) e1 [] σ H Q) : tCall (spT g io c) [] E0 (TMc g fs e1 b1 ln) σ H Q := by
  obtain ⟨S, Ts, A, r, Ts', R, q, k⟩ := h
  obtain ⟨ts, Ts1, q1, q2⟩ := bnd_some q
  obtain ⟨⟨r', outs⟩, Ts1', q3, q4⟩ := bnd_some q2
  obtain ⟨q5, e5⟩ := lft_some q3
  subst e5
  split at q4
  · rename_i hp
    obtain ⟨hp1, hp2⟩ := Bool.and_eq_true_iff.mp hp
    obtain ⟨_, Ts2, q6, q7⟩ := bnd_some q4
    have q7 : some (r', Ts2) = some (r, Ts') := q7
    injection q7 with q7
    injection q7 with h1 h2
    subst h1; subst h2
    refine ⟨S, Ts, A, ts, Ts1', R, q1, fun xs H1 S1 A1 Al Ab R1 rc ol ob dj p s => ?_⟩
    have hcl : ∀ a ∈ Al, Mut (H1 a) := by
      have z := RpC.call (S2 := fun a => S1 a ∨ a ∈ Ab) ln ts xs Al Ab rc (fun _ h => .inl h) (fun _ h => .inr h)
      exact RpL.cells _ _ _ z
    have hob : ∀ a ∈ Ab, ∃ o, H1 a = some o := RpC.bcells ln ts xs Al Ab rc
    show spT g io c (xs ++ []) H1 Q E0
    rw [List.append_nil]
    refine ⟨fun a => S1 a ∨ a ∈ Ab, fzA ln ts, Al, r', outs, RpC.call ln ts xs Al Ab rc (fun _ h => .inl h) (fun _ h => .inr h), ol.nd rfl, fun a ha => ?_, fun a h => h.elim (R1.st a) (hob a), q5, fun x H' S' Ar Ao rx ro nd ns st pf => ?_⟩
    · rintro (h | h)
      · exact ol.ns a ha h
      · exact dj a ha h
    · obtain ⟨zs, z1, z2, z3⟩ := RpC.lent ln ts xs Al Ab 0 [] rc rfl
      rw [List.nil_append] at z1
      rw [hio, z1] at ro
      exact call_post (S2 := fun a => S' a ∧ a ∉ Ab) R R1 hcl ol ob p s pf (fun _ h => h.1) (fun a h => ⟨pf.sub a (.inl h), fun z => ob.ns a z h⟩) (fun a h z => absurd z h.2) (Rp.nofz_any _ _ _ rx hp1) (RpL.nofz_any _ _ _ ro hp2) nd ns st z3 q6 hl k
  · cases q4
end
end MI
namespace MI
open PySem PySem.Spec PyProof.Rows L2
/-! ### what is walked -/
def ItOk (g : Gc) (bo : List Nat) (H : Hp) (A : Nat → List Addr) (S1 : Addr → Prop) (H1 : Hp) (A1 : Nat → List Addr) (J : It) (items : List T) : Prop := ∃ (ts : List T) (xs : List V) (Ax : List Addr), RpL g S1 H1 ts xs Ax ∧ Ow bo H A S1 A1 Ax ∧
  Walk J items.length (fun H2 => ∃ S2, RpL g S2 H2 ts xs Ax) (fun i H2 x H3 => (∀ a o, H2 a = some o → H3 a = some o) ∧ ∀ S2, RpL g S2 H2 ts xs Ax → ∃ t, items[i]? = some t ∧ Rp g S2 H3 t x [])
def TIm (g : Gc) (mi : M (List T)) (eff bo : List Nat) : TI := fun σ H R => ∃ S Ts A items Ts', SR g S H σ Ts A ∧ mi Ts = some (items, Ts') ∧
  ∀ J H1 S1 A1, SR g S1 H1 σ Ts' A1 → ItOk g bo H A S1 H1 A1 J items → Po S H A S1 H1 A1 → Stb eff H Ts A H1 Ts' A1 → R J H1
def PIm (g : Gc) (X : Cx) (tg iter : Expr) (mi : M (List T)) (eff bo : List Nat) : Prop := PI X tg iter (TIm g mi eff bo)
theorem PI.imp {X : Cx} {tg e : Expr} {t t' : TI} (h : PI X tg e t) (i : ∀ σ H R, t' σ H R → t σ H R) : PI X tg e t' := ⟨fun pins s σ H R I q => h.run pins s σ H R I (i σ H R q)⟩
def loopM (m : T → M Unit) (f : M Fl) : List T → M Fl
  | [] => ret .nx
  | t :: ts => bnd (m t) fun _ => bnd f fun fl => match fl with
    | .rt r => ret (.rt r)
    | .bk => ret .nx
    | _ => loopM m f ts
def mFor (mi : M (List T)) (m : T → M Unit) (f : M Fl) : M Fl := bnd mi fun items => loopM m f items
def whileM (c : M Bool) (f : M Fl) : Nat → M Fl
  | 0 => fun _ => none
  | n + 1 => bnd c fun b => if b then bnd f fun fl => (match fl with
    | .rt r => ret (.rt r)
    | .bk => ret .nx
    | _ => whileM c f n) else ret .nx
def fuelW : Nat := 1000000
def mWhile (c : M Bool) (f : M Fl) : M Fl := whileM c f fuelW
section
variable {g : Gc} {S S1 S2 : Addr → Prop} {H H1 H2 : Hp} {A A1 A2 : Nat → List Addr} {σ σ2 : L2.St} {Ts Ts1 Ts2 : List T} {eff bo : List Nat} {Ax : List Addr}
/-- behind a plain target: the claim stays -/
theorem Ow.bound {a1 : List Nat} (R2 : SR g S1 H1 σ2 Ts2 A2) (o : Ow bo H A S1 A1 Ax) (n : ∀ i, ∀ a ∈ A2 i, (∃ j, a ∈ A1 j) ∨ a ∈ ([] : List Addr)) (s : ∀ j, j ∉ a1 → A2 j = A1 j) (d : ∀ j ∈ bo, j ∉ a1) : Ow bo H A S1 A2 Ax :=
  ⟨o.ns, fun i hi a ha h => by
    rcases n i a h with ⟨j, hj⟩ | h
    · have hb : j ∈ bo := Classical.byContradiction fun z => o.dj j z a ha hj
      exact R2.dj i j (by rintro rfl; exact hi hb) a h (by rw [s j (d j hb)]; exact hj)
    · exact (nomatch h), o.nd, o.new⟩
theorem Po.bound {a1 : List Nat} (p : Po S H A S1 H1 A1) (n : ∀ i, ∀ a ∈ A2 i, (∃ j, a ∈ A1 j) ∨ a ∈ ([] : List Addr)) : Po S H A S1 H1 A2 :=
  ⟨p.keep, p.sub, p.snew, fun i a h => by
    rcases n i a h with ⟨j, hj⟩ | h
    · exact p.anew j a hj
    · exact nomatch h⟩
end
section
variable {g : Gc} {X : Cx} {tg iter : Expr} {body : List Stmt} {mi : M (List T)} {m : T → M Unit} {f : M Fl} {a1 a2 e1 e2 b1 : List Nat} {pos : Pos}
theorem for_r (d : ∀ j ∈ b1, j ∉ a1 ++ e2) (D : Ends) (σ : L2.St) (H : Hp) (h : TSm g (mFor mi m f) (a1 ++ a2) (e1 ++ (a1 ++ e2)) D σ H) : tFor (TIm g mi e1 b1) (TGm g m a1) (TSm g f a2 e2) D σ H := by
  obtain ⟨S, Ts, A, fl, Ts', R, q, k⟩ := h
  obtain ⟨items, Ts1, q1, q2⟩ := bnd_some q
  refine ⟨S, Ts, A, items, Ts1, R, q1, fun J H1 S1 A1 R1 it p1 s1 => ?_⟩
  obtain ⟨cs, cx, Ax, rc, oc, wk⟩ := it
  -- between two turns
  refine for_it wk (fun i σ' H' => ∃ S' Tsi A', SR g S' H' σ' Tsi A' ∧ loopM m f (items.drop i) Tsi = some (fl, Ts') ∧ (∀ j, j ∉ a1 ++ a2 → σ'[j]? = σ[j]?) ∧ Po S1 H1 A1 S' H' A' ∧ Stb (a1 ++ e2) H1 Ts1 A1 H' Tsi A' ∧ RpL g S' H' cs cx Ax ∧ Ow b1 H A S' A' Ax)
    ⟨S1, Ts1, A1, R1, q2, fun _ _ => rfl, Po.refl, Stb.refl, rc, oc⟩ (fun i σ' H' _ ⟨S', _, _, _, _, _, _, _, r, _⟩ => ⟨S', r⟩) ?_ ?_
  · rintro i x σ' H' H2 hi ⟨S', Tsi, A', Ri, qi, hσ, pi, si, ri, oi⟩ ⟨ex, hy⟩
    obtain ⟨t, ht, rt⟩ := hy S' ri
    have ed : items.drop i = t :: items.drop (i + 1) := by
      obtain ⟨h1, h2⟩ := List.getElem?_eq_some_iff.mp ht
      rw [← h2]; exact List.drop_eq_getElem_cons h1
    rw [ed] at qi
    obtain ⟨_, Tsa, qa, qb⟩ := bnd_some qi
    obtain ⟨fl', Tsb, qc, qd⟩ := bnd_some qb
    have Ri2 := Ri.ext ex
    refine ⟨S', Tsi, A', t, [], Tsa, Ri2, rt, List.nodup_nil, (fun _ h => nomatch h), qa, fun σ2 A2 hσ2 R2 n2 s2 => ?_⟩
    have oi2 : Ow b1 H A S' A2 Ax := oi.bound (a1 := a1) R2 n2 (fun j hj => (s2 j hj).2) fun j hj z => d j hj (List.mem_append_left _ z)
    have pi2 : Po S1 H1 A1 S' H2 A2 := (pi.trans R1 (Po.ext ex)).bound (a1 := a1) n2
    have hcx : ∀ a ∈ Ax, Mut (H2 a) := RpL.cells _ _ _ (ri.ext ex)
    refine ⟨S', Tsa, A2, fl', Tsb, R2, qc, fun σ3 H3 S3 A3 hσ3 R3 p3 s3 => ?_⟩
    have hσ' : ∀ j, j ∉ a1 ++ a2 → σ3[j]? = σ[j]? := fun j hj => (hσ3 j fun z => hj (List.mem_append_right _ z)).trans ((hσ2.2 j fun z => hj (List.mem_append_left _ z)).trans (hσ j hj))
    have p4 : Po S1 H1 A1 S3 H3 A3 := pi2.trans R1 p3
    have s4 : Stb (a1 ++ e2) H1 Ts1 A1 H3 Tsb A3 := fun j hj => by
      obtain ⟨x1, x2, x3⟩ := si j hj
      obtain ⟨y1, y2⟩ := s2 j fun z => hj (List.mem_append_left _ z)
      obtain ⟨z1, z2, z3⟩ := s3 j fun z => hj (List.mem_append_right _ z)
      exact ⟨z1.trans (y1.trans x1), z2.trans (y2.trans x2), fun a ha o eo => z3 a (by rw [y2, x2]; exact ha) o (ex a o (x3 a ha o eo))⟩
    have d2 : ∀ j ∈ b1, j ∉ e2 := fun j hj z => d j hj (List.mem_append_right _ z)
    have fin : ∀ fl'' : Fl, some (fl'', Tsb) = some (fl, Ts') → FlE g D H A fl'' σ3 H3 S3 A3 := fun fl'' eq => by
      injection eq with eq
      injection eq with h1 h2
      subst h1; subst h2
      exact k σ3 H3 S3 A3 hσ' R3 (p1.trans R p4) (s1.trans s4)
    have nxt : loopM m f (items.drop (i + 1)) Tsb = some (fl, Ts') → ∃ S' Tsi A', SR g S' H3 σ3 Tsi A' ∧ loopM m f (items.drop (i + 1)) Tsi = some (fl, Ts') ∧ (∀ j, j ∉ a1 ++ a2 → σ3[j]? = σ[j]?) ∧ Po S1 H1 A1 S' H3 A' ∧ Stb (a1 ++ e2) H1 Ts1 A1 H3 Tsi A' ∧ RpL g S' H3 cs cx Ax ∧ Ow b1 H A S' A' Ax := fun qn =>
      ⟨S3, Tsb, A3, R3, qn, hσ', p4, s4, RpL.held R2 (ri.ext ex) oi2 p3 s3 d2, oi2.held R2 R3 hcx p3 s3 d2⟩
    cases fl' with
    | nx => exact nxt qd
    | ct => exact nxt qd
    | bk => exact fin .nx qd
    | rt r => exact (fin (.rt r) qd).rebase (p1.trans R pi2)
  · rintro σ' H' ⟨S', Tsi, A', Ri, qi, hσ, pi, si, ri, oi⟩
    rw [List.drop_length] at qi
    have qi : some (Fl.nx, Tsi) = some (fl, Ts') := qi
    injection qi with qi
    injection qi with h1 h2
    subst h1; subst h2
    exact k σ' H' S' A' hσ Ri (p1.trans R pi) (s1.trans si)
theorem ts_for (hp : PassesOwn (model X.prog X.w) X.A X.env X.xe) (hc : X.calm = true) (hi : PIm g X tg iter mi e1 b1) (hg : PGm g X tg m a1) (hb : PSsm g X body f a2 e2) (d : ∀ j ∈ b1, j ∉ a1 ++ e2 := by decide) (hs : ∀ x, foldedSetIterable iter X.env x = pure x := by intro _; rfl) : PSm g X (.For tg iter body [] pos) (mFor mi m f) (a1 ++ a2) (e1 ++ (a1 ++ e2)) := PS.imp (ps_for hp hc hi hg hb hs) (for_r d)
end
end MI
namespace MI
open PySem PySem.Spec PyProof.Rows L2
section
variable {g : Gc} {X : Cx} {c : Expr} {body : List Stmt} {fc : M Bool} {f : M Fl} {a1 e1 e2 : List Nat} {pos : Pos}
theorem while_r (D : Ends) (σ : L2.St) (H : Hp) (h : TSm g (mWhile fc f) a1 (e1 ++ e2) D σ H) : tWhile (TMt g fc e1) (TSm g f a1 e2) D σ H := by
  obtain ⟨S, Ts, A, fl, Ts', R, q, k⟩ := h
  refine ⟨fun m σ' H' => ∃ S' Tsi A', SR g S' H' σ' Tsi A' ∧ whileM fc f m Tsi = some (fl, Ts') ∧ (∀ j, j ∉ a1 → σ'[j]? = σ[j]?) ∧ Po S H A S' H' A' ∧ Stb (e1 ++ e2) H Ts A H' Tsi A', ⟨_, S, Ts, A, R, q, fun _ _ => rfl, Po.refl, Stb.refl⟩, ?_⟩
  rintro m σ' H' ⟨S', Tsi, A', Ri, qi, hσ, pi, si⟩
  cases m with
  | zero => cases qi
  | succ n =>
    obtain ⟨b, Tsa, qa, qb⟩ := bnd_some qi
    refine ⟨S', Tsi, A', b, Tsa, Ri, qa, fun H1 S1 A1 R1 p1 s1 => ?_⟩
    have p2 := pi.trans R p1
    have s2 : Stb (e1 ++ e2) H Ts A H1 Tsa A1 := (si.trans s1).mono fun j hj => (List.mem_append.mp hj).elim id fun z => List.mem_append_left _ z
    cases b with
    | false =>
      refine iteF ?_
      have qb : some (Fl.nx, Tsa) = some (fl, Ts') := qb
      injection qb with qb
      injection qb with h1 h2
      subst h1; subst h2
      exact k σ' H1 S1 A1 hσ R1 p2 s2
    | true =>
      refine iteT ?_
      obtain ⟨fl', Tsb, qc, qd⟩ := bnd_some qb
      refine ⟨fun σ3 H3 => ∃ S' Tsi A', SR g S' H3 σ3 Tsi A' ∧ whileM fc f n Tsi = some (fl, Ts') ∧ (∀ j, j ∉ a1 → σ3[j]? = σ[j]?) ∧ Po S H A S' H3 A' ∧ Stb (e1 ++ e2) H Ts A H3 Tsi A', fun σ3 H3 w => ⟨n, Nat.lt_succ_self _, w⟩, S1, Tsa, A1, fl', Tsb, R1, qc, fun σ3 H3 S3 A3 hσ3 R3 p3 s3 => ?_⟩
      have hσ' : ∀ j, j ∉ a1 → σ3[j]? = σ[j]? := fun j hj => (hσ3 j hj).trans (hσ j hj)
      have p4 := p2.trans R p3
      have s4 : Stb (e1 ++ e2) H Ts A H3 Tsb A3 := (s2.trans s3).mono fun j hj => (List.mem_append.mp hj).elim id fun z => List.mem_append_right _ z
      have fin : ∀ fl'' : Fl, some (fl'', Tsb) = some (fl, Ts') → FlE g D H A fl'' σ3 H3 S3 A3 := fun fl'' eq => by
        injection eq with eq
        injection eq with h1 h2
        subst h1; subst h2
        exact k σ3 H3 S3 A3 hσ' R3 p4 s4
      cases fl' with
      | nx => exact ⟨S3, Tsb, A3, R3, qd, hσ', p4, s4⟩
      | ct => exact ⟨S3, Tsb, A3, R3, qd, hσ', p4, s4⟩
      | bk => exact fin .nx qd
      | rt r => exact (fin (.rt r) qd).rebase p2
theorem ts_while (hp : PassesOwn (model X.prog X.w) X.A X.env X.xe) (hc : PTm g X c fc e1) (hb : PSsm g X body f a1 e2) : PSm g X (.While c body [] pos) (mWhile fc f) a1 (e1 ++ e2) := PS.imp (ps_while hp hc hb) while_r
end
/-! ### comprehensions -/
def wipeT (Ts : List T) : List Nat → List T
  | [] => Ts
  | i :: vs => wipeT (Ts.set i .dead) vs
def hidOk : T → Bool
  | .dead => true
  | t => t.imm
def rest (Ts1 : List T) : List T → List Nat → List T
  | Ts2, [] => Ts2
  | Ts2, i :: vs => rest Ts1 (Ts2.set i (slot Ts1 i)) vs
def lcM (m : T → M Unit) (tt : M Bool) (te : M T) (vs : List Nat) : List T → List T → M (List T)
  | [], acc => ret acc
  | t :: ts, acc => bnd (m t) fun _ => bnd tt fun b => if b then bnd te fun r => if acc.length < sizeLine then (fun Ts => lcM m tt te vs ts (acc ++ [r]) (wipeT Ts vs)) else fun _ => none else fun Ts => lcM m tt te vs ts acc (wipeT Ts vs)
def mLc (mi : M (List T)) (m : T → M Unit) (tt : M Bool) (te : M T) (vs : List Nat) : M T := bnd mi fun items => fun Ts => if vs.all (fun i => hidOk (slot Ts i)) then (match lcM m tt te vs items [] (wipeT Ts vs) with
  | some (acc, Ts2) => some (.nd (.lst true) acc, rest Ts Ts2 vs)
  | none => none) else none
section
variable {g : Gc} {S S1 S2 : Addr → Prop} {H H1 H2 : Hp} {A A1 A2 : Nat → List Addr} {σ σ2 : L2.St} {Ts Ts1 Ts2 : List T} {eff bo : List Nat} {Ax : List Addr}
theorem wipeT_len : ∀ (vs : List Nat) (Ts : List T), (wipeT Ts vs).length = Ts.length
  | [], _ => rfl
  | i :: vs, Ts => by rw [wipeT, wipeT_len vs, List.length_set]
theorem wipeT_in : ∀ (vs : List Nat) (Ts : List T) (i : Nat), i ∈ vs ∨ slot Ts i = .dead → slot (wipeT Ts vs) i = .dead
  | [], Ts, i, h => h.elim (fun z => nomatch z) id
  | j :: vs, Ts, i, h => by
    refine wipeT_in vs (Ts.set j .dead) i ?_
    by_cases hj : i = j
    · subst hj
      refine .inr ?_
      by_cases hl : i < Ts.length
      · exact slot_set_eq hl
      · unfold slot
        rw [List.getD_eq_getElem?_getD, List.getElem?_eq_none_iff.mpr (by rw [List.length_set]; omega)]; rfl
    · rcases h with h | h
      · rcases List.mem_cons.mp h with h | h
        · exact absurd h hj
        · exact .inl h
      · exact .inr (by rw [slot_set_ne hj]; exact h)
theorem wipeT_out : ∀ (vs : List Nat) (Ts : List T) (i : Nat), i ∉ vs → slot (wipeT Ts vs) i = slot Ts i
  | [], _, _, _ => rfl
  | j :: vs, Ts, i, h => by
    rw [wipeT, wipeT_out vs (Ts.set j .dead) i fun z => h (List.mem_cons_of_mem _ z), slot_set_ne fun z => h (by rw [z]; exact List.mem_cons_self)]
theorem rest_len : ∀ (vs : List Nat) (Ts2 : List T), (rest Ts1 Ts2 vs).length = Ts2.length
  | [], _ => rfl
  | i :: vs, Ts2 => by rw [rest, rest_len vs, List.length_set]
theorem rest_out : ∀ (vs : List Nat) (Ts2 : List T) (i : Nat), i ∉ vs → slot (rest Ts1 Ts2 vs) i = slot Ts2 i
  | [], _, _, _ => rfl
  | j :: vs, Ts2, i, h => by
    rw [rest, rest_out vs (Ts2.set j (slot Ts1 j)) i fun z => h (List.mem_cons_of_mem _ z), slot_set_ne fun z => h (by rw [z]; exact List.mem_cons_self)]
theorem rest_in : ∀ (vs : List Nat) (Ts2 : List T) (i : Nat), i ∈ vs → Ts1.length = Ts2.length → slot (rest Ts1 Ts2 vs) i = slot Ts1 i
  | [], _, _, h, _ => nomatch h
  | j :: vs, Ts2, i, h, hl => by
    rw [rest]
    by_cases hv : i ∈ vs
    · exact rest_in vs (Ts2.set j (slot Ts1 j)) i hv (by rw [List.length_set]; exact hl)
    · rw [rest_out vs _ i hv]
      have e : i = j := (List.mem_cons.mp h).elim id fun z => absurd z hv
      subst e
      by_cases hi : i < Ts2.length
      · exact slot_set_eq hi
      · unfold slot
        rw [List.getD_eq_getElem?_getD, List.getElem?_eq_none_iff.mpr (by rw [List.length_set]; omega), List.getD_eq_getElem?_getD, List.getElem?_eq_none_iff.mpr (by omega)]
theorem hid_nil (R : SR g S H σ Ts A) {i : Nat} (h : hidOk (slot Ts i) = true) : A i = [] := by
  rcases R.rep i with ⟨_, e⟩ | ⟨x, _, r⟩
  · exact e
  · cases q : slot Ts i with
    | dead => rw [q] at r; exact r
    | non => rw [q] at r; exact r.2
    | bl b => rw [q] at r; exact r.2
    | int b => rw [q] at r; exact r.2
    | str b => rw [q] at r; exact r.2
    | nd k ts => rw [q] at r h; exact Rp.imm_nil _ _ _ r h
theorem wipe_getD {σ : L2.St} {i : Nat} {vs : List Nat} (h : i ∉ vs) : (wipe σ vs).getD i none = σ.getD i none := by
  rw [List.getD_eq_getElem?_getD, List.getD_eq_getElem?_getD, wipe_out h]
theorem SR.wiped (R : SR g S H σ Ts A) (vs : List Nat) (h : ∀ i ∈ vs, hidOk (slot Ts i) = true) : SR g S H (wipe σ vs) (wipeT Ts vs) A where
  rep := fun i => by
    by_cases hi : i ∈ vs
    · exact .inl ⟨wipeT_in vs Ts i (.inl hi), hid_nil R (h i hi)⟩
    · rw [wipeT_out vs Ts i hi, wipe_getD hi]
      exact R.rep i
  nd := R.nd
  dj := R.dj
  ns := R.ns
  len := by rw [wipeT_len, wipe_length]; exact R.len
  st := R.st
/-- behind a turn: the block's names are wiped -/
theorem SR.turned {vs : List Nat} (R : SR g S H σ2 Ts A) (e : wipe σ2 vs = wipe σ vs) (h : ∀ i ∈ vs, A i = []) : SR g S H (wipe σ vs) (wipeT Ts vs) A where
  rep := fun i => by
    by_cases hi : i ∈ vs
    · exact .inl ⟨wipeT_in vs Ts i (.inl hi), h i hi⟩
    · rw [wipeT_out vs Ts i hi, ← e, wipe_getD hi]
      exact R.rep i
  nd := R.nd
  dj := R.dj
  ns := R.ns
  len := by rw [wipeT_len, ← e, wipe_length]; exact R.len
  st := R.st
/-- behind the comprehension -/
theorem SR.rested {vs : List Nat} (R1 : SR g S1 H1 σ Ts1 A1) (p : Po S1 H1 A1 S2 H2 A2) (R2 : SR g S2 H2 (wipe σ vs) Ts2 A2) (h : ∀ i ∈ vs, hidOk (slot Ts1 i) = true) (hd : ∀ i ∈ vs, A2 i = []) : SR g S2 H2 σ (rest Ts1 Ts2 vs) A2 where
  rep := fun i => by
    by_cases hi : i ∈ vs
    · have hl : Ts1.length = Ts2.length := by rw [R1.len, R2.len, wipe_length]
      rw [rest_in vs Ts2 i hi hl, hd i hi]
      have e := hid_nil R1 (h i hi)
      rcases R1.rep i with ⟨h1, _⟩ | ⟨x, h1, h2⟩
      · exact .inl ⟨h1, rfl⟩
      · rw [e] at h2
        exact .inr ⟨x, h1, Rp.keep (M := fun a => ∃ j, a ∈ A1 j) (fun a o eo n => p.keep a o eo fun j hj => n ⟨j, hj⟩) (fun a ⟨j, hj⟩ => R1.cells j a hj) (fun a hs ⟨j, hj⟩ => R1.ns j a hj hs) p.sub _ _ _ h2 (fun _ z => nomatch z)⟩
    · rw [rest_out vs Ts2 i hi, ← wipe_getD hi]
      exact R2.rep i
  nd := R2.nd
  dj := R2.dj
  ns := R2.ns
  len := by rw [rest_len, R2.len, wipe_length]
  st := R2.st
/-- an own list that no slot holds is written -/
theorem SR.grow {Da : Addr} {o o' : HO} (R : SR g S H σ Ts A) (hD : H Da = some o) (hm : Mut (some o)) (hn : ∀ i, Da ∉ A i) (hs : ¬ S Da) : SR g S (upd H Da o') σ Ts A where
  rep := fun i => by
    rcases R.rep i with h | ⟨x, h1, h2⟩
    · exact .inl h
    · exact .inr ⟨x, h1, Rp.keep (M := fun a => a = Da) (fun a ob eo n => by rw [upd_ne n]; exact eo) (fun a e => by rw [e, hD]; exact hm) (fun a h e => hs (by rw [← e]; exact h)) (fun _ h => h) _ _ _ h2 fun a ha e => hn i (by rw [← e]; exact ha)⟩
  nd := R.nd
  dj := R.dj
  ns := R.ns
  len := R.len
  st := fun a h => by
    have ne : a ≠ Da := fun e => hs (by rw [← e]; exact h)
    rw [upd_ne ne]
    exact R.st a h
end
section
variable {g : Gc} {S S1 S2 : Addr → Prop} {H H1 H2 : Hp} {A A1 A2 : Nat → List Addr} {σ σ2 : L2.St} {Ts Ts1 Ts2 : List T} {eff bo : List Nat} {Ax : List Addr} {Da : Addr} {o : HO}
theorem Po.grown (p : Po S1 H1 A1 S2 H2 A2) (h : H1 Da = none) : Po S1 H1 A1 S2 (upd H2 Da o) A2 :=
  ⟨fun a ob e n => by rw [upd_ne (ne_of_none e h)]; exact p.keep a ob e n, p.sub, p.snew, p.anew⟩
theorem Stb.grown (s : Stb eff H1 Ts1 A1 H2 Ts2 A2) (h : H1 Da = none) : Stb eff H1 Ts1 A1 (upd H2 Da o) Ts2 A2 := fun j hj =>
  let ⟨x, y, z⟩ := s j hj
  ⟨x, y, fun a ha ob e => by rw [upd_ne (ne_of_none e h)]; exact z a ha ob e⟩
theorem RpL.grown {ts : List T} {xs : List V} {o' : HO} (r : RpL g S H ts xs Ax) (hD : H Da = some o') (hm : Mut (some o')) (hs : ¬ S Da) (hn : Da ∉ Ax) : RpL g S (upd H Da o) ts xs Ax :=
  RpL.keep (M := fun a => a = Da) (fun a ob eo n => by rw [upd_ne n]; exact eo) (fun a e => by rw [e, hD]; exact hm) (fun a h e => hs (by rw [← e]; exact h)) (fun _ h => h) _ _ _ r fun a ha e => hn (by rw [← e]; exact ha)
theorem wipe_in {i : Nat} {σ : L2.St} (hl : i < σ.length) : ∀ {vs : List Nat}, i ∈ vs → (wipe σ vs)[i]? = some none
  | [], h => nomatch h
  | v :: vs, h => by
    unfold wipe
    by_cases hv : v = i
    · subst hv
      exact List.getElem?_set_self (by rw [wipe_length]; exact hl)
    · rw [List.getElem?_set_ne hv]
      exact wipe_in hl ((List.mem_cons.mp h).elim (fun z => absurd z.symm hv) id)
end
section
variable {g : Gc} {X : Cx} {tg iter elt : Expr} {mi : M (List T)} {m : T → M Unit} {tt : M Bool} {te : M T} {a1 e1 e2 e3 b1 : List Nat} {vs : List Nat} {pos : Pos}
theorem lc_r (d : ∀ j ∈ b1, j ∉ a1 ++ (e2 ++ e3)) (dv : ∀ j ∈ a1, j ∈ vs) (dh : ∀ j ∈ vs, j ∉ e2 ++ e3) (σ : L2.St) (H : Hp) (Q : VK) (h : TM g (mLc mi m tt te vs) (e1 ++ (e2 ++ e3)) [] σ H Q) : tLc (TIm g mi e1 b1) (TGm g m a1) (TMt g tt e2) (TM g te e3 []) vs σ H Q := by
  obtain ⟨S, Ts, A, t, Ts', R, q, k⟩ := h
  obtain ⟨items, Ts1, q1, q2⟩ := bnd_some q
  split at q2
  · rename_i hh
    have hh : ∀ i ∈ vs, hidOk (slot Ts1 i) = true := fun i hi => List.all_eq_true.mp hh i hi
    cases q3 : lcM m tt te vs items [] (wipeT Ts1 vs) with
    | none => rw [q3] at q2; cases q2
    | some pr =>
      obtain ⟨accF, TsF⟩ := pr
      rw [q3] at q2
      have q2 : some (T.nd (.lst true) accF, rest Ts1 TsF vs) = some (t, Ts') := q2
      injection q2 with q2
      injection q2 with h1 h2
      subst h1; subst h2
      refine ⟨S, Ts, A, items, Ts1, R, q1, fun J H1 S1 A1 R1 it p1 s1 Da hDa => ?_⟩
      obtain ⟨cs, cx, Ax, rc, oc, wk⟩ := it
      have ex0 := upd_ext (o := .lst []) hDa
      have fr := R1.fresh hDa
      have bkD : (∃ j, Da ∈ A j) ∨ H Da = none := by
        cases e : H Da with
        | none => exact .inr rfl
        | some ob =>
          by_cases hj : ∃ j, Da ∈ A j
          · exact .inl hj
          · rw [p1.keep Da ob e fun i hi => hj ⟨i, hi⟩] at hDa; cases hDa
      refine lc_it wk (fun i H' => ∃ S' Tsi A' acc Aa, SR g S' H' (wipe σ vs) Tsi A' ∧ (∀ j ∈ vs, A' j = []) ∧ lcM m tt te vs (items.drop i) acc Tsi = some (accF, TsF) ∧ Po S1 H1 A1 S' H' A' ∧ Stb (vs ++ (e2 ++ e3)) H1 Ts1 A1 H' Tsi A' ∧ RpL g S' H' cs cx Ax ∧ Ow b1 H A S' A' Ax ∧ Rp g S' H' (.nd (.lst true) acc) (.ref Da) Aa ∧ Ow [] H A S' A' Aa ∧ (∀ a ∈ Ax, a ≠ Da))
        ⟨S1, wipeT Ts1 vs, A1, [], [Da], (R1.ext ex0).wiped vs hh, fun j hj => hid_nil R1 (hh j hj), q3, Po.ext ex0, ?_, rc.ext ex0, oc, ⟨Da, [], [], rfl, upd_same, rfl, .inl rfl, rfl, rfl⟩, ⟨?_, ?_, fun _ => List.nodup_cons.mpr ⟨(fun z => nomatch z), List.nodup_nil⟩, ?_⟩, ?_⟩ (fun i H' _ ⟨S', _, _, _, _, _, _, _, _, _, r, _⟩ => ⟨S', r⟩) ?_ ?_
      · exact fun j hj => ⟨wipeT_out vs Ts1 j fun z => hj (List.mem_append_left _ z), rfl, fun a _ o eo => ex0 a o eo⟩
      · intro a ha
        rw [List.mem_singleton.mp ha]; exact fr.1
      · intro i _ a ha
        rw [List.mem_singleton.mp ha]; exact fr.2 i
      · intro a ha
        rw [List.mem_singleton.mp ha]; exact bkD
      · intro a ha e
        subst e
        exact mut_ne (RpL.cells _ _ _ rc a ha) hDa
      · rintro i x H' H2 hi ⟨S', Tsi, A', acc, Aa, Ri, hv, qi, pi, si, ri, oi, ra, oa, nx⟩ ⟨ex, hy⟩
        obtain ⟨t, ht, rt⟩ := hy S' ri
        have ed : items.drop i = t :: items.drop (i + 1) := by
          obtain ⟨h1, h2⟩ := List.getElem?_eq_some_iff.mp ht
          rw [← h2]; exact List.drop_eq_getElem_cons h1
        rw [ed] at qi
        obtain ⟨_, Tsa, qa, qb⟩ := bnd_some qi
        obtain ⟨b, Tsb, qc, qd⟩ := bnd_some qb
        have Ri2 := Ri.ext ex
        refine ⟨S', Tsi, A', t, [], Tsa, Ri2, rt, List.nodup_nil, (fun _ h => nomatch h), qa, fun σ2 A2 hσ2 R2 n2 s2 => ?_⟩
        have ew : wipe σ2 vs = wipe σ vs := by
          have len2 : σ2.length = σ.length := by rw [hσ2.1, wipe_length]
          refine List.ext_getElem? fun j => ?_
          by_cases hj : j ∈ vs
          · by_cases hl : j < σ.length
            · rw [wipe_in (by omega) hj, wipe_in hl hj]
            · rw [List.getElem?_eq_none_iff.mpr (by rw [wipe_length]; omega), List.getElem?_eq_none_iff.mpr (by rw [wipe_length]; omega)]
          · rw [wipe_out hj, hσ2.2 j fun z => hj (dv j z)]
        have hAv : ∀ j ∈ vs, A2 j = [] := fun j hj => by
          cases e : A2 j with
          | nil => rfl
          | cons a l =>
            have ha : a ∈ A2 j := by rw [e]; exact List.mem_cons_self
            rcases n2 j a ha with ⟨j', hj'⟩ | h
            · have hjv : j' ∉ vs := fun z => by rw [hv j' z] at hj'; exact nomatch hj'
              have e2 := (s2 j' fun z => hjv (dv j' z)).2
              exact absurd (by rw [e2]; exact hj') (R2.dj j j' (by rintro rfl; exact hjv hj) a ha)
            · exact nomatch h
        have oi2 : Ow b1 H A S' A2 Ax := oi.bound (a1 := a1) R2 n2 (fun j hj => (s2 j hj).2) fun j hj z => d j hj (List.mem_append_left _ z)
        have oa2 : Ow [] H A S' A2 Aa := oa.bound (a1 := a1) R2 n2 (fun j hj => (s2 j hj).2) fun j hj => nomatch hj
        have pi2 : Po S1 H1 A1 S' H2 A2 := (pi.trans R1 (Po.ext ex)).bound (a1 := a1) n2
        have hcx : ∀ a ∈ Ax, Mut (H2 a) := RpL.cells _ _ _ (ri.ext ex)
        have hca : ∀ a ∈ Aa, Mut (H2 a) := Rp.cells _ _ _ (ra.ext ex)
        refine ⟨ew, S', Tsa, A2, b, Tsb, R2, qc, fun H3 S3 A3 R3 p3 s3 => ?_⟩
        have d2 : ∀ j ∈ b1, j ∉ e2 := fun j hj z => d j hj (List.mem_append_right _ (List.mem_append_left _ z))
        have d3 : ∀ j ∈ b1, j ∉ e3 := fun j hj z => d j hj (List.mem_append_right _ (List.mem_append_right _ z))
        have hA3 : ∀ j ∈ vs, A3 j = [] := fun j hj => ((s3 j fun z => dh j hj (List.mem_append_left _ z)).2.1).trans (hAv j hj)
        have ra3 := (ra.ext ex).held R2 oa2 p3 s3 (fun _ z => nomatch z)
        have oa3 := oa2.held R2 R3 hca p3 s3 (fun _ z => nomatch z)
        have ri3 := RpL.held R2 (ri.ext ex) oi2 p3 s3 d2
        have oi3 := oi2.held R2 R3 hcx p3 s3 d2
        have p4 := pi2.trans R1 p3
        have s4 : Stb (vs ++ (e2 ++ e3)) H1 Ts1 A1 H3 Tsb A3 := fun j hj => by
          have hjv : j ∉ vs := fun z => hj (List.mem_append_left _ z)
          obtain ⟨x1, x2, x3⟩ := si j hj
          obtain ⟨y1, y2⟩ := s2 j fun z => hjv (dv j z)
          obtain ⟨z1, z2, z3⟩ := s3 j fun z => hj (List.mem_append_right _ (List.mem_append_left _ z))
          exact ⟨z1.trans (y1.trans x1), z2.trans (y2.trans x2), fun a ha o eo => z3 a (by rw [y2, x2]; exact ha) o (ex a o (x3 a ha o eo))⟩
        cases b with
        | false =>
          refine iteF ⟨S3, wipeT Tsb vs, A3, acc, Aa, R3.turned ew hA3, hA3, qd, p4, fun j hj => ?_, ri3, oi3, ra3, oa3, nx⟩
          obtain ⟨x1, x2, x3⟩ := s4 j hj
          exact ⟨(wipeT_out vs Tsb j fun z => hj (List.mem_append_left _ z)).trans x1, x2, x3⟩
        | true =>
          obtain ⟨r, Tsc, qe, qf⟩ := bnd_some qd
          split at qf
          · rename_i hz
            refine iteT ⟨S3, Tsb, A3, r, Tsc, R3, qe, fun y H4 S4 A4 Ay R4 ry oy p5 s5 => ?_⟩
            have hca3 : ∀ a ∈ Aa, Mut (H3 a) := Rp.cells _ _ _ ra3
            have ra4 := ra3.held R3 oa3 p5 s5 (fun _ z => nomatch z)
            have oa4 := oa3.held R3 R4 hca3 p5 s5 (fun _ z => nomatch z)
            have ri4 := RpL.held R3 ri3 oi3 p5 s5 d3
            have oi4 := oi3.held R3 R4 (RpL.cells _ _ _ ri3) p5 s5 d3
            have oap := Ow.app (p1.trans R p4) hca3 oa3 oa4 oy
            obtain ⟨a, accV, B, e1, at_, eA, _, rl⟩ := ra4
            injection e1 with e1
            subst e1
            have at_ : H4 Da = some (.lst accV) := at_
            have eA : Aa = Da :: B := eA
            subst eA
            have ndp : (Da :: B ++ Ay).Nodup := oap.nd rfl
            obtain ⟨n1, n2'⟩ := List.nodup_cons.mp ndp
            have nDB : Da ∉ B := fun z => n1 (List.mem_append_left _ z)
            have nDy : Da ∉ Ay := fun z => n1 (List.mem_append_right _ z)
            have nS : ¬ S4 Da := oa4.ns Da List.mem_cons_self
            have nA : ∀ i, Da ∉ A4 i := fun i => oa4.dj i (fun z => nomatch z) Da List.mem_cons_self
            refine ⟨accV, at_, by rw [← RpL.length _ _ _ rl]; exact hz, ?_⟩
            have hA4 : ∀ j ∈ vs, A4 j = [] := fun j hj => ((s5 j fun z => dh j hj (List.mem_append_right _ z)).2.1).trans (hA3 j hj)
            have Rg := R4.grow (o' := .lst (accV ++ [y])) at_ trivial nA nS
            have ry2 : RpL g S4 (upd H4 Da (.lst (accV ++ [y]))) [r] [y] Ay := RpL.grown (RpL.one ry) at_ trivial nS nDy
            have rl2 := RpL.grown (o := .lst (accV ++ [y])) rl at_ trivial nS nDB
            refine ⟨S4, wipeT Tsc vs, A4, acc ++ [r], Da :: (B ++ Ay), Rg.turned ew hA4, hA4, qf, (p4.trans R1 p5).grown hDa, fun j hj => ?_, RpL.grown ri4 at_ trivial nS fun z => nx Da z rfl, oi4, ⟨Da, accV ++ [y], B ++ Ay, rfl, upd_same, rfl, .inl rfl, RpL.append _ _ _ _ _ _ rl2 ry2⟩, oap, nx⟩
            have sg := (s4.trans s5).grown (o := .lst (accV ++ [y])) hDa j fun z => hj ((List.mem_append.mp z).elim id fun z => List.mem_append_right _ (List.mem_append_right _ z))
            obtain ⟨x1, x2, x3⟩ := sg
            exact ⟨(wipeT_out vs Tsc j fun z => hj (List.mem_append_left _ z)).trans x1, x2, x3⟩
          · cases qf
      · rintro H' ⟨S', Tsi, A', acc, Aa, Ri, hv, qi, pi, si, ri, oi, ra, oa, nx⟩
        rw [List.drop_length] at qi
        have qi : some (acc, Tsi) = some (accF, TsF) := qi
        injection qi with qi
        injection qi with h1 h2
        subst h1; subst h2
        refine k (.ref Da) H' S' A' Aa (R1.rested pi Ri hh hv) ra oa (p1.trans R pi) fun j hj => ?_
        obtain ⟨x1, x2, x3⟩ := s1 j fun z => hj (List.mem_append_left _ z)
        by_cases hjv : j ∈ vs
        · have hl : Ts1.length = Tsi.length := by rw [R1.len, Ri.len, wipe_length]
          refine ⟨(rest_in vs Tsi j hjv hl).trans x1, ?_, fun a ha o eo => ?_⟩
          · rw [hv j hjv, ← x2, hid_nil R1 (hh j hjv)]
          · rw [← x2, hid_nil R1 (hh j hjv)] at ha
            exact nomatch ha
        · obtain ⟨y1, y2, y3⟩ := si j fun z => (List.mem_append.mp z).elim hjv fun z => hj (List.mem_append_right _ z)
          exact ⟨(rest_out vs Tsi j hjv).trans (y1.trans x1), y2.trans x2, fun a ha o eo => y3 a (by rw [x2]; exact ha) o (x3 a ha o eo)⟩
  · cases q2
end
end MI
namespace MI
open PySem PySem.Spec PyProof.Rows L2
/-! ### comprehensions: the rules -/
def PTsm (g : Gc) (X : Cx) (ifs : List Expr) (f : M Bool) (eff : List Nat) : Prop := PTs X ifs (TMt g f eff)
section
variable {g : Gc} {X : Cx} {tg iter elt c : Expr} {ifs : List Expr} {mi : M (List T)} {m : T → M Unit} {tt : M Bool} {te : M T} {a1 e1 e2 e3 b1 : List Nat} {vs : List Nat} {pos spos py : Pos}
theorem tmts_nil : PTsm g X [] (ret true) [] := ⟨fun pins s σ H Q I h => pts_nil.run pins s σ H Q I (tmt_ret h)⟩
theorem tmts_one (h : PTm g X c tt e1) : PTsm g X [c] tt e1 := pts_one h
theorem tm_lc {scope : Scope} {own : List (Str × Nat)} (hc : X.calm = true) (hN : X.N.Nodup) (hi : PIm g X tg iter mi e1 b1) (ok : BlkOk X.N X.env.scope scope own)
    (hg : ∀ (s : Shared) (H : Hp) (C : Addr) (cl : List (Str × Addr)) (fp : List Addr), PGm g (X.blk s H scope (compEnvC scope cl C X.env) fp) tg m a1) (ht : ∀ (s : Shared) (H : Hp) (C : Addr) (cl : List (Str × Addr)) (fp : List Addr), PTsm g (X.blk s H scope (compEnvC scope cl C X.env) fp) ifs tt e2)
    (he : ∀ (s : Shared) (H : Hp) (C : Addr) (cl : List (Str × Addr)) (fp : List Addr), PEm g (X.blk s H scope (compEnvC scope cl C X.env) fp) elt te e3 [])
    (d : ∀ j ∈ b1, j ∉ a1 ++ (e2 ++ e3) := by decide) (dv : ∀ j ∈ a1, j ∈ own.map (·.2) := by decide) (dh : ∀ j ∈ own.map (·.2), j ∉ e2 ++ e3 := by decide) (hs : ∀ x, foldedSetIterable iter X.env x = pure x := by intro _; rfl) :
    PEm g X (.ListComp elt [⟨tg, iter, ifs, 0⟩] scope pos) (mLc mi m tt te (own.map (·.2))) (e1 ++ (e2 ++ e3)) [] := PE.imp (pe_lc hc hN hi ok hg ht he hs) (lc_r d dv dh)
theorem ts_setLc {i : Nat} {y : Str} {scope : Scope} {own : List (Str × Nat)} (hc : X.calm = true) (hN : X.N.Nodup) (hy : X.N[i]? = some y) (hyl : X.env.scope.names.lookup y = some .local)
    (hsw : swapsWith (.ListComp elt [⟨tg, iter, ifs, 0⟩] scope pos) (some (.Name y py)) spos.line X.env = pure true) (hi : PIm g X tg iter mi e1 b1) (ok : BlkOk X.N X.env.scope scope own)
    (hg : ∀ (s : Shared) (H : Hp) (C : Addr) (cl : List (Str × Addr)) (fp : List Addr), PGm g (X.blk s H scope (compEnvC scope cl C X.env) fp) tg m a1) (ht : ∀ (s : Shared) (H : Hp) (C : Addr) (cl : List (Str × Addr)) (fp : List Addr), PTsm g (X.blk s H scope (compEnvC scope cl C X.env) fp) ifs tt e2)
    (he : ∀ (s : Shared) (H : Hp) (C : Addr) (cl : List (Str × Addr)) (fp : List Addr), PEm g (X.blk s H scope (compEnvC scope cl C X.env) fp) elt te e3 [])
    (d : ∀ j ∈ b1, j ∉ a1 ++ (e2 ++ e3) := by decide) (dv : ∀ j ∈ a1, j ∈ own.map (·.2) := by decide) (dh : ∀ j ∈ own.map (·.2), j ∉ e2 ++ e3 := by decide) (hs : ∀ x, foldedSetIterable iter X.env x = pure x := by intro _; rfl) :
    PSm g X (.Assign [.Name y py] (.ListComp elt [⟨tg, iter, ifs, 0⟩] scope pos) spos) (mSet i (mLc mi m tt te (own.map (·.2)))) [i] ((e1 ++ (e2 ++ e3)) ++ [i]) :=
  ts_set (PS.imp (ps_setLc hc hN hy hyl hsw hi ok hg ht he hs) fun D σ H h => lc_r d dv dh σ H _ h)
end
/-! ### iterators -/
theorem PI.or {X : Cx} {tg e : Expr} {t t' : TI} (h : PI X tg e t) (h' : PI X tg e t') : PI X tg e (fun σ H R => t σ H R ∨ t' σ H R) := ⟨fun pins s σ H R I q => q.elim (h.run pins s σ H R I) (h'.run pins s σ H R I)⟩
def mIter (fa : M T) : M (List T) := bnd fa fun t => lft (kidsI t)
theorem RpL.atI {g : Gc} {S : Addr → Prop} {H : Hp} {ts : List T} {xs : List V} (r : RpL g S H ts xs []) {i : Nat} {x : V} (hx : xs[i]? = some x) : ∃ t, ts[i]? = some t ∧ Rp g S H t x [] := by
  have hl := RpL.length _ _ _ r
  have hi : i < ts.length := by rw [hl]; exact (List.getElem?_eq_some_iff.mp hx).1
  obtain ⟨y, B, h1, h2, h3⟩ := RpL.at _ _ _ r i ts[i] (by simp [hi])
  rw [hx] at h1
  injection h1 with h1
  subst h1
  have e := List.sublist_nil.mp h3
  subst e
  exact ⟨_, by simp [hi], h2⟩
theorem At.sqAny {g : Gc} {S : Addr → Prop} {H : Hp} {k : Kd} {a : Addr} {xs : List V} (hk : k = .scr ∨ ∃ o, k = .lst o) (h : At g S H k a xs) : SqL g.K H a xs := by
  rcases hk with rfl | ⟨o, rfl⟩
  · exact h.sqS
  · exact h.sqL
section
variable {g : Gc} {X : Cx} {tg e e' : Expr} {es : List Expr} {fa fb : M T} {fs : M (List T)} {e1 e2 b1 b2 : List Nat} {pos p2 : Pos}
theorem kidsI_tup {t : T} {ks : List T} (h : kidsI t = some ks) : immL ks = true ∧ (t = .nd .tup ks ∨ ∃ k, t = .nd k ks ∧ (k = .scr ∨ ∃ o, k = .lst o)) := by
  unfold kidsI at h
  cases t with
  | nd k ts =>
    cases k with
    | tup =>
      have h : (if immL ts then some ts else none) = some ks := h
      split at h
      · rename_i hi
        injection h with h
        subst h
        exact ⟨hi, .inl rfl⟩
      · cases h
    | lst o =>
      have h : (if immL ts then some ts else none) = some ks := h
      split at h
      · rename_i hi
        injection h with h
        subst h
        exact ⟨hi, .inr ⟨_, rfl, .inr ⟨o, rfl⟩⟩⟩
      · cases h
    | scr =>
      have h : (if immL ts then some ts else none) = some ks := h
      split at h
      · rename_i hi
        injection h with h
        subst h
        exact ⟨hi, .inr ⟨_, rfl, .inl rfl⟩⟩
      · cases h
    | dK o ks => cases h
    | dT o ks => cases h
    | ins o c fs => cases h
  | dead => cases h
  | non => cases h
  | bl b => cases h
  | int b => cases h
  | str b => cases h
theorem it_seq (hK : g.K = X.K) (ha : PEm g X e fa e1 b1) : PIm g X tg e (mIter fa) e1 b1 :=
  PI.imp (PI.or (pi_list ha) (pi_tup ha)) fun σ H Rr ⟨S, Ts, A, items, Ts', R, q, k⟩ => by
    obtain ⟨t, Ts1, q1, q2⟩ := bnd_some q
    obtain ⟨q3, q4⟩ := lft_some q2
    subst q4
    obtain ⟨hi, et⟩ := kidsI_tup q3
    rcases et with et | ⟨kk, et, hkk⟩
    · subst et
      refine .inr ⟨S, Ts, A, _, Ts', R, q1, fun x H1 S1 A1 Ax R1 rx ox p s => ?_⟩
      obtain ⟨a, xs, B, ex, at_, eA, _, rl⟩ := id rx
      have at_ : SqT g.K H1 a xs := At.sqT at_
      rw [hK] at at_
      refine ⟨a, ex, ⟨xs, at_⟩, k _ H1 S1 A1 R1 ⟨[.nd .tup items], [x], Ax, RpL.one rx, ox, ?_⟩ p s⟩
      subst ex
      have hl := RpL.length _ _ _ rl
      have en := RpL.imm_nil _ _ _ rl hi
      have look : ∀ H2, (∃ S2, RpL g S2 H2 [.nd .tup items] [.ref a] Ax) → ∃ ys, SqT X.K H2 a ys ∧ ys.length = items.length := fun H2 ⟨S2, y, ys, A1, A2, e1, _, r1, _⟩ => by
        injection e1 with e1 _
        subst e1
        obtain ⟨a', zs, B', ex', at', _, _, rl'⟩ := r1
        injection ex' with ex'
        subst ex'
        exact ⟨zs, hK ▸ At.sqT at', (RpL.length _ _ _ rl').symm⟩
      refine ⟨fun i H2 hlt hG => ?_, fun H2 hG => ?_, fun i H2 x H3 hlt hG y => ⟨fun b o eo => by rw [y.1]; exact eo, fun S2 r2 => ?_⟩⟩
      · obtain ⟨ys, h1, h2⟩ := look H2 hG
        exact ⟨ys, ys[i], h1, by simp [h2, hlt]⟩
      · obtain ⟨ys, h1, h2⟩ := look H2 hG
        exact ⟨ys, h1, Nat.le_of_eq h2⟩
      · obtain ⟨y0, ys, A1', A2', e1', _, r1, _⟩ := r2
        injection e1' with e1' _
        subst e1'
        obtain ⟨a', zs, B', ex', at', _, _, rl'⟩ := r1
        injection ex' with ex'
        subst ex'
        have rn := rl'.imm_one hi
        have at' : SqT g.K H2 a zs := At.sqT at'
        obtain ⟨t, h1, h2⟩ := RpL.atI rn (y.2 zs (hK ▸ at'))
        exact ⟨t, h1, by rw [y.1]; exact h2⟩
    · subst et
      refine .inl ⟨S, Ts, A, _, Ts', R, q1, fun x H1 S1 A1 Ax R1 rx ox p s => ?_⟩
      obtain ⟨a, xs, B, ex, at_, eA, _, rl⟩ := id rx
      have sq := At.sqAny hkk at_
      rw [hK] at sq
      refine ⟨a, ex, ⟨xs, sq⟩, k _ H1 S1 A1 R1 ⟨[.nd kk items], [x], Ax, RpL.one rx, ox, ?_⟩ p s⟩
      subst ex
      have look : ∀ H2, (∃ S2, RpL g S2 H2 [.nd kk items] [.ref a] Ax) → ∃ ys, SqL X.K H2 a ys ∧ ys.length = items.length := fun H2 ⟨S2, y, ys, A1, A2, e1, _, r1, _⟩ => by
        injection e1 with e1 _
        subst e1
        obtain ⟨a', zs, B', ex', at', _, _, rl'⟩ := r1
        injection ex' with ex'
        subst ex'
        exact ⟨zs, hK ▸ At.sqAny hkk at', (RpL.length _ _ _ rl').symm⟩
      refine ⟨fun i H2 hlt hG => ?_, fun H2 hG => ?_, fun i H2 x H3 hlt hG y => ⟨fun b o eo => by rw [y.1]; exact eo, fun S2 r2 => ?_⟩⟩
      · obtain ⟨ys, h1, h2⟩ := look H2 hG
        exact ⟨ys, ys[i], h1, by simp [h2, hlt]⟩
      · obtain ⟨ys, h1, h2⟩ := look H2 hG
        exact ⟨ys, h1, Nat.le_of_eq h2⟩
      · obtain ⟨y0, ys, A1', A2', e1', _, r1, _⟩ := r2
        injection e1' with e1' _
        subst e1'
        obtain ⟨a', zs, B', ex', at', _, _, rl'⟩ := r1
        injection ex' with ex'
        subst ex'
        have rn := rl'.imm_one hi
        obtain ⟨t, h1, h2⟩ := RpL.atI rn (y.2 zs (hK ▸ At.sqAny hkk at'))
        exact ⟨t, h1, by rw [y.1]; exact h2⟩
/-- range -/
def rangeT (lo hi : Int) : List T := (List.range (hi - lo).toNat).map fun i => .int (lo + (i : Nat))
def rng1 : List T → Option (List T)
  | [.int n] => if -(2 ^ 62) ≤ n ∧ n < 2 ^ 62 then some (rangeT 0 n) else none
  | _ => none
def rng2 : List T → Option (List T)
  | [.int a, .int b] => if -(2 ^ 62) ≤ a ∧ a < 2 ^ 62 ∧ -(2 ^ 62) ≤ b ∧ b < 2 ^ 62 then some (rangeT a b) else none
  | _ => none
def mRng (f : List T → Option (List T)) (fs : M (List T)) : M (List T) := bnd fs fun ts => lft (f ts)
theorem rangeT_len (lo hi : Int) : (rangeT lo hi).length = (hi - lo).toNat := by unfold rangeT; rw [List.length_map, List.length_range]
theorem it_rng_ok {S : Addr → Prop} {H H1 : Hp} {A A1 : Nat → List Addr} {S1 : Addr → Prop} {lo hi : Int} {n : Nat} (hn : n = (hi - lo).toNat) : ItOk g [] H A S1 H1 A1 (Itr lo n) (rangeT lo hi) := by
  refine ⟨[], [], [], ⟨rfl, rfl⟩, Ow.nil, fun i H2 hlt _ => ?_, fun H2 _ => ?_, fun i H2 x H3 hlt _ y => ⟨fun b o eo => by rw [y.1]; exact eo, fun S2 _ => ⟨.int (lo + i), ?_, y.2, rfl⟩⟩⟩
  · rw [rangeT_len, ← hn] at hlt; exact hlt
  · show n ≤ (rangeT lo hi).length
    rw [rangeT_len, ← hn]; exact Nat.le_refl _
  · rw [rangeT_len] at hlt
    unfold rangeT
    rw [List.getElem?_map, List.getElem?_range hlt]; rfl
theorem it_range1 (hg : Gl X "range") (hm : X.mg "range" = none) (ha : PAm g X [e] fs e1 b1) (hs : starEach [e] X.env = [(false, eval e X.env)] := by rfl) : PIm g X tg (.Call (.Name "range" p2) [e] [] pos) (mRng rng1 fs) e1 [] :=
  PI.imp (pi_range1 hg hm ha hs) fun σ H Rr ⟨S, Ts, A, items, Ts', R, q, k⟩ => by
    obtain ⟨ts, Ts1, q1, q2⟩ := bnd_some q
    obtain ⟨q3, q4⟩ := lft_some q2
    subst q4
    refine ⟨S, Ts, A, ts, Ts', R, q1, fun xs H1 S1 A1 Ax R1 rx ox p s => ?_⟩
    unfold rng1 at q3
    split at q3
    · split at q3
      · rename_i h
        injection q3 with q3
        subst q3
        obtain ⟨y, ys, B1, B2, e1', _, r1, r2⟩ := rx
        rw [r1.1, r2.1] at e1'
        exact ⟨_, e1', h.1, h.2, k _ H1 S1 A1 R1 (it_rng_ok (S := S) (by omega)) p s⟩
      · cases q3
    · cases q3
theorem it_range2 (hg : Gl X "range") (hm : X.mg "range" = none) (ha : PAm g X [e, e'] fs e1 b1) (hs : starEach [e, e'] X.env = [(false, eval e X.env), (false, eval e' X.env)] := by rfl) (hs2 : starEach [e'] X.env = [(false, eval e' X.env)] := by rfl) : PIm g X tg (.Call (.Name "range" p2) [e, e'] [] pos) (mRng rng2 fs) e1 [] :=
  PI.imp (pi_range2 hg hm ha hs hs2) fun σ H Rr ⟨S, Ts, A, items, Ts', R, q, k⟩ => by
    obtain ⟨ts, Ts1, q1, q2⟩ := bnd_some q
    obtain ⟨q3, q4⟩ := lft_some q2
    subst q4
    refine ⟨S, Ts, A, ts, Ts', R, q1, fun xs H1 S1 A1 Ax R1 rx ox p s => ?_⟩
    unfold rng2 at q3
    split at q3
    · split at q3
      · rename_i h
        injection q3 with q3
        subst q3
        obtain ⟨y, ys, B1, B2, e1', _, r1, y2, ys2, B3, B4, e2', _, r2, r3⟩ := rx
        rw [r1.1, e2', r2.1, r3.1] at e1'
        exact ⟨_, _, e1', h, k _ H1 S1 A1 R1 (it_rng_ok (S := S) rfl) p s⟩
      · cases q3
    · cases q3
/-- the signs of a text -/
def signsT (x : Str) : List T := x.cps.toList.map fun c => .str ⟨#[c]⟩
def mSigns (fa : M T) : M (List T) := bnd fa fun t => lft (match t with
  | .str x => some (signsT x)
  | _ => none)
theorem it_str (ha : PEm g X e fa e1 b1) : PIm g X tg e (mSigns fa) e1 [] :=
  PI.imp (pi_str ha) fun σ H Rr ⟨S, Ts, A, items, Ts', R, q, k⟩ => by
    obtain ⟨t, Ts1, q1, q2⟩ := bnd_some q
    obtain ⟨q3, q4⟩ := lft_some q2
    subst q4
    refine ⟨S, Ts, A, t, Ts', R, q1, fun x H1 S1 A1 Ax R1 rx ox p s => ?_⟩
    cases t with
    | str z =>
      injection q3 with q3
      subst q3
      have hz : (signsT z).length = z.cps.size := by unfold signsT; simp
      refine ⟨z, rx.1, k _ H1 S1 A1 R1 ⟨[], [], [], ⟨rfl, rfl⟩, Ow.nil, fun i H2 hlt _ => ?_, fun H2 _ => ?_, fun i H2 x H3 hlt _ y => ⟨fun b o eo => by rw [y.1]; exact eo, fun S2 _ => ?_⟩⟩ p s⟩
      · rw [hz] at hlt; exact hlt
      · show z.cps.size ≤ (signsT z).length
        rw [hz]; exact Nat.le_refl _
      · obtain ⟨c, h1, h2⟩ := y.2
        refine ⟨.str ⟨#[c]⟩, ?_, h2, rfl⟩
        unfold signsT
        rw [List.getElem?_map, Array.getElem?_toList, h1]; rfl
    | _ => cases q3
end
end MI
namespace MI
open PySem PySem.Spec PyProof.Rows L2
/-! ### enumerate over a tuple -/
abbrev tupIt (l : Addr) : Obj := { cls := .type "tuple_iterator", data := .fields #[.ref l, .int 0 0] }
abbrev enumO (it : Addr) : Obj := { cls := .type "enumerate", data := .fields #[.none, .bool false, .ref it, rawInt 0, .none, .none] }
/-- enumerate(t) makes an iterator of the tuple, then the enumerate itself -/
theorem enum_new {v : Value} {o : Obj} {G : Heap → Prop} (B : Begins v o G) : Meets (Builtin.«enumerate.__new__» ⟨[.type "enumerate", v], []⟩) (fun _ R s => G s.heap ∧ R (.ok (.ret (.ref (s.heap.push o).objs.size))) { s with heap := (s.heap.push o).push (enumO s.heap.objs.size) }) :=
  .of_wp fun prog w A R s ⟨g, r⟩ => by
    obtain ⟨hp, gs, dr, tk, os⟩ := s
    have sub := sub_enumerate
    have begin_ : ∀ {A' : Around} {E : Value → Shared → Prop} {Q : Value → Shared → Prop}, Q (.ref hp.objs.size) ⟨hp.push o, gs, dr, tk, os⟩ → wpAny (model prog w) A' (pyIter v) Q E ⟨hp, gs, dr, tk, os⟩ := fun q => B.iter prog w _ _ _ _ g q
    wp_walk using begin_
    refine wpAny_stack_any fun st => wpAny_pure ?_
    split
    · rename_i c _ _ _ _ _
      cases (c == Value.type "enumerate") <;> (wp_walk using begin_; exact ⟨_, rfl, r⟩)
    · wp_walk using begin_
      exact ⟨_, rfl, r⟩
/-- the tuple at a, each item in a new pair -/
def IteT (K : PySem.W.Frag) (a : Addr) : It where
  go i H := ∃ (xs : List V) (x : V), SqT K H a xs ∧ xs[i]? = some x
  yld i H v H' := ∃ T x, v = .ref T ∧ H T = none ∧ H' = upd H T (.tup [.int (i : Nat), x]) ∧ ∀ xs, SqT K H a xs → xs[i]? = some x
  stop i H := ∃ xs : List V, SqT K H a xs ∧ xs.length = i
/-- the enumerate at e over the iterator at it, i items gone -/
def EnAt (a e it : Addr) (i : Nat) (h : Heap) : Prop := (∃ old, IsEnum h e it (0 + (i : Int)) old) ∧ h.IsTupleIter it a i
section
variable {P : Program} {w : World} {K : PySem.W.Frag} {elts : List Expr} {kk : Nat} {tpos : Pos} {a e it : Addr}
theorem EnAt.lt {i : Nat} {h : Heap} (x : EnAt a e it i h) : ∀ b ∈ [e, it], b < h.objs.size := fun b hb => by
  obtain ⟨⟨_, g⟩, _, g', _⟩ := x
  rcases List.mem_cons.mp hb with rfl | hb
  · exact Heap.lt_size g
  · rw [List.mem_singleton.mp hb]; exact Heap.lt_size g'
theorem turn_enumT (ne : e ≠ it) (na : a ≠ it) (nb : a ≠ e) : Turn P w K (.Tuple elts kk tpos) (IteT K a) [e, it] e (EnAt a e it) where
  mem := List.mem_cons_self
  obj i h x b hb := by
    obtain ⟨⟨_, g⟩, o, g', _, d⟩ := x
    rcases List.mem_cons.mp hb with rfl | hb
    · exact ⟨_, g, fun _ z => nomatch z⟩
    · rw [List.mem_singleton.mp hb]; exact ⟨o, g', fun _ z => by rw [d] at z; cases z⟩
  keep i h h' x k := ⟨x.1.imp fun _ g => k e (by simp) _ g, x.2.at fun o g => k it (by simp) o g⟩
  self A i s Q E x q := x.1.elim fun _ g => wpAny_pyIter_enum g q
  item X eP ew eK calm i pins s σ H E I foot x go := by
    subst eP; subst ew; subst eK
    obtain ⟨xs, y, sq, at_⟩ := go
    obtain ⟨its, rel, tup, _⟩ := I.tuple sq
    obtain ⟨u, at_u, rel_u⟩ := rel.get at_
    have W := WalksT.enumFrom (prog := X.prog) (w := X.w) (A := X.A) 0 (Draws.tuple (A := X.A.in1) (I.ok.hd calm) it a na its.toArray) e ne (by simp [ne, nb.symm]) (by simp)
    refine W.item i s _ _ (by simpa using (List.getElem?_eq_some_iff.mp at_u).1) ⟨x.1, x.2, tup⟩ fun T vals h' tk has fresh isT mid same => ⟨.ref T, rfl, W.go elts kk tpos i T { s with heap := h', toks := tk } _ _ mid fun h2 x2 same2 => ?_⟩
    obtain ⟨t, v, at_v, rfl⟩ := has
    have ev : v = u := Option.some.inj (at_v.symm.trans (by simpa using at_u))
    subst ev
    have isT2 := isT.at fun o g => same2 T o (W.apart i T h' mid) g
    have new : ObjOk X.prog X.w (upd H T (.tup [.int (i : Nat), y])) h2 T (.tup [.int (i : Nat), y]) := ⟨by show 2 ≤ sizeLine; decide, [.int (0 + (i : Int)) t, v], .cons ⟨t, by simp⟩ (.cons rel_u .nil), isT2⟩
    refine ⟨.ref T, _, I.turnedNew (t' := tk) (ch := [e, it]) (fun b o nb g => same2 b o nb (same b o nb g)) foot fresh new, rfl, ⟨T, y, rfl, I.hok.fresh fresh, rfl, fun ys sq' => by rw [I.tuple_inj sq' sq]; exact at_⟩, ⟨x2.1, x2.2.1⟩, fun b hb => ?_⟩
    rw [upd_ne (Nat.ne_of_lt (Nat.lt_of_lt_of_le (x.lt b hb) fresh))]
    exact (foot b hb).1
  done X eP ew eK calm i pins s σ H E I foot x stop := by
    subst eP; subst ew; subst eK
    obtain ⟨xs, sq, rfl⟩ := stop
    obtain ⟨its, rel, tup, _⟩ := I.tuple sq
    have W := WalksT.enumFrom (prog := X.prog) (w := X.w) (A := X.A) 0 (Draws.tuple (A := X.A.in1) (I.ok.hd calm) it a na its.toArray) e ne (by simp [ne, nb.symm]) (by simp)
    have len : xs.length = its.toArray.size := by rw [List.size_toArray]; exact rel.length
    rw [len] at x
    exact W.done s _ _ ⟨x.1, x.2, tup⟩ fun h' tk same => ⟨rfl, I.turnedL (t' := tk) same foot⟩
end
def iEnumT (K : PySem.W.Frag) (ta : TA) : TI := fun σ H R => ta σ H fun vs H1 => ∃ a xs, vs = [.ref a] ∧ SqT K H1 a xs ∧ R (IteT K a) H1
theorem pi_enumT {X : Cx} {e : Expr} {ta : TA} {p pos tpos : Pos} {elts : List Expr} {kk : Nat} (hg : Gl X "enumerate") (hm : X.mg "enumerate" = none) (ha : PA X [e] ta) (hs : starEach [e] X.env = [(false, eval e X.env)] := by rfl) :
    PI X (.Tuple elts kk tpos) (.Call (.Name "enumerate" p) [e] [] pos) (iEnumT X.K ta) where
  run pins s σ H R I h := Call_ (ld_blt I hg hm boot_enumerate (PyProof.Rows.callWith_type1 (thn (ha.run pos pins s σ H _ I h) fun us s1 b => by
    obtain ⟨vs, H1, J, rel, a, xs, rfl, sq, q⟩ := b
    obtain ⟨u, rfl, eu⟩ := vals1 rel
    have eu : u = Value.ref a := eu
    subst eu
    obtain ⟨its, _, tup, _⟩ := J.tuple sq
    have la : a < s1.heap.objs.size := tup.elim fun _ r => Heap.lt_size r.1
    have sz : (s1.heap.push (tupIt a)).objs.size = s1.heap.objs.size + 1 := Heap.size_push ..
    have all : ∀ b o, s1.heap.get? b = some o → ((s1.heap.push (tupIt a)).push (enumO s1.heap.objs.size)).get? b = some o := fun b o g => Heap.get?_push_of_some _ (Heap.get?_push_of_some _ g)
    have isE : ((s1.heap.push (tupIt a)).push (enumO s1.heap.objs.size)).get? (s1.heap.objs.size + 1) = some (enumO s1.heap.objs.size) := by rw [← sz]; exact Heap.get?_push_size _ rfl
    refine callType_new F.called_enumerate (by decide) (F.typeCall_enumerate_1 _) (F.newCall_enumerate_1 _) (fun obj => F.args_object_init_2 obj _) F.entry_enumerate_new (enum_new (begins_tuple a its.toArray)) ⟨tup, ?_⟩
    show _ ∧ _
    rw [sz]
    refine ⟨⟨_, isE, rfl⟩, wpAny_pyIter_enum (e := s1.heap.objs.size + 1) isE ⟨s1.heap.objs.size + 1, [s1.heap.objs.size + 1, s1.heap.objs.size], EnAt a (s1.heap.objs.size + 1) s1.heap.objs.size, IteT X.K a, H1, rfl, J.kept (t' := s1.toks) all, turn_enumT (Nat.succ_ne_self _) (Nat.ne_of_lt la) (Nat.ne_of_lt (Nat.lt_succ_of_lt la)), ⟨⟨.none, isE⟩, _, Heap.get?_push_of_some _ (Heap.get?_push_size _ rfl), rfl, rfl⟩, fun b hb => ?_, q⟩⟩
    have le : s1.heap.objs.size ≤ b := by
      rcases List.mem_cons.mp hb with rfl | hb
      · exact Nat.le_add_right _ 1
      · rw [List.mem_singleton.mp hb]; exact Nat.le.refl
    exact J.fpOk le (J.hok.fresh le)) hs rfl))
/-! ### enumerate, zip: the mirrors -/
def enumT (ks : List T) : List T := ks.mapIdx fun i t => .nd .tup [.int (i : Nat), t]
def enumF : List T → Option (List T)
  | [t] => (kidsI t).map enumT
  | _ => none
section
variable {g : Gc} {X : Cx} {e e' : Expr} {fs : M (List T)} {e1 b1 : List Nat} {pos p2 tpos : Pos} {elts : List Expr} {kk : Nat}
theorem pair_rep {S : Addr → Prop} {H2 H3 : Hp} {p : Addr} {x y : V} {s t : T} (hp : H2 p = none) (eH : H3 = upd H2 p (.tup [x, y])) (rx : Rp g S H2 s x []) (ry : Rp g S H2 t y []) : (∀ a o, H2 a = some o → H3 a = some o) ∧ Rp g S H3 (.nd .tup [s, t]) (.ref p) [] := by
  subst eH
  have ex := upd_ext (o := .tup [x, y]) hp
  exact ⟨ex, p, [x, y], [], rfl, .inl upd_same, rfl, .inr (.inr rfl), x, [y], [], [], rfl, rfl, rx.ext ex, y, [], [], [], rfl, rfl, ry.ext ex, rfl, rfl⟩
theorem it_enum (hK : g.K = X.K) (hg : Gl X "enumerate") (hm : X.mg "enumerate" = none) (ha : PAm g X [e] fs e1 b1) (hs : starEach [e] X.env = [(false, eval e X.env)] := by rfl) : PIm g X (.Tuple elts kk tpos) (.Call (.Name "enumerate" p2) [e] [] pos) (mRng enumF fs) e1 b1 :=
  PI.imp (PI.or (pi_enum hg hm ha hs) (pi_enumT hg hm ha hs)) fun σ H Rr ⟨S, Ts, A, items, Ts', R, q, k⟩ => by
    obtain ⟨ts, Ts1, q1, q2⟩ := bnd_some q
    obtain ⟨q3, q4⟩ := lft_some q2
    subst q4
    unfold enumF at q3
    split at q3
    · rename_i t
      cases hk : kidsI t with
      | none => rw [hk] at q3; cases q3
      | some ks =>
        rw [hk] at q3
        have q3 : enumT ks = items := by injection q3
        subst q3
        have hlen : (enumT ks).length = ks.length := by unfold enumT; simp
        have hget : ∀ (i : Nat) (u : T), ks[i]? = some u → (enumT ks)[i]? = some (.nd .tup [.int (i : Nat), u]) := fun i u h => by unfold enumT; rw [List.getElem?_mapIdx, h]; rfl
        obtain ⟨hi, et⟩ := kidsI_tup hk
        rcases et with et | ⟨kk', et, hkk⟩
        · subst et
          refine .inr ⟨S, Ts, A, _, Ts', R, q1, fun xs H1 S1 A1 Ax R1 rx ox p s => ?_⟩
          obtain ⟨y, ys, B1, B2, ey, eB, r1, r2⟩ := id rx
          obtain ⟨a, zs, B, ex, at_, eA, _, rl⟩ := r1
          have at_ : SqT g.K H1 a zs := At.sqT at_
          rw [hK] at at_
          have exs : xs = [.ref a] := by rw [ey, ex, r2.1]
          refine ⟨a, zs, exs, at_, k _ H1 S1 A1 R1 ⟨[.nd .tup ks], xs, Ax, rx, ox, ?_⟩ p s⟩
          subst exs
          have look : ∀ H2 S2, RpL g S2 H2 [.nd .tup ks] [.ref a] Ax → ∃ ys, SqT X.K H2 a ys ∧ ys.length = ks.length ∧ RpL g S2 H2 ks ys [] := fun H2 S2 ⟨y, ys, A1, A2, e1, _, r1, _⟩ => by
            injection e1 with e1 _
            subst e1
            obtain ⟨a', zs, B', ex', at', _, _, rl'⟩ := r1
            injection ex' with ex'
            subst ex'
            exact ⟨zs, hK ▸ At.sqT at', (RpL.length _ _ _ rl').symm, rl'.imm_one hi⟩
          refine ⟨fun i H2 hlt ⟨S2, hG⟩ => ?_, fun H2 ⟨S2, hG⟩ => ?_, fun i H2 x H3 hlt ⟨S2, hG⟩ yd => ?_⟩
          · obtain ⟨ys, h1, h2, _⟩ := look H2 S2 hG
            exact ⟨ys, ys[i]'(by rw [h2, ← hlen]; exact hlt), h1, by simp⟩
          · obtain ⟨ys, h1, h2, _⟩ := look H2 S2 hG
            exact ⟨ys, h1, h2.trans hlen.symm⟩
          · obtain ⟨T, z, ex, hT, eH, hz⟩ := yd
            subst ex
            obtain ⟨ys, h1, h2, h3⟩ := look H2 S2 hG
            refine ⟨by rw [eH]; exact upd_ext hT, fun S3 hG3 => ?_⟩
            obtain ⟨ys', h1', h2', h3'⟩ := look H2 S3 hG3
            obtain ⟨u, hu, ru⟩ := RpL.atI h3' (hz ys' h1')
            exact ⟨_, hget i u hu, (pair_rep (s := .int (i : Nat)) hT eH ⟨rfl, rfl⟩ ru).2⟩
        · subst et
          refine .inl ⟨S, Ts, A, _, Ts', R, q1, fun xs H1 S1 A1 Ax R1 rx ox p s => ?_⟩
          obtain ⟨y, ys, B1, B2, ey, eB, r1, r2⟩ := id rx
          obtain ⟨a, zs, B, ex, at_, eA, _, rl⟩ := r1
          have at_ := At.sqAny hkk at_
          rw [hK] at at_
          have exs : xs = [.ref a] := by rw [ey, ex, r2.1]
          refine ⟨a, zs, exs, at_, k _ H1 S1 A1 R1 ⟨[.nd kk' ks], xs, Ax, rx, ox, ?_⟩ p s⟩
          subst exs
          have look : ∀ H2 S2, RpL g S2 H2 [.nd kk' ks] [.ref a] Ax → ∃ ys, SqL X.K H2 a ys ∧ ys.length = ks.length ∧ RpL g S2 H2 ks ys [] := fun H2 S2 ⟨y, ys, A1, A2, e1, _, r1, _⟩ => by
            injection e1 with e1 _
            subst e1
            obtain ⟨a', zs, B', ex', at', _, _, rl'⟩ := r1
            injection ex' with ex'
            subst ex'
            exact ⟨zs, hK ▸ At.sqAny hkk at', (RpL.length _ _ _ rl').symm, rl'.imm_one hi⟩
          refine ⟨fun i H2 hlt ⟨S2, hG⟩ => ?_, fun H2 ⟨S2, hG⟩ => ?_, fun i H2 x H3 hlt ⟨S2, hG⟩ yd => ?_⟩
          · obtain ⟨ys, h1, h2, _⟩ := look H2 S2 hG
            exact ⟨ys, ys[i]'(by rw [h2, ← hlen]; exact hlt), h1, by simp⟩
          · obtain ⟨ys, h1, h2, _⟩ := look H2 S2 hG
            exact ⟨ys, h1, Nat.le_of_eq (h2.trans hlen.symm)⟩
          · obtain ⟨T, z, ex, hT, eH, hz⟩ := yd
            subst ex
            refine ⟨by rw [eH]; exact upd_ext hT, fun S3 hG3 => ?_⟩
            obtain ⟨ys', h1', h2', h3'⟩ := look H2 S3 hG3
            obtain ⟨u, hu, ru⟩ := RpL.atI h3' (hz ys' h1')
            exact ⟨_, hget i u hu, (pair_rep (s := .int (i : Nat)) hT eH ⟨rfl, rfl⟩ ru).2⟩
    · cases q3
end
end MI
namespace MI
open PySem PySem.Spec PyProof.Rows L2
/-! ### places: a node within a slot's tree -/
def subT : List Nat → T → Option T
  | [], t => some t
  | j :: p, .nd _ ts => match ts[j]? with
    | some u => subT p u
    | none => none
  | _ :: _, _ => none
def setT : List Nat → T → T → T
  | [], _, n => n
  | j :: p, .nd k ts, n => .nd k (ts.set j (setT p (ts.getD j .dead) n))
  | _ :: _, t, _ => t
/-- x stands for t; along p one comes to y, which stands for u -/
def Pl (g : Gc) (S : Addr → Prop) (H : Hp) : List Nat → T → V → List Addr → V → T → List Addr → Prop
  | [], t, x, A, y, u, B => y = x ∧ u = t ∧ B = A ∧ Rp g S H t x A
  | j :: p, .nd k ts, x, A, y, u, B => ∃ a xs B1 B2 B3 z t', x = .ref a ∧ At g S H k a xs ∧ A = (if k.own then a :: (B1 ++ (B2 ++ B3)) else B1 ++ (B2 ++ B3)) ∧ (k.own = true ∨ k.isTup = true ∨ B1 ++ (B2 ++ B3) = []) ∧ xs[j]? = some z ∧ ts[j]? = some t' ∧ ts.length = xs.length ∧
      RpL g S H (ts.take j) (xs.take j) B1 ∧ RpL g S H (ts.drop (j + 1)) (xs.drop (j + 1)) B3 ∧ Pl g S H p t' z B2 y u B
  | _ :: _, _, _, _, _, _, _ => False
section
variable {g : Gc} {S S' : Addr → Prop} {H H' : Hp} {M : Addr → Prop}
theorem RpL.split : ∀ (ts : List T) (xs : List V) (A : List Addr), RpL g S H ts xs A → ∀ (j : Nat) (u : T), ts[j]? = some u → ∃ z B1 B2 B3, xs[j]? = some z ∧ A = B1 ++ (B2 ++ B3) ∧ Rp g S H u z B2 ∧ RpL g S H (ts.take j) (xs.take j) B1 ∧ RpL g S H (ts.drop (j + 1)) (xs.drop (j + 1)) B3
  | [], _, _, _, j, u, e => by simp at e
  | t :: ts, xs, A, h, j, u, e => by
    obtain ⟨y, ys, A1, A2, e1, e2, r1, r2⟩ := h
    subst e1; subst e2
    cases j with
    | zero =>
      have e : t = u := by simpa using e
      subst e
      exact ⟨y, [], A1, A2, rfl, rfl, r1, ⟨rfl, rfl⟩, by simpa using r2⟩
    | succ j =>
      obtain ⟨z, B1, B2, B3, h1, h2, h3, h4, h5⟩ := RpL.split ts ys A2 r2 j u (by simpa using e)
      exact ⟨z, A1 ++ B1, B2, B3, by simpa using h1, by rw [h2]; simp, h3, ⟨y, ys.take j, A1, B1, by simp, rfl, r1, h4⟩, by simpa using h5⟩
theorem RpL.join {ts : List T} {xs : List V} {j : Nat} {u' : T} {z : V} {B1 B2 B3 : List Addr} (hj : j < ts.length) (hx : xs[j]? = some z) (hl : ts.length = xs.length) (h1 : RpL g S H (ts.take j) (xs.take j) B1) (h2 : Rp g S H u' z B2) (h3 : RpL g S H (ts.drop (j + 1)) (xs.drop (j + 1)) B3) : RpL g S H (ts.set j u') xs (B1 ++ (B2 ++ B3)) := by
  have e1 : ts.set j u' = ts.take j ++ (u' :: ts.drop (j + 1)) := by
    rw [List.set_eq_take_append_cons_drop, if_pos hj]
  have e2 : xs = xs.take j ++ (z :: xs.drop (j + 1)) := by
    have hj2 : j < xs.length := by omega
    have ez : xs[j] = z := by
      have := List.getElem?_eq_some_iff.mp hx
      exact this.2
    have e := (List.take_append_drop j xs).symm
    rw [List.drop_eq_getElem_cons hj2, ez] at e
    exact e
  rw [e1, e2]
  have e3 : (xs.take j ++ (z :: xs.drop (j + 1))).take j = xs.take j := by rw [← e2]
  exact RpL.append _ _ _ _ _ _ h1 ⟨z, xs.drop (j + 1), B2, B3, rfl, rfl, h2, h3⟩
theorem Pl.keep (kp : ∀ a o, H a = some o → ¬ M a → H' a = some o) (hm : ∀ a, M a → Mut (H a)) (hS : ∀ a, S a → ¬ M a) (hs : ∀ a, S a → S' a) :
    ∀ (p : List Nat) (t : T) (x : V) (A : List Addr) (y : V) (u : T) (B : List Addr), Pl g S H p t x A y u B → (∀ a ∈ A, ¬ M a) → Pl g S' H' p t x A y u B
  | [], t, x, A, _, _, _, h, hA => ⟨h.1, h.2.1, h.2.2.1, Rp.keep kp hm hS hs t x A h.2.2.2 hA⟩
  | j :: p, .nd k ts, x, A, y, u, B, h, hA => by
    obtain ⟨a, xs, B1, B2, B3, z, t', ex, at_, eA, c, hz, ht, hl, r1, r3, h⟩ := h
    have hB : ∀ b ∈ B1 ++ (B2 ++ B3), ¬ M b := fun b hb => hA b (by
      rw [eA]
      split
      · exact List.mem_cons_of_mem _ hb
      · exact hb)
    refine ⟨a, xs, B1, B2, B3, z, t', ex, at_.keep kp hm hS hs fun ho => hA a (by rw [eA, if_pos ho]; exact List.mem_cons_self), eA, c, hz, ht, hl, RpL.keep kp hm hS hs _ _ _ r1 fun b hb => hB b (List.mem_append_left _ hb),
      RpL.keep kp hm hS hs _ _ _ r3 fun b hb => hB b (List.mem_append_right _ (List.mem_append_right _ hb)), Pl.keep kp hm hS hs p t' z B2 y u B h fun b hb => hB b (List.mem_append_right _ (List.mem_append_left _ hb))⟩
  | _ :: _, .dead, _, _, _, _, _, h, _ => h
  | _ :: _, .non, _, _, _, _, _, h, _ => h
  | _ :: _, .bl _, _, _, _, _, _, h, _ => h
  | _ :: _, .int _, _, _, _, _, _, h, _ => h
  | _ :: _, .str _, _, _, _, _, _, h, _ => h
/-- what stands at the place -/
theorem Pl.rep : ∀ (p : List Nat) (t : T) (x : V) (A : List Addr) (y : V) (u : T) (B : List Addr), Pl g S H p t x A y u B → Rp g S H u y B ∧ B.Sublist A ∧ subT p t = some u
  | [], t, x, A, _, _, _, h => by
    obtain ⟨h1, h2, h3, h4⟩ := h
    subst h1 h2 h3
    exact ⟨h4, List.Sublist.refl _, rfl⟩
  | j :: p, .nd k ts, x, A, y, u, B, h => by
    obtain ⟨a, xs, B1, B2, B3, z, t', ex, at_, eA, c, hz, ht, hl, r1, r3, h⟩ := h
    obtain ⟨h1, h2, h3⟩ := Pl.rep p t' z B2 y u B h
    refine ⟨h1, ?_, by rw [subT, ht]; exact h3⟩
    have h4 : B.Sublist (B1 ++ (B2 ++ B3)) := h2.trans ((List.sublist_append_left _ _).trans (List.sublist_append_right _ _))
    rw [eA]
    split
    · exact h4.trans (List.sublist_cons_self _ _)
    · exact h4
  | _ :: _, .dead, _, _, _, _, _, h => h.elim
  | _ :: _, .non, _, _, _, _, _, h => h.elim
  | _ :: _, .bl _, _, _, _, _, _, h => h.elim
  | _ :: _, .int _, _, _, _, _, _, h => h.elim
  | _ :: _, .str _, _, _, _, _, _, h => h.elim
/-- one step further -/
theorem Pl.snoc {j : Nat} {k : Kd} {ts : List T} {u : T} : ∀ (p : List Nat) (t : T) (x : V) (A : List Addr) (y : V) (B : List Addr), Pl g S H p t x A y (.nd k ts) B → ts[j]? = some u →
    ∃ a xs z B', y = .ref a ∧ At g S H k a xs ∧ xs.length = ts.length ∧ xs[j]? = some z ∧ Pl g S H (p ++ [j]) t x A z u B'
  | [], t, x, A, y, B, h, hj => by
    obtain ⟨h1, h2, h3, h4⟩ := h
    subst h1 h2 h3
    obtain ⟨a, xs, B0, ex, at_, eA, c, rl⟩ := h4
    obtain ⟨z, B1, B2, B3, hz, eB, r2, r1, r3⟩ := RpL.split _ _ _ rl j u hj
    subst eB
    exact ⟨a, xs, z, B2, ex, at_, (RpL.length _ _ _ rl).symm, hz, a, xs, B1, B2, B3, z, u, ex, at_, eA, c, hz, hj, RpL.length _ _ _ rl, r1, r3, rfl, rfl, rfl, r2⟩
  | i :: p, .nd k0 ts0, x, A, y, B, h, hj => by
    obtain ⟨a, xs, B1, B2, B3, z, t', ex, at_, eA, c, hz, ht, hl, r1, r3, h⟩ := h
    obtain ⟨a', xs', z', B', h1, h2, h3, h4, h5⟩ := Pl.snoc p t' z B2 y B h hj
    exact ⟨a', xs', z', B', h1, h2, h3, h4, a, xs, B1, B2, B3, z, t', ex, at_, eA, c, hz, ht, hl, r1, r3, h5⟩
  | _ :: _, .dead, _, _, _, _, h, _ => h.elim
  | _ :: _, .non, _, _, _, _, h, _ => h.elim
  | _ :: _, .bl _, _, _, _, _, h, _ => h.elim
  | _ :: _, .int _, _, _, _, _, h, _ => h.elim
  | _ :: _, .str _, _, _, _, _, h, _ => h.elim
/-- the own node at the place is written -/
theorem Pl.node {a : Addr} {o' : HO} {k k' : Kd} {ts ts' : List T} {N : List Addr} (ho : k.own = true) (ho' : k'.own = true) (hm : Mut (H a)) :
    ∀ (p : List Nat) (t : T) (x : V) (A : List Addr) (B : List Addr), Pl g S H p t x A (.ref a) (.nd k ts) B → A.Nodup → (∀ b ∈ A, ¬ S b) → (∀ b ∈ N, b ∉ A) →
      (∀ xs B0, At g S H k a xs → RpL g S H ts xs B0 → B = a :: B0 → ∃ xs' B', At g S (upd H a o') k' a xs' ∧ RpL g S (upd H a o') ts' xs' B' ∧ B'.Nodup ∧ ∀ b ∈ B', b ∈ B0 ∨ b ∈ N) →
      a ∈ A ∧ ∃ A', Rp g S (upd H a o') (setT p t (.nd k' ts')) x A' ∧ A'.Nodup ∧ ∀ b ∈ A', b ∈ A ∨ b ∈ N
  | [], t, x, A, B, h, nd, ns, hN, new => by
    obtain ⟨h1, h2, h3, h4⟩ := h
    subst h1 h2 h3
    obtain ⟨a', xs, B0, ex, at_, eA, c, rl⟩ := h4
    injection ex with ex
    subst ex
    rw [if_pos ho] at eA
    subst eA
    obtain ⟨xs', B', n1, n2, n3, n4⟩ := new xs B0 at_ rl rfl
    refine ⟨List.mem_cons_self, a :: B', ⟨a, xs', B', rfl, n1, by rw [if_pos ho'], .inl ho', n2⟩, List.nodup_cons.mpr ⟨fun z => ?_, n3⟩, fun b hb => ?_⟩
    · rcases n4 a z with h | h
      · exact (List.nodup_cons.mp nd).1 h
      · exact hN a h List.mem_cons_self
    · rcases List.mem_cons.mp hb with rfl | hb
      · exact .inl List.mem_cons_self
      · rcases n4 b hb with h | h
        · exact .inl (List.mem_cons_of_mem _ h)
        · exact .inr h
  | j :: p, .nd k0 ts0, x, A, B, h, nd, ns, hN, new => by
    obtain ⟨a0, xs, B1, B2, B3, z, t', ex, at_, eA, c, hz, ht, hl, r1, r3, h⟩ := h
    have hsub : (B1 ++ (B2 ++ B3)).Sublist A := by
      rw [eA]
      split
      · exact List.sublist_cons_self _ _
      · exact List.Sublist.refl _
    have nd0 := nd.sublist hsub
    obtain ⟨nB1, nB23, d1⟩ := List.nodup_append.mp nd0
    obtain ⟨nB2, nB3, d2⟩ := List.nodup_append.mp nB23
    have in0 : ∀ b ∈ B2, b ∈ A := fun b hb => hsub.subset (List.mem_append_right _ (List.mem_append_left _ hb))
    obtain ⟨ha, A2', rn, ndn, hn⟩ := Pl.node ho ho' hm p t' z B2 B h nB2 (fun b hb => ns b (in0 b hb)) (fun b hb z => hN b hb (in0 b z)) new
    have haA := in0 a ha
    have nS : ¬ S a := ns a haA
    have kp : ∀ b o, H b = some o → ¬ (b = a) → upd H a o' b = some o := fun b o e n => by rw [upd_ne n]; exact e
    have hm' : ∀ b, b = a → Mut (H b) := fun b e => by rw [e]; exact hm
    have hS' : ∀ b, S b → ¬ (b = a) := fun b h e => nS (by rw [← e]; exact h)
    have r1' := RpL.keep (M := fun b => b = a) kp hm' hS' (fun _ h => h) _ _ _ r1 fun b hb e => d1 b hb a (List.mem_append_left _ ha) e
    have r3' := RpL.keep (M := fun b => b = a) kp hm' hS' (fun _ h => h) _ _ _ r3 fun b hb e => d2 a ha b hb e.symm
    have at' : At g S (upd H a o') k0 a0 xs := at_.keep (M := fun b => b = a) kp hm' hS' (fun _ h => h) fun ho0 e => by
      rw [eA, if_pos ho0, e] at nd
      exact (List.nodup_cons.mp nd).1 (List.mem_append_right _ (List.mem_append_left _ ha))
    have hj : j < ts0.length := (List.getElem?_eq_some_iff.mp ht).1
    have eg : ts0.getD j .dead = t' := by rw [List.getD_eq_getElem?_getD, ht]; rfl
    have rj := RpL.join hj hz hl r1' rn r3'
    have ndj : (B1 ++ (A2' ++ B3)).Nodup := by
      refine List.nodup_append.mpr ⟨nB1, List.nodup_append.mpr ⟨ndn, nB3, fun b hb b' hb' e => ?_⟩, fun b hb b' hb' e => ?_⟩
      · subst e
        rcases hn b hb with h | h
        · exact d2 b h b hb' rfl
        · exact hN b h (hsub.subset (List.mem_append_right _ (List.mem_append_right _ hb')))
      · subst e
        rcases List.mem_append.mp hb' with hb' | hb'
        · rcases hn b hb' with h | h
          · exact d1 b hb b (List.mem_append_left _ h) rfl
          · exact hN b h (hsub.subset (List.mem_append_left _ hb))
        · exact d1 b hb b (List.mem_append_right _ hb') rfl
    have hjn : ∀ b ∈ B1 ++ (A2' ++ B3), b ∈ B1 ++ (B2 ++ B3) ∨ b ∈ N := fun b hb => by
      rcases List.mem_append.mp hb with hb | hb
      · exact .inl (List.mem_append_left _ hb)
      · rcases List.mem_append.mp hb with hb | hb
        · rcases hn b hb with h | h
          · exact .inl (List.mem_append_right _ (List.mem_append_left _ h))
          · exact .inr h
        · exact .inl (List.mem_append_right _ (List.mem_append_right _ hb))
    refine ⟨haA, if k0.own then a0 :: (B1 ++ (A2' ++ B3)) else B1 ++ (A2' ++ B3), ⟨a0, xs, B1 ++ (A2' ++ B3), ex, at', rfl, ?_, by rw [eg]; exact rj⟩, ?_, fun b hb => ?_⟩
    · rcases c with c | c | c
      · exact .inl c
      · exact .inr (.inl c)
      · rw [c] at hsub
        have : B2 = [] := by
          have := List.append_eq_nil_iff.mp c
          exact (List.append_eq_nil_iff.mp this.2).1
        rw [this] at ha
        exact nomatch ha
    · split
      · rename_i h0
        refine List.nodup_cons.mpr ⟨fun z => ?_, ndj⟩
        have na : a0 ∉ B1 ++ (B2 ++ B3) := by
          rw [eA, if_pos h0] at nd
          exact (List.nodup_cons.mp nd).1
        rcases hjn a0 z with h | h
        · exact na h
        · exact hN a0 h (by rw [eA, if_pos h0]; exact List.mem_cons_self)
      · exact ndj
    · split at hb
      · rename_i h0
        rcases List.mem_cons.mp hb with rfl | hb
        · exact .inl (by rw [eA, if_pos h0]; exact List.mem_cons_self)
        · exact (hjn b hb).imp (fun z => hsub.subset z) id
      · exact (hjn b hb).imp (fun z => hsub.subset z) id
  | _ :: _, .dead, _, _, _, h, _, _, _, _ => h.elim
  | _ :: _, .non, _, _, _, h, _, _, _, _ => h.elim
  | _ :: _, .bl _, _, _, _, h, _, _, _, _ => h.elim
  | _ :: _, .int _, _, _, _, h, _, _, _, _ => h.elim
  | _ :: _, .str _, _, _, _, h, _, _, _, _ => h.elim
end
end MI
namespace MI
open PySem PySem.Spec PyProof.Rows L2
def T.ownNd : T → Bool
  | .nd k _ => k.own
  | _ => false
section
variable {g : Gc} {S S1 S2 : Addr → Prop} {H H1 H2 : Hp} {A A1 A2 : Nat → List Addr} {σ σ2 : L2.St} {Ts Ts1 Ts2 : List T} {eff bo : List Nat} {Ax : List Addr}
/-- a node of a slot's tree is written -/
theorem SR.node {i : Nat} {x0 : V} {p : List Nat} {a : Addr} {n n' : T} {B Bn N : List Addr} {o' : HO} (R : SR g S H σ Ts A) (hx : σ[i]? = some (some x0)) (pl : Pl g S H p (slot Ts i) x0 (A i) (.ref a) n B) (ho : n.ownNd = true) (ho' : n'.ownNd = true)
    (hN : ∀ b ∈ N, ¬ S b ∧ ∀ j, b ∉ A j) (rn : Rp g S (upd H a o') n' (.ref a) (a :: Bn)) (nd : (a :: Bn).Nodup) (hB : ∀ b ∈ Bn, b ∈ B ∨ b ∈ N) :
    ∃ A', SR g S (upd H a o') σ (Ts.set i (setT p (slot Ts i) n')) A' ∧ (∀ j, j ≠ i → A' j = A j) ∧ (∀ b ∈ A' i, b ∈ A i ∨ b ∈ N) ∧ a ∈ A i := by
  cases n with
  | nd k ts =>
    cases n' with
    | nd k' ts' =>
      have hrep := Pl.rep _ _ _ _ _ _ _ pl
      have hm : Mut (H a) := by
        obtain ⟨a', xs, B0, ex, at_, _⟩ := hrep.1
        injection ex with ex
        subst ex
        exact at_.own_mut ho
      obtain ⟨ha, A2, r2, nd2, h2⟩ := Pl.node (o' := o') (N := N) ho ho' hm p _ _ _ _ pl (R.nd i) (R.ns i) (fun b hb => (hN b hb).2 i) fun xs B0 at_ rl eB => by
        obtain ⟨a', xs', B', ex, at', eA, _, rl'⟩ := rn
        injection ex with ex
        subst ex
        have ho' : k'.own = true := ho'
        rw [if_pos ho'] at eA
        injection eA with _ eA
        subst eA
        refine ⟨xs', Bn, at', rl', (List.nodup_cons.mp nd).2, fun b hb => ?_⟩
        rcases hB b hb with h | h
        · rw [eB] at h
          rcases List.mem_cons.mp h with e | h
          · exact absurd (by rw [← e]; exact hb) (List.nodup_cons.mp nd).1
          · exact .inl h
        · exact .inr h
      have il : i < Ts.length := by rw [R.len]; exact (List.getElem?_eq_some_iff.mp hx).1
      have nS : ¬ S a := R.ns i a ha
      refine ⟨fun j => if j = i then A2 else A j, ⟨fun j => ?_, fun j => ?_, fun j l hjl b hb => ?_, fun j b hb => ?_, by rw [List.length_set]; exact R.len, fun b h => ?_⟩, fun j hj => if_neg hj, fun b hb => ?_, ha⟩
      · by_cases hj : j = i
        · subst hj
          rw [if_pos rfl, slot_set_eq il]
          exact .inr ⟨x0, by rw [List.getD_eq_getElem?_getD, hx]; rfl, r2⟩
        · rw [if_neg hj, slot_set_ne hj]
          rcases R.rep j with h | ⟨y, h1, h2⟩
          · exact .inl h
          · exact .inr ⟨y, h1, Rp.keep (M := fun b => b = a) (fun b o eo n => by rw [upd_ne n]; exact eo) (fun b e => by rw [e]; exact hm) (fun b h e => nS (by rw [← e]; exact h)) (fun _ h => h) _ _ _ h2 fun b hb e => R.dj i j (Ne.symm hj) a ha (by rw [← e]; exact hb)⟩
      · split
        · exact nd2
        · exact R.nd j
      · have hoff : ∀ b ∈ A2, ∀ l, l ≠ i → b ∉ A l := fun b hb l hl z => by
          rcases h2 b hb with h | h
          · exact R.dj i l (Ne.symm hl) b h z
          · exact (hN b h).2 l z
        split at hb
        · rename_i hj
          split
          · rename_i hl
            exact absurd (hj.trans hl.symm) hjl
          · rename_i hl
            exact hoff b hb l hl
        · rename_i hj
          split
          · exact fun z => hoff b z j hj hb
          · exact R.dj j l hjl b hb
      · split at hb
        · rcases h2 b hb with h | h
          · exact R.ns i b h
          · exact (hN b h).1
        · exact R.ns j b hb
      · have ne : b ≠ a := fun e => nS (by rw [← e]; exact h)
        rw [upd_ne ne]
        exact R.st b h
      · have hb : b ∈ A2 := by
          have e : (if i = i then A2 else A i) = A2 := if_pos rfl
          rw [← e]; exact hb
        exact h2 b hb
    | _ => cases ho'
  | _ => cases ho
theorem Po.wrote {i : Nat} {a : Addr} {o' : HO} {N : List Addr} (ha : a ∈ A1 i) (p : Po S H A S1 H1 A1) (hN : ∀ b ∈ N, (∃ j, b ∈ A j) ∨ H b = none) (h1 : ∀ j, j ≠ i → A2 j = A1 j) (h2 : ∀ b ∈ A2 i, b ∈ A1 i ∨ b ∈ N) : Po S H A S1 (upd H1 a o') A2 :=
  ⟨fun b o e n => by
    have ne : b ≠ a := fun z => by
      rcases p.anew i a ha with ⟨j, hj⟩ | hn
      · exact n j (by rw [z]; exact hj)
      · rw [z, hn] at e; cases e
    rw [upd_ne ne]; exact p.keep b o e n, p.sub, p.snew, fun j b hb => by
    by_cases hj : j = i
    · subst hj
      rcases h2 b hb with h | h
      · exact p.anew j b h
      · exact hN b h
    · rw [h1 j hj] at hb
      exact p.anew j b hb⟩
theorem Stb.wrote {i : Nat} {a : Addr} {o' : HO} {t : T} (R1 : SR g S1 H1 σ Ts1 A1) (ha : a ∈ A1 i) (s : Stb eff H Ts A H1 Ts1 A1) (h1 : ∀ j, j ≠ i → A2 j = A1 j) : Stb (eff ++ [i]) H Ts A (upd H1 a o') (Ts1.set i t) A2 := fun j hj => by
  have hji : j ≠ i := fun z => hj (by simp [z])
  obtain ⟨x1, x2, x3⟩ := s j fun z => hj (List.mem_append_left _ z)
  refine ⟨(slot_set_ne hji).trans x1, (h1 j hji).trans x2, fun b hb o e => ?_⟩
  have ne : b ≠ a := fun z => R1.dj i j (Ne.symm hji) a ha (by rw [x2, ← z]; exact hb)
  rw [upd_ne ne]
  exact x3 b hb o e
end
/-- a place: slot i, a way from it -/
def TL (g : Gc) (mp : M (List Nat)) (eff : List Nat) (i : Nat) : TE := fun σ H Q => ∃ S Ts A p Ts', SR g S H σ Ts A ∧ mp Ts = some (p, Ts') ∧
  ∀ x H' S' A' x0 u B, SR g S' H' σ Ts' A' → σ[i]? = some (some x0) → Pl g S' H' p (slot Ts' i) x0 (A' i) x u B → Po S H A S' H' A' → Stb eff H Ts A H' Ts' A' → Q x H'
def PLm (g : Gc) (X : Cx) (e : Expr) (mp : M (List Nat)) (eff : List Nat) (i : Nat) : Prop := PE X e (TL g mp eff i)
def mHere (i : Nat) : M (List Nat) := fun Ts => match slot Ts i with
  | .dead => none
  | _ => some ([], Ts)
/-- a list's item, a step further -/
def stepL (n : T) (k : T) : Option Nat := match n, k with
  | .nd (.lst _) ts, .int j => ixN ts.length j
  | _, _ => none
def stepF (c f : Str) (n : T) : Option Nat := match n with
  | .nd (.ins _ c' fs) _ => if c' = c then fs.findIdx? (fun x => x = f) else none
  | _ => none
def mStepL (i : Nat) (mp : M (List Nat)) (fk : M T) : M (List Nat) := bnd mp fun p => bnd fk fun k => fun Ts => match subT p (slot Ts i) with
  | some n => (match stepL n k with
    | some j => some (p ++ [j], Ts)
    | none => none)
  | none => none
def mStepF (i : Nat) (c f : Str) (mp : M (List Nat)) : M (List Nat) := bnd mp fun p => fun Ts => match subT p (slot Ts i) with
  | some n => (match stepF c f n with
    | some j => some (p ++ [j], Ts)
    | none => none)
  | none => none
section
variable {g : Gc} {X : Cx} {e o b : Expr} {es : List Expr} {mp : M (List Nat)} {fa fb fk : M T} {fs : M (List T)} {e1 e2 e3 b1 b2 : List Nat} {i : Nat} {pos p2 : Pos}
theorem pl_name (h : PE X e (tVar i)) : PLm g X e (mHere i) [] i := PE.imp h fun σ H Q ⟨S, Ts, A, p, Ts', R, q, k⟩ => by
  have key : slot Ts i ≠ .dead ∧ some (([] : List Nat), Ts) = some (p, Ts') := by
    unfold mHere at q
    cases e : slot Ts i <;> rw [e] at q <;> first | (cases q; done) | exact ⟨(fun z => nomatch z), q⟩
  obtain ⟨n, q⟩ := key
  injection q with q
  injection q with h1 h2
  subst h1; subst h2
  obtain ⟨x, hx, rx⟩ := R.at rfl n
  exact ⟨x, hx, k x H S A x _ _ R hx ⟨rfl, rfl, rfl, rx⟩ Po.refl Stb.refl⟩
theorem pl_held {S1 S2 : Addr → Prop} {H1 H2 : Hp} {σ : L2.St} {Ts1 Ts2 : List T} {A1 A2 : Nat → List Addr} {p : List Nat} {x0 x : V} {u : T} {B : List Addr} (R1 : SR g S1 H1 σ Ts1 A1) (pl : Pl g S1 H1 p (slot Ts1 i) x0 (A1 i) x u B) (p2 : Po S1 H1 A1 S2 H2 A2) (s2 : Stb e2 H1 Ts1 A1 H2 Ts2 A2) (d : i ∉ e2) : Pl g S2 H2 p (slot Ts2 i) x0 (A2 i) x u B := by
  obtain ⟨s1, s3, s4⟩ := s2 i d
  rw [s1, s3]
  refine Pl.keep (M := fun a => ∃ j, j ∈ e2 ∧ a ∈ A1 j) (fun a ob eo n => ?_) (fun a ⟨j, _, hj⟩ => R1.cells j a hj) (fun a hs ⟨j, _, hj⟩ => R1.ns j a hj hs) p2.sub _ _ _ _ _ _ _ pl fun a ha ⟨j, hj, hA⟩ => ?_
  · by_cases h : ∃ j, a ∈ A1 j
    · obtain ⟨j, hj⟩ := h
      by_cases he : j ∈ e2
      · exact absurd ⟨j, he, hj⟩ n
      · exact (s2 j he).2.2 a hj ob eo
    · exact p2.keep a ob eo fun j hj => h ⟨j, hj⟩
  · exact R1.dj i j (fun z => d (by rw [z]; exact hj)) a ha hA
theorem pl_sub (hK : g.K = X.K) (hb : PLm g X o mp e1 i) (hk : PEm g X b fk e2 b2) (d : i ∉ e2 := by decide) (hs : PlainIx b := by exact fun _ _ => rfl) : PLm g X (.Subscript o b pos) (mStepL i mp fk) (e1 ++ e2) i :=
  PE.imp (pe_ix ix_list hb hk hs) fun σ H Q ⟨S, Ts, A, p, Ts', R, q, k⟩ => by
    obtain ⟨p0, Ts1, q1, q2⟩ := bnd_some q
    obtain ⟨tk, Ts2, q3, q4⟩ := bnd_some q2
    cases hn : subT p0 (slot Ts2 i) with
    | none => rw [hn] at q4; cases q4
    | some n =>
      rw [hn] at q4
      cases hj : stepL n tk with
      | none =>
        have q4 : (match stepL n tk with | some j => some (p0 ++ [j], Ts2) | none => none) = some (p, Ts') := q4
        rw [hj] at q4; cases q4
      | some j =>
        have q4 : (match stepL n tk with | some j => some (p0 ++ [j], Ts2) | none => none) = some (p, Ts') := q4
        rw [hj] at q4
        injection q4 with q4
        injection q4 with h1 h2
        subst h1; subst h2
        refine ⟨S, Ts, A, p0, Ts1, R, q1, fun x H1 S1 A1 x0 u B R1 hx pl p1 s1 => ⟨S1, Ts1, A1, tk, Ts2, R1, q3, fun y H2 S2 A2 Ay R2 ry oy p2 s2 => ?_⟩⟩
        have pl2 := pl_held R1 pl p2 s2 d
        have hu : u = n := by
          have := (Pl.rep _ _ _ _ _ _ _ pl2).2.2
          rw [hn] at this
          injection this with this
          exact this.symm
        subst hu
        unfold stepL at hj
        split at hj
        · rename_i oo ts kk
          have hjl := (ixN_seq hj).2.1
          obtain ⟨a, xs, z, B', ex, at_, hl, hz, pl3⟩ := Pl.snoc p0 _ _ _ _ _ pl2 (show ts[j]? = some ts[j] by simp [hjl])
          refine ⟨a, xs, kk, z, ex, ry.1, hK ▸ at_.sqL, ?_, k z H2 S2 A2 x0 _ B' R2 hx pl3 (p1.trans R p2) (s1.trans s2)⟩
          unfold atI
          rw [hl, hj]
          exact hz
        · cases hj
theorem lookup_findIdx {xs : List V} : ∀ {fs : List Str} {j : Nat} {f : Str} {z : V}, fs.findIdx? (fun x => x = f) = some j → fs.length = xs.length → xs[j]? = some z → (fs.zip xs).lookup f = some z := by
  induction xs with
  | nil =>
    intro fs j f z h hl hz
    simp at hz
  | cons x xs ih =>
    intro fs j f z h hl hz
    cases fs with
    | nil => cases hl
    | cons f0 fs =>
      rw [List.findIdx?_cons] at h
      by_cases e : f0 = f
      · rw [if_pos (by simpa using e)] at h
        injection h with h
        subst h
        have hz : x = z := by simpa using hz
        subst hz
        rw [List.zip_cons_cons, List.lookup_cons]
        simp [e]
      · rw [if_neg (by simpa using e)] at h
        cases q : fs.findIdx? (fun x => x = f) with
        | none => rw [q] at h; cases h
        | some j' =>
          rw [q] at h
          have h : j' + 1 = j := by simpa using h
          subst h
          rw [List.zip_cons_cons, List.lookup_cons]
          have e2 : (f == f0) = false := by simpa using fun z => e z.symm
          rw [e2]
          exact ih q (by simpa using hl) (by simpa using hz)
theorem pl_fld {c f : Str} (hK : g.K = X.K) (hc : Cls X.K (g.cl c)) (hn : NoAttr X.K (g.cl c) f) (hb : PLm g X o mp e1 i) (hbase : attributeBase o f X.env (eval o X.env) = eval o X.env := by rfl) : PLm g X (.Attribute o f pos) (mStepF i c f mp) e1 i :=
  PE.imp (pe_fld hb hbase) fun σ H Q ⟨S, Ts, A, p, Ts', R, q, k⟩ => by
    obtain ⟨p0, Ts1, q1, q2⟩ := bnd_some q
    cases hnd : subT p0 (slot Ts1 i) with
    | none => rw [hnd] at q2; cases q2
    | some n =>
      rw [hnd] at q2
      have q2 : (match stepF c f n with | some j => some (p0 ++ [j], Ts1) | none => none) = some (p, Ts') := q2
      cases hj : stepF c f n with
      | none => rw [hj] at q2; cases q2
      | some j =>
        rw [hj] at q2
        injection q2 with q2
        injection q2 with h1 h2
        subst h1; subst h2
        refine ⟨S, Ts, A, p0, Ts1, R, q1, fun x H1 S1 A1 x0 u B R1 hx pl p1 s1 => ?_⟩
        have hu : u = n := by
          have := (Pl.rep _ _ _ _ _ _ _ pl).2.2
          rw [hnd] at this
          injection this with this
          exact this.symm
        subst hu
        unfold stepF at hj
        split at hj
        · rename_i oo c' fs ts
          split at hj
          · rename_i ec
            subst ec
            obtain ⟨ax, xs0, B0, ex0, at0, _, _, rl0⟩ := (Pl.rep _ _ _ _ _ _ _ pl).1
            have hjl : j < ts.length := by
              rw [RpL.length _ _ _ rl0, ← at0.2.1]
              exact (List.findIdx?_eq_some_iff_findIdx_eq.mp hj).1
            obtain ⟨a, xs, z, B', ex, at_, hl, hz, pl3⟩ := Pl.snoc p0 _ _ _ _ _ pl (show ts[j]? = some ts[j] by simp [hjl])
            obtain ⟨⟨dx, ea⟩, hfl, _⟩ := at_
            exact ⟨a, _, dx, _, z, ex, ea, hc, hn, lookup_findIdx hj hfl hz, k z H1 S1 A1 x0 _ B' R1 hx pl3 p1 s1⟩
          · cases hj
        · cases hj
/-! ### a built-in's method that changes its object -/
def MutT (g : Gc) (r : V → List V → Hp → VK → Prop) (f : T → List T → Option (T × T)) : Prop := ∀ S H a n B0 args xs Ag res n' Q, Rp g S H n (.ref a) (a :: B0) → n.ownNd = true → RpL g S H args xs Ag → (a :: (B0 ++ Ag)).Nodup → ¬ S a → f n args = some (res, n') →
  (∀ z o' Bn, Rp g S (upd H a o') n' (.ref a) (a :: Bn) → n'.ownNd = true → Rp g S (upd H a o') res z [] → (a :: Bn).Nodup → (∀ b ∈ Bn, b ∈ B0 ∨ b ∈ Ag) → Q z (upd H a o')) → r (.ref a) xs H Q
def chk (i : Nat) (p : List Nat) (ck : T → Bool) : M Unit := fun Ts => match subT p (slot Ts i) with
  | some n => if ck n then some ((), Ts) else none
  | none => none
def mMut (i : Nat) (mp : M (List Nat)) (ck : T → Bool) (fs : M (List T)) (f : T → List T → Option (T × T)) : M T := bnd mp fun p => bnd (chk i p ck) fun _ => bnd fs fun ts => fun Ts => match subT p (slot Ts i) with
  | some n => if n.ownNd then (match f n ts with
    | some (res, n') => some (res, Ts.set i (setT p (slot Ts i) n'))
    | none => none) else none
  | none => none
theorem chk_some {p : List Nat} {ck : T → Bool} {Ts Ts' : List T} (h : chk i p ck Ts = some ((), Ts')) : Ts' = Ts ∧ ∀ n, subT p (slot Ts i) = some n → ck n = true := by
  unfold chk at h
  cases hn : subT p (slot Ts i) with
  | none => rw [hn] at h; cases h
  | some n =>
    rw [hn] at h
    have h : (if ck n then some ((), Ts) else none) = some ((), Ts') := h
    split at h
    · rename_i hc
      injection h with h
      injection h with _ h
      exact ⟨h.symm, fun m e => by injection e with e; rw [← e]; exact hc⟩
    · cases h
theorem mut_fin {S S1 : Addr → Prop} {H H1 : Hp} {σ : L2.St} {Ts Ts1 : List T} {A A1 : Nat → List Addr} {p : List Nat} {x0 x : V} {n res n' : T} {B : List Addr} {args : List T} {xs : List V} {Ag : List Addr} {r : V → List V → Hp → VK → Prop} {f : T → List T → Option (T × T)} {Q : VK}
    (hf : MutT g r f) (R : SR g S H σ Ts A) (R1 : SR g S1 H1 σ Ts1 A1) (hx : σ[i]? = some (some x0)) (pl : Pl g S1 H1 p (slot Ts1 i) x0 (A1 i) x n B) (ra : RpL g S1 H1 args xs Ag) (oa : Ow [] H A S1 A1 Ag) (p1 : Po S H A S1 H1 A1) (s1 : Stb e1 H Ts A H1 Ts1 A1) (ho : n.ownNd = true) (ef : f n args = some (res, n'))
    (k : ∀ x H' S' A' Ax, SR g S' H' σ (Ts1.set i (setT p (slot Ts1 i) n')) A' → Rp g S' H' res x Ax → Ow [] H A S' A' Ax → Po S H A S' H' A' → Stb (e1 ++ [i]) H Ts A H' (Ts1.set i (setT p (slot Ts1 i) n')) A' → Q x H') : r x xs H1 Q := by
  obtain ⟨rn, sub, _⟩ := Pl.rep _ _ _ _ _ _ _ pl
  cases n with
  | nd kk ts =>
    obtain ⟨a, xs0, B0, ex, at_, eA, c, rl⟩ := id rn
    have ho2 : kk.own = true := ho
    rw [if_pos ho2] at eA
    subst ex eA
    have ndB : (a :: B0).Nodup := (R1.nd i).sublist sub
    have inA : ∀ b ∈ a :: B0, b ∈ A1 i := fun b hb => sub.subset hb
    have ndall : (a :: (B0 ++ Ag)).Nodup := by
      have : ((a :: B0) ++ Ag).Nodup := List.nodup_append.mpr ⟨ndB, oa.nd rfl, fun b hb b' hb' e => by
        subst e
        exact oa.dj i (fun z => nomatch z) b hb' (inA b hb)⟩
      exact this
    refine hf S1 H1 a _ B0 args xs Ag res n' Q rn ho ra ndall (R1.ns i a (inA a List.mem_cons_self)) ef fun z o' Bn rn' hn' rz ndn hz => ?_
    obtain ⟨A', R', h1, h2, ha⟩ := R1.node (N := Ag) (o' := o') hx pl ho hn' (fun b hb => ⟨oa.ns b hb, fun j => oa.dj j (fun z => nomatch z) b hb⟩) rn' ndn fun b hb => by
      rcases hz b hb with h | h
      · exact .inl (List.mem_cons_of_mem _ h)
      · exact .inr h
    exact k z _ S1 A' [] R' rz Ow.nil (p1.wrote ha oa.new h1 h2) (s1.wrote R1 ha h1)
  | _ => cases ho
theorem mMut_some {ck : T → Bool} {f : T → List T → Option (T × T)} {Ts Ts' : List T} {res : T} (h : mMut i mp ck fs f Ts = some (res, Ts')) : ∃ p Ts1 args Ts2 n n', mp Ts = some (p, Ts1) ∧ (∀ n, subT p (slot Ts1 i) = some n → ck n = true) ∧ fs Ts1 = some (args, Ts2) ∧ subT p (slot Ts2 i) = some n ∧ n.ownNd = true ∧ f n args = some (res, n') ∧ Ts' = Ts2.set i (setT p (slot Ts2 i) n') := by
  obtain ⟨p, Ts1, q1, q2⟩ := bnd_some h
  obtain ⟨_, Ts1', qc, q2'⟩ := bnd_some q2
  obtain ⟨ec, hck⟩ := chk_some qc
  subst ec
  obtain ⟨args, Ts2, q3, q4⟩ := bnd_some q2'
  cases hn : subT p (slot Ts2 i) with
  | none => rw [hn] at q4; cases q4
  | some n =>
    rw [hn] at q4
    have q4 : (if n.ownNd then (match f n args with | some (res, n') => some (res, Ts2.set i (setT p (slot Ts2 i) n')) | none => none) else none) = some (res, Ts') := q4
    split at q4
    · rename_i ho
      cases hf : f n args with
      | none => rw [hf] at q4; cases q4
      | some pr =>
        obtain ⟨r0, n'⟩ := pr
        rw [hf] at q4
        have q4 : some (r0, Ts2.set i (setT p (slot Ts2 i) n')) = some (res, Ts') := q4
        injection q4 with q4
        injection q4 with h1 h2
        subst h1; subst h2
        exact ⟨p, Ts1', args, Ts2, n, n', q1, hck, q3, hn, ho, hf, rfl⟩
    · cases q4
theorem mut_r {r : V → List V → Hp → VK → Prop} {f : T → List T → Option (T × T)} {ck : T → Bool} {ty : String} (hf : MutT g r f) (d : i ∉ e2) (hty : ∀ S H n x B, Rp g S H n x B → ck n = true → tyV X.K ty x H) (σ : L2.St) (H : Hp) (Q : VK) (h : TM g (mMut i mp ck fs f) ((e1 ++ e2) ++ [i]) [] σ H Q) :
    tBM X.K ty r (TL g mp e1 i) (TMs g fs e2 []) σ H Q := by
  obtain ⟨S, Ts, A, res, Ts', R, q, k⟩ := h
  obtain ⟨p, Ts1, args, Ts2, n, n', q1, hck, q3, hn, ho, ef, eT⟩ := mMut_some q
  subst eT
  refine ⟨S, Ts, A, p, Ts1, R, q1, fun x H1 S1 A1 x0 u B R1 hx pl p1 s1 => ⟨?_, S1, Ts1, A1, args, Ts2, R1, q3, fun xs H2 S2 A2 Ag R2 ra oa p2 s2 => ?_⟩⟩
  · obtain ⟨r1, _, r3⟩ := Pl.rep _ _ _ _ _ _ _ pl
    exact hty S1 H1 u x B r1 (hck u r3)
  · have pl2 := pl_held R1 pl p2 s2 d
    have hu : u = n := by
      have := (Pl.rep _ _ _ _ _ _ _ pl2).2.2
      rw [hn] at this
      injection this with this
      exact this.symm
    subst hu
    exact mut_fin (e1 := e1 ++ e2) hf R R2 hx pl2 ra (oa.rebase p1) (p1.trans R p2) (s1.trans s2) ho ef k
theorem mut_r0 {r : V → List V → Hp → VK → Prop} {f : T → List T → Option (T × T)} {ck : T → Bool} {ty : String} (hf : MutT g r f) (hty : ∀ S H n x B, Rp g S H n x B → ck n = true → tyV X.K ty x H) (σ : L2.St) (H : Hp) (Q : VK) (h : TM g (mMut i mp ck mNil f) (e1 ++ [i]) [] σ H Q) :
    tBM0 X.K ty r (TL g mp e1 i) σ H Q := by
  obtain ⟨S, Ts, A, res, Ts', R, q, k⟩ := h
  obtain ⟨p, Ts1, args, Ts2, n, n', q1, hck, q3, hn, ho, ef, eT⟩ := mMut_some q
  subst eT
  have q3 : some (([] : List T), Ts1) = some (args, Ts2) := q3
  injection q3 with q3
  injection q3 with h1 h2
  subst h1; subst h2
  refine ⟨S, Ts, A, p, Ts1, R, q1, fun x H1 S1 A1 x0 u B R1 hx pl p1 s1 => ?_⟩
  obtain ⟨r1, _, r3⟩ := Pl.rep _ _ _ _ _ _ _ pl
  refine ⟨hty S1 H1 u x B r1 (hck u r3), ?_⟩
  have hu : u = n := by
    rw [hn] at r3
    injection r3 with r3
    exact r3.symm
  subst hu
  exact mut_fin (e1 := e1) (args := []) (Ag := []) hf R R1 hx pl ⟨rfl, rfl⟩ Ow.nil p1 s1 ho ef k
def isLst : T → Bool
  | .nd (.lst _) _ => true
  | _ => false
theorem isLst_ty (hK : g.K = X.K) (S : Addr → Prop) (H : Hp) (n : T) (x : V) (B : List Addr) (r : Rp g S H n x B) (h : isLst n = true) : tyV X.K "list" x H := by
  unfold isLst at h
  split at h
  · obtain ⟨a, xs, B0, ex, at_, _⟩ := r
    subst ex
    exact .inl ⟨rfl, xs, hK ▸ at_.sqL⟩
  · cases h
/-- xs.m(e, ..), xs a list -/
theorem tm_mutL {name : Str} {id : String} {apos cpos : Pos} {r : V → List V → Hp → VK → Prop} {f : T → List T → Option (T × T)} (hK : g.K = X.K) (slot : Slot "list" name id) (hty : typeOf (.builtin id) = pure (.type "method_descriptor")) (hm : MtR X id r) (hf : MutT g r f) (ho : PLm g X o mp e1 i) (ha : PAm g X (e :: es) fs e2 [])
    (d : i ∉ e2 := by decide) (hbase : attributeBase o name X.env (eval o X.env) = eval o X.env := by rfl)
    (hfew : ((backTo cpos (starEach (e :: es) X.env)).all (fun x => !x.1) && (backToKw cpos (keywordEach [] X.env)).all (fun x => x.1.isSome)
      && decide ((e :: es).length + ([] : List Keyword).length + (if ([] : List Keyword).isEmpty then 0 else 1) < 30)) = true := by rfl)
    (hline : (apos.endLine == cpos.line) = true := by rfl) (hs : starEach (e :: es) X.env = (false, eval e X.env) :: starEach es X.env := by rfl) (hplain : (backTo cpos (starEach es X.env)).any (·.1) = false := by rfl) :
    PEm g X (.Call (.Attribute o name apos) (e :: es) [] cpos) (mMut i mp isLst fs f) ((e1 ++ e2) ++ [i]) [] :=
  PE.imp (pe_bm PySem.F.plainAttrs_list slot hty hm ho ha hbase hfew hline hs hplain) (mut_r hf d (isLst_ty hK))
theorem tm_mutL0 {name : Str} {id : String} {apos cpos : Pos} {r : V → List V → Hp → VK → Prop} {f : T → List T → Option (T × T)} (hK : g.K = X.K) (slot : Slot "list" name id) (hty : typeOf (.builtin id) = pure (.type "method_descriptor")) (hm : MtR X id r) (hf : MutT g r f) (ho : PLm g X o mp e1 i)
    (hbase : attributeBase o name X.env (eval o X.env) = eval o X.env := by rfl) (hline : (apos.endLine == cpos.line) = true := by rfl) :
    PEm g X (.Call (.Attribute o name apos) [] [] cpos) (mMut i mp isLst mNil f) (e1 ++ [i]) [] :=
  PE.imp (pe_bm0 PySem.F.plainAttrs_list slot hty hm ho hbase hline) (mut_r0 hf (isLst_ty hK))
end
end MI
namespace MI
open PySem PySem.Spec PyProof.Rows L2
theorem list_extend_tupG (l : Addr) (items : Array Value) (n : Nat) (b : Addr) (items2 : Array Value) (n2 : Nat) (dct : Option Addr) (sl : Array (Option Value)) (hs0 : ¬(!items.isEmpty && Builtin.List.listTooLong (items.size + items2.size)) = true) (hs1 : items.size ≤ sizeLine) (hs2 : items.size + items2.size ≤ sizeLine + 1) :
    Meets (Builtin.«list.extend» ⟨[.ref l, .ref b], []⟩) (fun _ R s => s.heap.get? l = some { cls := .type "list", dict := none, data := .seq items n, slots := #[] } ∧ s.heap.get? b = some { cls := .type "tuple", dict := dct, data := .seq items2 n2, slots := sl } ∧ R (.ok (.ret Value.none)) { s with heap := s.heap.update l (Obj.mapSeq fun x => x ++ items2), toks := s.toks }) :=
  .of_wp fun prog w A R s h => by
    obtain ⟨hp, g, d, tk, os⟩ := s
    obtain ⟨hl, hb, h⟩ := h
    have f1 := PySem.AutoSeq1.idx_int
    have f2 := PySem.AutoSeq1.sub_tuple_tuple
    have f3 := PySem.AutoSeq1.sub_list_list
    have f4 := PySem.AutoSeq1.sub_tuple_list
    have f5 := PySem.AutoSeq1.sub_list_tuple
    have hz' : (items ++ items2).size ≤ sizeLine + 1 := by rw [Array.size_append]; exact hs2
    wp_walk using (wpAny_updateSeq hl rfl (hz := hs1) (_hz' := hz')), PySem.AutoSeq1.wpAny_loadPart' hl, PySem.AutoSeq1.wpAny_loadPart' hb
    exact ⟨_, rfl, h⟩
def rExtT (K : PySem.W.Frag) : V → List V → Hp → VK → Prop := fun x vs H Q => ∃ l b xs zs, x = .ref l ∧ vs = [.ref b] ∧ H l = some (.lst xs) ∧ SqT K H b zs ∧ xs.length + zs.length ≤ sizeLine ∧ Q .non (upd H l (.lst (xs ++ zs)))
section
variable {X : Cx}
theorem mt_extT : MtR X "list.extend" (rExtT X.K) := by
  intro pins s σ H x vs v us Q I rx rv h
  obtain ⟨l, b, xs, zs, rfl, rfl, hH, hB, hz, q⟩ := h
  cases rx
  obtain ⟨u, rfl, ru⟩ := rv.one
  cases ru
  obtain ⟨z, its, n, r, hl, e⟩ := I.lstM hH
  obtain ⟨its2, r2, ⟨o2, e2, c2, n2, d2⟩, hz2⟩ := I.tuple hB
  have hl2 := r2.length
  obtain ⟨cc, dct, dd, sl⟩ := o2
  have c2 : cc = .type "tuple" := c2
  have d2 : dd = .seq its2.toArray n2 := d2
  subst c2 d2
  have hsz : its.toArray.size + its2.toArray.size ≤ sizeLine := by rw [List.size_toArray, List.size_toArray]; omega
  have hlong : ¬ (!its.toArray.isEmpty && Builtin.List.listTooLong (its.toArray.size + its2.toArray.size)) = true := by
    rw [notLongL hsz, Bool.and_false]
    exact Bool.false_ne_true
  refine call_meets F.slot_list_extend ⟨_, e, rfl⟩ F.entry_list_extend (F.args_list_extend_2 _ _) (list_extend_tupG l its.toArray n b its2.toArray n2 dct sl hlong (by rw [List.size_toArray]; omega) (by omega)) ⟨e, e2, ?_⟩
  refine ⟨.non, _, I.lset (its' := its ++ its2) hH e (by simp) (r.append r2) ?_, rfl, q⟩
  rw [List.length_append]
  omega
end
/-! ### lists changed by their methods -/
def fAppend : T → List T → Option (T × T)
  | .nd (.lst true) ts, [v] => if ts.length < sizeLine then some (.non, .nd (.lst true) (ts ++ [v])) else none
  | _, _ => none
def fExtend : T → List T → Option (T × T)
  | .nd (.lst true) ts, [.nd (.lst true) us] => if ts.length + us.length ≤ sizeLine then some (.non, .nd (.lst true) (ts ++ us)) else none
  | .nd (.lst true) ts, [.nd .tup us] => if ts.length + us.length ≤ sizeLine then some (.non, .nd (.lst true) (ts ++ us)) else none
  | .nd (.lst true) ts, [.nd (.lst false) us] => if ts.length + us.length ≤ sizeLine then some (.non, .nd (.lst true) (ts ++ us)) else none
  | _, _ => none
def fPop : T → List T → Option (T × T)
  | .nd (.lst true) ts, [] => match ts[ts.length - 1]? with
    | some t => if t.imm then some (t, .nd (.lst true) ts.dropLast) else none
    | none => none
  | _, _ => none
def fPopAt : T → List T → Option (T × T)
  | .nd (.lst true) ts, [.int i] => if -(2 ^ 63) ≤ i ∧ i < 2 ^ 63 then (match ixN ts.length i with
    | some j => (match ts[j]? with
      | some t => if t.imm then some (t, .nd (.lst true) (ts.eraseIdx j)) else none
      | none => none)
    | none => none) else none
  | _, _ => none
def fInsert : T → List T → Option (T × T)
  | .nd (.lst true) ts, [.int i, v] => if ts.length < sizeLine ∧ 0 ≤ i ∧ i < 2 ^ 63 then some (.non, .nd (.lst true) (ts.take i.toNat ++ [v] ++ ts.drop i.toNat)) else none
  | _, _ => none
section
variable {g : Gc} {S : Addr → Prop} {H : Hp}
theorem own_lst {a : Addr} {ts : List T} {B0 : List Addr} (r : Rp g S H (.nd (.lst true) ts) (.ref a) (a :: B0)) : ∃ xs, H a = some (.lst xs) ∧ RpL g S H ts xs B0 := by
  obtain ⟨a', xs, B, e, at_, eA, c, rl⟩ := r
  injection e with e
  subst e
  have eA : a :: B0 = a :: B := eA
  injection eA with _ eA
  subst eA
  exact ⟨xs, at_, rl⟩
/-- the same rows behind a write at a -/
theorem RpL.off {a : Addr} {o' : HO} {ts : List T} {xs ys : List V} {B : List Addr} (r : RpL g S H ts xs B) (ha : H a = some (.lst ys)) (hs : ¬ S a) (hn : a ∉ B) : RpL g S (upd H a o') ts xs B := RpL.grown r ha trivial hs hn
theorem Rp.off {a : Addr} {o' : HO} {t : T} {x : V} {ys : List V} {B : List Addr} (r : Rp g S H t x B) (ha : H a = some (.lst ys)) (hs : ¬ S a) (hn : a ∉ B) : Rp g S (upd H a o') t x B := by
  obtain ⟨y, zs, A1, A2, e1, e2, r1, r2⟩ := RpL.grown (o := o') (RpL.one r) ha trivial hs hn
  injection e1 with e1 e3
  subst e1
  have : A2 = [] := r2.2
  subst this
  rw [List.append_nil] at e2
  subst e2
  exact r1
theorem new_lst {a : Addr} {ts : List T} {xs : List V} {B : List Addr} (r : RpL g S (upd H a (.lst xs)) ts xs B) : Rp g S (upd H a (.lst xs)) (.nd (.lst true) ts) (.ref a) (a :: B) := ⟨a, xs, B, rfl, upd_same, rfl, .inl rfl, r⟩
theorem mut_append : MutT g rAppend fAppend := by
  intro S H a n B0 args xs Ag res n' Q rn ho ra nd ns ef k
  unfold fAppend at ef
  split at ef
  · split at ef
    · rename_i ts v hz
      injection ef with ef
      injection ef with h1 h2
      subst h1; subst h2
      obtain ⟨ys, hH, rl⟩ := own_lst rn
      obtain ⟨y, zs, A1, A2, e1, e2, r1, r2⟩ := ra
      obtain ⟨rfl, rfl⟩ := r2
      subst e1
      rw [List.append_nil] at e2
      subst e2
      obtain ⟨n1, n2⟩ := List.nodup_cons.mp nd
      have nB : a ∉ B0 := fun z => n1 (List.mem_append_left _ z)
      have nG : a ∉ Ag := fun z => n1 (List.mem_append_right _ z)
      refine ⟨a, ys, y, rfl, rfl, hH, by rw [← RpL.length _ _ _ rl]; exact hz, k .non _ (B0 ++ Ag) ?_ rfl ⟨rfl, rfl⟩ nd fun b hb => List.mem_append.mp hb⟩
      exact new_lst (RpL.append _ _ _ _ _ _ (rl.off hH ns nB) (RpL.one (r1.off hH ns nG)))
    · cases ef
  · cases ef
theorem ne_cell {b a : Addr} {o u : HO} (h : H b = some o) (h2 : H a = some u) (d : o ≠ u) : b ≠ a := ne_of h h2 d
theorem mut_extend : MutT g (fun x vs H Q => rExtend x vs H Q ∨ rExtT g.K x vs H Q) fExtend := by
  intro S H a n B0 args xs Ag res n' Q rn ho ra nd ns ef k
  obtain ⟨n1, n2⟩ := List.nodup_cons.mp nd
  have nB : a ∉ B0 := fun z => n1 (List.mem_append_left _ z)
  have nG : a ∉ Ag := fun z => n1 (List.mem_append_right _ z)
  obtain ⟨m1, m2, m3⟩ := List.nodup_append.mp n2
  unfold fExtend at ef
  split at ef
  · split at ef
    · rename_i ts us hz
      injection ef with ef
      injection ef with h1 h2
      subst h1; subst h2
      obtain ⟨ys, hH, rl⟩ := own_lst rn
      obtain ⟨y, zs, A1, A2, e1, e2, r1, r2⟩ := ra
      obtain ⟨rfl, rfl⟩ := r2
      subst e1
      rw [List.append_nil] at e2
      subst e2
      obtain ⟨b, ws, B, e, at_, eA, c, ru⟩ := r1
      subst e
      have at_ : H b = some (.lst ws) := at_
      have eA : Ag = b :: B := eA
      subst eA
      have nB2 : a ∉ B := fun z => nG (List.mem_cons_of_mem _ z)
      refine .inl ⟨a, b, ys, ws, rfl, rfl, hH, at_, by rw [← RpL.length _ _ _ rl, ← RpL.length _ _ _ ru]; exact hz, k .non _ (B0 ++ B) (new_lst (RpL.append _ _ _ _ _ _ (rl.off hH ns nB) (ru.off hH ns nB2))) rfl ⟨rfl, rfl⟩ ?_ fun b hb => ?_⟩
      · exact nd.sublist (List.Sublist.cons_cons _ (List.Sublist.append (List.Sublist.refl _) (List.sublist_cons_self _ _)))
      · rcases List.mem_append.mp hb with h | h
        · exact .inl h
        · exact .inr (List.mem_cons_of_mem _ h)
    · cases ef
  · split at ef
    · rename_i ts us hz
      injection ef with ef
      injection ef with h1 h2
      subst h1; subst h2
      obtain ⟨ys, hH, rl⟩ := own_lst rn
      obtain ⟨y, zs, A1, A2, e1, e2, r1, r2⟩ := ra
      obtain ⟨rfl, rfl⟩ := r2
      subst e1
      rw [List.append_nil] at e2
      subst e2
      obtain ⟨b, ws, B, e, at_, eA, c, ru⟩ := r1
      subst e
      have eA : Ag = B := eA
      subst eA
      exact .inr ⟨a, b, ys, ws, rfl, rfl, hH, At.sqT at_, by rw [← RpL.length _ _ _ rl, ← RpL.length _ _ _ ru]; exact hz, k .non _ (B0 ++ Ag) (new_lst (RpL.append _ _ _ _ _ _ (rl.off hH ns nB) (ru.off hH ns nG))) rfl ⟨rfl, rfl⟩ nd fun b hb => List.mem_append.mp hb⟩
    · cases ef
  · split at ef
    · rename_i ts us hz
      injection ef with ef
      injection ef with h1 h2
      subst h1; subst h2
      obtain ⟨ys, hH, rl⟩ := own_lst rn
      obtain ⟨y, zs, A1, A2, e1, e2, r1, r2⟩ := ra
      obtain ⟨rfl, rfl⟩ := r2
      subst e1
      rw [List.append_nil] at e2
      subst e2
      obtain ⟨b, ws, B, e, at_, eA, c, ru⟩ := r1
      subst e
      have at_ : H b = some (.lst ws) ∧ S b := at_
      have eA : Ag = B := eA
      subst eA
      exact .inl ⟨a, b, ys, ws, rfl, rfl, hH, at_.1, by rw [← RpL.length _ _ _ rl, ← RpL.length _ _ _ ru]; exact hz, k .non _ (B0 ++ Ag) (new_lst (RpL.append _ _ _ _ _ _ (rl.off hH ns nB) (ru.off hH ns nG))) rfl ⟨rfl, rfl⟩ nd fun b hb => List.mem_append.mp hb⟩
    · cases ef
  · cases ef
theorem RpL.take : ∀ (j : Nat) (ts : List T) (xs : List V) (A : List Addr), RpL g S H ts xs A → ∃ B, RpL g S H (ts.take j) (xs.take j) B ∧ B.Sublist A
  | 0, _, _, _, _ => ⟨[], ⟨rfl, rfl⟩, List.nil_sublist _⟩
  | _ + 1, [], _, _, h => ⟨[], ⟨by rw [h.1]; rfl, rfl⟩, List.nil_sublist _⟩
  | j + 1, t :: ts, xs, A, h => by
    obtain ⟨y, ys, A1, A2, e1, e2, r1, r2⟩ := h
    subst e1; subst e2
    obtain ⟨B, h1, h2⟩ := RpL.take j ts ys A2 r2
    exact ⟨A1 ++ B, ⟨y, ys.take j, A1, B, rfl, rfl, r1, h1⟩, List.Sublist.append (List.Sublist.refl _) h2⟩
theorem RpL.erase : ∀ (j : Nat) (ts : List T) (xs : List V) (A : List Addr), RpL g S H ts xs A → ∃ B, RpL g S H (ts.eraseIdx j) (xs.eraseIdx j) B ∧ B.Sublist A
  | _, [], _, _, h => ⟨[], ⟨by rw [h.1]; rfl, rfl⟩, List.nil_sublist _⟩
  | 0, t :: ts, xs, A, h => by
    obtain ⟨y, ys, A1, A2, e1, e2, r1, r2⟩ := h
    subst e1; subst e2
    exact ⟨A2, r2, List.sublist_append_right _ _⟩
  | j + 1, t :: ts, xs, A, h => by
    obtain ⟨y, ys, A1, A2, e1, e2, r1, r2⟩ := h
    subst e1; subst e2
    obtain ⟨B, h1, h2⟩ := RpL.erase j ts ys A2 r2
    exact ⟨A1 ++ B, ⟨y, ys.eraseIdx j, A1, B, rfl, rfl, r1, h1⟩, List.Sublist.append (List.Sublist.refl _) h2⟩
theorem Rp.imm_one {t : T} {x : V} {A : List Addr} (r : Rp g S H t x A) (hi : t.imm = true) : Rp g S H t x [] := by
  have e := Rp.imm_nil _ _ _ r hi
  rw [← e]; exact r
theorem mut_popAt : MutT g rPopAt fPopAt := by
  intro S H a n B0 args xs Ag res n' Q rn ho ra nd ns ef k
  unfold fPopAt at ef
  split at ef
  · rename_i ts i
    split at ef
    · rename_i hi
      cases hj : ixN ts.length i with
      | none => rw [hj] at ef; cases ef
      | some j =>
        rw [hj] at ef
        have ef : (match ts[j]? with | some t => if t.imm then some (t, T.nd (.lst true) (ts.eraseIdx j)) else none | none => none) = some (res, n') := ef
        cases ht : ts[j]? with
        | none => rw [ht] at ef; cases ef
        | some t =>
          rw [ht] at ef
          have ef : (if t.imm then some (t, T.nd (.lst true) (ts.eraseIdx j)) else none) = some (res, n') := ef
          split at ef
          · rename_i him
            injection ef with ef
            injection ef with h1 h2
            subst h1; subst h2
            obtain ⟨ys, hH, rl⟩ := own_lst rn
            obtain ⟨y, zs, A1, A2, e1, e2, r1, r2⟩ := ra
            obtain ⟨rfl, rfl⟩ := r2
            subst e1
            obtain ⟨e3, e4⟩ := r1
            subst e3
            obtain ⟨n1, n2⟩ := List.nodup_cons.mp nd
            have nB : a ∉ B0 := fun z => n1 (List.mem_append_left _ z)
            obtain ⟨z, Bz, hz1, hz2, hz3⟩ := RpL.at _ _ _ rl j t ht
            obtain ⟨Be, re1, re2⟩ := RpL.erase j _ _ _ (rl.off (o' := .lst (ys.eraseIdx j)) hH ns nB)
            refine ⟨a, ys, i, j, z, rfl, rfl, hH, hi.1, hi.2, by rw [← RpL.length _ _ _ rl]; exact (ixN_seq hj).1, hz1, k z _ Be (new_lst re1) rfl ((hz2.imm_one him).off hH ns (fun z => nomatch z)) ?_ fun b hb => .inl (re2.subset hb)⟩
            exact nd.sublist (List.Sublist.cons_cons _ (re2.trans (List.sublist_append_left _ _)))
          · cases ef
    · cases ef
  · cases ef
theorem dropLast_erase {α : Type} (xs : List α) : xs.dropLast = xs.eraseIdx (xs.length - 1) := by
  rw [List.eraseIdx_length_sub_one]
theorem mut_pop : MutT g rPop fPop := by
  intro S H a n B0 args xs Ag res n' Q rn ho ra nd ns ef k
  unfold fPop at ef
  split at ef
  · rename_i ts
    cases ht : ts[ts.length - 1]? with
    | none => rw [ht] at ef; cases ef
    | some t =>
      rw [ht] at ef
      have ef : (if t.imm then some (t, T.nd (.lst true) ts.dropLast) else none) = some (res, n') := ef
      split at ef
      · rename_i him
        injection ef with ef
        injection ef with h1 h2
        subst h1; subst h2
        obtain ⟨ys, hH, rl⟩ := own_lst rn
        obtain ⟨e1, e2⟩ := ra
        subst e1
        obtain ⟨n1, n2⟩ := List.nodup_cons.mp nd
        have nB : a ∉ B0 := fun z => n1 (List.mem_append_left _ z)
        obtain ⟨z, Bz, hz1, hz2, hz3⟩ := RpL.at _ _ _ rl _ t ht
        have hl := RpL.length _ _ _ rl
        obtain ⟨Be, re1, re2⟩ := RpL.erase (ts.length - 1) _ _ _ (rl.off (o' := .lst ys.dropLast) hH ns nB)
        have re3 : RpL g S (upd H a (.lst ys.dropLast)) ts.dropLast ys.dropLast Be := by
          rw [← dropLast_erase] at re1
          rw [hl, ← dropLast_erase] at re1
          exact re1
        refine ⟨a, ys, z, rfl, rfl, hH, by rw [← hl]; exact hz1, k z _ Be (new_lst re3) rfl ((hz2.imm_one him).off hH ns (fun z => nomatch z)) ?_ fun b hb => .inl (re2.subset hb)⟩
        exact nd.sublist (List.Sublist.cons_cons _ (re2.trans (List.sublist_append_left _ _)))
      · cases ef
  · cases ef
end
end MI
/-! MiM: operators on trees. -/
namespace MI
open PySem L2
section
variable {g : Gc}
def oe2 (f f' : T → T → Option T) (a b : T) : Option T := match f a b with
  | some t => some t
  | none => f' a b
theorem OpT.or {r r' : R2} {f f' : T → T → Option T} (h : OpT g r f) (h' : OpT g r' f') : OpT g (fun x y H Q => r x y H Q ∨ r' x y H Q) (oe2 f f') := fun S H a b x y Ax Ay t Q ra rb e k => by
  unfold oe2 at e
  cases q : f a b with
  | some u => rw [q] at e; injection e with e; subst e; exact .inl (h S H a b x y Ax Ay u Q ra rb q k)
  | none => rw [q] at e; exact .inr (h' S H a b x y Ax Ay t Q ra rb e k)
def oeC (f f' : List T → Option T) (a : List T) : Option T := match f a with
  | some t => some t
  | none => f' a
theorem CallT.or {r r' : RC} {f f' : List T → Option T} (h : CallT g r f) (h' : CallT g r' f') : CallT g (fun x H Q => r x H Q ∨ r' x H Q) (oeC f f') := fun S H ts xs Ax t Q ra e k => by
  unfold oeC at e
  cases q : f ts with
  | some u => rw [q] at e; injection e with e; subst e; exact .inl (h S H ts xs Ax u Q ra q k)
  | none => rw [q] at e; exact .inr (h' S H ts xs Ax t Q ra e k)
theorem OpP.or {r r' : R2} {f f' : T → T → Option T} (h : OpP g r f) (h' : OpP g r' f') : OpP g (fun x y H Q => r x y H Q ∨ r' x y H Q) (oe2 f f') := fun S H a b x y Ax Ay t Q ra rb e k => by
  unfold oe2 at e
  cases q : f a b with
  | some u => rw [q] at e; injection e with e; subst e; exact .inl (h S H a b x y Ax Ay u Q ra rb q k)
  | none => rw [q] at e; exact .inr (h' S H a b x y Ax Ay t Q ra rb e k)
/-! ### integers -/
def fII (h : Int → Int → Option Int) (a b : T) : Option T := match a, b with
  | .int i, .int j => (match h i j with
    | some k => some (.int k)
    | none => none)
  | _, _ => none
def fIB (h : Int → Int → Bool) (a b : T) : Option T := match a, b with
  | .int i, .int j => some (.bl (h i j))
  | _, _ => none
theorem opt_fII {C : Int → Int → Prop} {h : Int → Int → Option Int} {k : Int → Int → Int} (hC : ∀ i j r, h i j = some r → C i j ∧ r = k i j) : OpT g (rI C fun i j => .int (k i j)) (fII h) := fun S H a b x y Ax Ay t Q ra rb e q => by
  unfold fII at e
  split at e
  · rename_i i j
    split at e
    · rename_i r hr
      injection e with e; subst e
      obtain ⟨c, rfl⟩ := hC i j r hr
      exact ⟨i, j, ra.1, rb.1, c, q _ H [] (New.atom ⟨rfl, rfl⟩)⟩
    · cases e
  · cases e
theorem opt_fII0 {h : Int → Int → Option Int} {k : Int → Int → Int} (hC : ∀ i j r, h i j = some r → r = k i j) : OpT g (rI0 fun i j => .int (k i j)) (fII h) := fun S H a b x y Ax Ay t Q ra rb e q => by
  unfold fII at e
  split at e
  · rename_i i j
    split at e
    · rename_i r hr
      injection e with e; subst e
      have c := hC i j r hr
      subst c
      exact ⟨i, j, ra.1, rb.1, q _ H [] (New.atom ⟨rfl, rfl⟩)⟩
    · cases e
  · cases e
theorem opt_fIB {h : Int → Int → Bool} : OpT g (rI0 fun i j => .bl (h i j)) (fIB h) := fun S H a b x y Ax Ay t Q ra rb e q => by
  unfold fIB at e
  split at e
  · rename_i i j
    injection e with e; subst e
    exact ⟨i, j, ra.1, rb.1, q _ H [] (New.atom ⟨rfl, rfl⟩)⟩
  · cases e
def iAdd (i j : Int) : Option Int := some (i + j)
def iSub (i j : Int) : Option Int := some (i - j)
def iXor (i j : Int) : Option Int := some (Builtin.bitXor i j)
def iMul (i j : Int) : Option Int := if i.natAbs.log2 + j.natAbs.log2 < 1000000 then some (i * j) else none
def iDiv (i j : Int) : Option Int := if 0 < j ∧ j.natAbs.log2 < 9000 then some (i / j) else none
def iMod (i j : Int) : Option Int := if 0 < j then some (i % j) else none
def iPow (i j : Int) : Option Int := if 0 ≤ j ∧ j ≤ 1000 ∧ i.natAbs ≤ 1000000 then some (i ^ j.toNat) else none
def iShl (i j : Int) : Option Int := if 0 ≤ j ∧ j ≤ 1000 ∧ i.natAbs ≤ 1000000 then some (i * 2 ^ j.toNat) else none
theorem opt_iAdd : OpT g (rI0 fun i j => .int (i + j)) (fII iAdd) := opt_fII0 (k := fun i j => i + j) fun i j r h => by injection h with h; exact h.symm
theorem opt_iSub : OpT g (rI0 fun i j => .int (i - j)) (fII iSub) := opt_fII0 (k := fun i j => i - j) fun i j r h => by injection h with h; exact h.symm
theorem opt_iXor : OpT g (rI0 fun i j => .int (Builtin.bitXor i j)) (fII iXor) := opt_fII0 (k := fun i j => Builtin.bitXor i j) fun i j r h => by injection h with h; exact h.symm
theorem opt_iMul : OpT g (rI CMulW fun i j => .int (i * j)) (fII iMul) := opt_fII (k := fun i j => i * j) fun i j r h => by
  unfold iMul at h
  split at h
  · rename_i c; injection h with h; exact ⟨c, h.symm⟩
  · cases h
theorem opt_iDiv : OpT g (rI CDivW fun i j => .int (i / j)) (fII iDiv) := opt_fII (k := fun i j => i / j) fun i j r h => by
  unfold iDiv at h
  split at h
  · rename_i c; injection h with h; exact ⟨c, h.symm⟩
  · cases h
theorem opt_iMod : OpT g (rI (fun _ j => 0 < j) fun i j => .int (i % j)) (fII iMod) := opt_fII (k := fun i j => i % j) fun i j r h => by
  unfold iMod at h
  split at h
  · rename_i c; injection h with h; exact ⟨c, h.symm⟩
  · cases h
theorem cpow {i j : Int} (h : 0 ≤ j ∧ j ≤ 1000 ∧ i.natAbs ≤ 1000000) : CPow i j := ⟨h.1, by omega, by have := h.2.2; omega⟩
theorem opt_iPow : OpT g (rI CPow fun i j => .int (i ^ j.toNat)) (fII iPow) := opt_fII (k := fun i j => i ^ j.toNat) fun i j r h => by
  unfold iPow at h
  split at h
  · rename_i c; injection h with h; exact ⟨cpow c, h.symm⟩
  · cases h
theorem opt_iShl : OpT g (rI CPow fun i j => .int (i * 2 ^ j.toNat)) (fII iShl) := opt_fII (k := fun i j => i * 2 ^ j.toNat) fun i j r h => by
  unfold iShl at h
  split at h
  · rename_i c; injection h with h; exact ⟨cpow c, h.symm⟩
  · cases h
def fNeg (a : T) : Option T := match a with
  | .int i => some (.int (-i))
  | _ => none
theorem unt_neg : UnT g (rU fun i => .int (-i)) fNeg := fun S H a x Ax t Q ra e q => by
  unfold fNeg at e
  split at e
  · rename_i i
    injection e with e; subst e
    exact ⟨i, ra.1, q _ H [] (New.atom ⟨rfl, rfl⟩)⟩
  · cases e
/-! ### texts, lists, tuples put together -/
def fAddS (a b : T) : Option T := match a, b with
  | .str i, .str j => if i.length + j.length ≤ sizeLine then some (.str (i ++ j)) else none
  | _, _ => none
theorem opt_addS : OpT g (fun x y H Q => ∃ i j, x = .str i ∧ y = .str j ∧ i.length + j.length ≤ sizeLine ∧ Q (.str (i ++ j)) H) fAddS := fun S H a b x y Ax Ay t Q ra rb e q => by
  unfold fAddS at e
  split at e
  · rename_i i j
    split at e
    · rename_i h
      injection e with e; subst e
      exact ⟨i, j, ra.1, rb.1, h, q _ H [] (New.atom ⟨rfl, rfl⟩)⟩
    · cases e
  · cases e
/-- a new node over parts that are handed on -/
theorem New.node {S : Addr → Prop} {H : Hp} {p : Addr} {xs : List V} {ts : List T} (hp : H p = none) (r : RpL g S H ts xs []) : New g S H (upd H p (.lst xs)) (.nd (.lst true) ts) (.ref p) [p] where
  ext := upd_ext hp
  rep := ⟨p, xs, [], rfl, upd_same, rfl, .inl rfl, r.ext (upd_ext hp)⟩
  nd := List.nodup_cons.mpr ⟨(fun z => nomatch z), List.nodup_nil⟩
  new := fun a ha => by rw [List.mem_singleton.mp ha]; exact hp
theorem New.tupl {S : Addr → Prop} {H : Hp} {p : Addr} {xs : List V} {ts : List T} (hp : H p = none) (r : RpL g S H ts xs []) : New g S H (upd H p (.tup xs)) (.nd .tup ts) (.ref p) [] where
  ext := upd_ext hp
  rep := ⟨p, xs, [], rfl, .inl upd_same, rfl, .inr (.inl rfl), r.ext (upd_ext hp)⟩
  nd := List.nodup_nil
  new := fun a ha => nomatch ha
/-- the parts of a list, if nothing of them is own -/
def kL (t : T) : Option (List T) := match t with
  | .nd (.lst _) ts => if immL ts then some ts else none
  | .nd .scr ts => if immL ts then some ts else none
  | _ => none
def kT (t : T) : Option (List T) := match t with
  | .nd .tup ts => if immL ts then some ts else none
  | _ => none
theorem kL_rep {S : Addr → Prop} {H : Hp} {t : T} {ks : List T} {x : V} {Ax : List Addr} (hk : kL t = some ks) (r : Rp g S H t x Ax) : ∃ p xs, x = .ref p ∧ SqL g.K H p xs ∧ RpL g S H ks xs [] := by
  unfold kL at hk
  split at hk
  · split at hk
    · rename_i hi
      injection hk with hk; subst hk
      obtain ⟨a, xs, B, e, at_, eA, c, r⟩ := r
      exact ⟨a, xs, e, at_.sqL, r.imm_one hi⟩
    · cases hk
  · split at hk
    · rename_i hi
      injection hk with hk; subst hk
      obtain ⟨a, xs, B, e, at_, eA, c, r⟩ := r
      exact ⟨a, xs, e, at_.sqS, r.imm_one hi⟩
    · cases hk
  · cases hk
theorem kT_rep {S : Addr → Prop} {H : Hp} {t : T} {ks : List T} {x : V} {Ax : List Addr} (hk : kT t = some ks) (r : Rp g S H t x Ax) : ∃ p xs, x = .ref p ∧ At g S H .tup p xs ∧ RpL g S H ks xs [] := by
  unfold kT at hk
  split at hk
  · split at hk
    · rename_i hi
      injection hk with hk; subst hk
      obtain ⟨a, xs, B, e, at_, eA, c, r⟩ := r
      exact ⟨a, xs, e, at_, r.imm_one hi⟩
    · cases hk
  · cases hk
end
end MI
/-! MiN: +, *, ==, in, is on trees; freezing a result. -/
namespace MI
open PySem L2
section
variable {g : Gc}
def kLe (t : T) : Option (List T) := match t with
  | .nd (.lst _) ts => if immL ts then some ts else none
  | _ => none
theorem kLe_rep {S : Addr → Prop} {H : Hp} {t : T} {ks : List T} {x : V} {Ax : List Addr} (hk : kLe t = some ks) (r : Rp g S H t x Ax) : ∃ p xs, x = .ref p ∧ H p = some (.lst xs) ∧ RpL g S H ks xs [] := by
  unfold kLe at hk
  split at hk
  · split at hk
    · rename_i hi
      injection hk with hk; subst hk
      obtain ⟨a, xs, B, e, at_, eA, c, r⟩ := r
      exact ⟨a, xs, e, at_.lst, r.imm_one hi⟩
    · cases hk
  · cases hk
def fAddL (a b : T) : Option T := match kLe a, kLe b with
  | some xs, some ys => if xs.length + ys.length ≤ sizeLine then some (.nd (.lst true) (xs ++ ys)) else none
  | _, _ => none
theorem opt_addL : OpT g rCat fAddL := fun S H a b x y Ax Ay t Q ra rb e q => by
  unfold fAddL at e
  split at e
  · rename_i us ws ea eb
    split at e
    · rename_i h
      injection e with e; subst e
      obtain ⟨p, xs, e1, h1, r1⟩ := kLe_rep ea ra
      obtain ⟨p2, ys, e2, h2, r2⟩ := kLe_rep eb rb
      refine ⟨p, p2, xs, ys, e1, e2, h1, h2, by rw [← RpL.length _ _ _ r1, ← RpL.length _ _ _ r2]; exact h, fun l hl => ?_⟩
      exact q _ _ [l] (New.node hl (RpL.append _ _ _ _ _ _ r1 r2))
    · cases e
  · cases e
def fAddT (a b : T) : Option T := match kT a, kT b with
  | some xs, some ys => if xs.length + ys.length ≤ sizeLine then some (.nd .tup (xs ++ ys)) else none
  | _, _ => none
theorem opt_addT : OpT g (rCatA g.K) fAddT := fun S H a b x y Ax Ay t Q ra rb e q => by
  unfold fAddT at e
  split at e
  · rename_i us ws ea eb
    split at e
    · rename_i h
      injection e with e; subst e
      obtain ⟨p, xs, e1, h1, r1⟩ := kT_rep ea ra
      obtain ⟨p2, ys, e2, h2, r2⟩ := kT_rep eb rb
      have r12 := RpL.append _ _ _ _ _ _ r1 r2
      refine ⟨p, p2, xs, ys, e1, e2, At.sqT h1, At.sqT h2, by rw [← RpL.length _ _ _ r1, ← RpL.length _ _ _ r2]; exact h, fun z => ?_, fun _ z => ?_, fun _ _ l hl => ?_⟩
      · subst z
        exact q _ H [] (New.atom ⟨p2, ys, [], rfl, h2, rfl, .inr (.inl rfl), r12⟩)
      · subst z
        rw [List.append_nil] at r12
        exact q _ H [] (New.atom ⟨p, xs, [], rfl, h1, rfl, .inr (.inl rfl), r12⟩)
      · exact q _ _ [] (New.tupl hl r12)
    · cases e
  · cases e
def fMulL (a b : T) : Option T := match kLe a, b with
  | some xs, .int k => if k ≤ 1000000 ∧ -1000000 ≤ k ∧ xs.length * k.toNat ≤ sizeLine then some (.nd (.lst true) (List.replicate k.toNat xs).flatten) else none
  | _, _ => none
theorem RpL.rep {S : Addr → Prop} {H : Hp} {ts : List T} {xs : List V} (r : RpL g S H ts xs []) : ∀ n : Nat, RpL g S H (List.replicate n ts).flatten (List.replicate n xs).flatten []
  | 0 => ⟨rfl, rfl⟩
  | n + 1 => by
    rw [List.replicate_succ, List.replicate_succ, List.flatten_cons, List.flatten_cons]
    exact RpL.append _ _ [] _ _ [] r (RpL.rep r n)
theorem opt_mulL : OpT g rRep fMulL := fun S H a b x y Ax Ay t Q ra rb e q => by
  unfold fMulL at e
  split at e
  · rename_i us k ea
    split at e
    · rename_i h
      injection e with e; subst e
      obtain ⟨p, xs, e1, h1, r1⟩ := kLe_rep ea ra
      refine ⟨p, k, xs, e1, rb.1, h1, by omega, by omega, by rw [← RpL.length _ _ _ r1]; exact h.2.2, fun l hl => ?_⟩
      exact q _ _ [l] (New.node hl (r1.rep _))
    · cases e
  · cases e
/-! ### == at any depth -/
def okS (x : Str) : Bool := x.cps.toList.all (fun c => Nat.blt c 0x110000)
theorem okS_ok {x : Str} (h : okS x = true) : PySem.PyData.strOk x = true := by
  unfold okS at h
  unfold PySem.PyData.strOk
  rw [← Array.all_toList]
  rw [List.all_eq_true] at h ⊢
  intro c hc
  have := h c hc
  exact decide_eq_true (Nat.blt_eq.mp this)
def Kd.seq : Kd → Bool
  | .tup => true
  | .scr => true
  | .lst _ => true
  | _ => false
mutual
def okD : Nat → T → Bool
  | _, .dead => false
  | _, .non => true
  | _, .bl _ => true
  | _, .int _ => true
  | _, .str s => okS s
  | n, .nd k ts => k.seq && (match n with
    | 0 => false
    | n + 1 => okDL n ts)
def okDL : Nat → List T → Bool
  | _, [] => true
  | n, t :: ts => okD n t && okDL n ts
end
mutual
def toD : T → PyData
  | .dead => .none
  | .non => .none
  | .bl b => .bool b
  | .int i => .int i
  | .str s => .str s
  | .nd k ts => if k.isTup then .tuple (toDL ts) else .list (toDL ts)
def toDL : List T → List PyData
  | [] => []
  | t :: ts => toD t :: toDL ts
end
def eqT : T → T → Bool := fun a b => PyData.eqv (toD a) (toD b)
mutual
theorem okD_ok {S : Addr → Prop} {H : Hp} : ∀ (t : T) (n : Nat) (x : V) (A : List Addr), okD n t = true → Rp g S H t x A → Dp g.K H x (toD t) ∧ (toD t).canLay0 = true ∧ (toD t).depth ≤ n
  | .dead, n, x, A, h, r => by rw [okD] at h; cases h
  | .non, n, x, A, h, r => by rw [r.1]; exact ⟨.non, rfl, Nat.zero_le _⟩
  | .bl b, n, x, A, h, r => by rw [r.1]; exact ⟨.bl b, rfl, Nat.zero_le _⟩
  | .int i, n, x, A, h, r => by rw [r.1]; exact ⟨.int i, rfl, Nat.zero_le _⟩
  | .str s, n, x, A, h, r => by
    rw [okD] at h
    rw [r.1]
    exact ⟨.str s, by unfold toD PyData.canLay0; exact okS_ok h, Nat.zero_le _⟩
  | .nd k ts, n, x, A, h, r => by
    obtain ⟨a, xs, B, e, at_, eA, c, rl⟩ := r
    unfold okD at h
    obtain ⟨hk, hn⟩ := Bool.and_eq_true_iff.mp h
    cases n with
    | zero => cases hn
    | succ n =>
      obtain ⟨d1, d2, d3⟩ := okDL_ok ts n xs B hn rl
      rw [e]
      unfold toD
      cases k with
      | tup =>
        rw [if_pos (show Kd.tup.isTup = true from rfl)]
        exact ⟨.tup (At.sqT at_) d1, by unfold PyData.canLay0; exact d2, by unfold PyData.depth; omega⟩
      | scr =>
        rw [if_neg (show ¬ Kd.scr.isTup = true from fun z => nomatch z)]
        exact ⟨.lst at_.sqS d1, by unfold PyData.canLay0; exact d2, by unfold PyData.depth; omega⟩
      | lst o =>
        rw [if_neg (show ¬ (Kd.lst o).isTup = true from fun z => nomatch z)]
        exact ⟨.lst at_.sqL d1, by unfold PyData.canLay0; exact d2, by unfold PyData.depth; omega⟩
      | dK o ks => cases hk
      | dT o ks => cases hk
      | ins o c fs => cases hk
theorem okDL_ok {S : Addr → Prop} {H : Hp} : ∀ (ts : List T) (n : Nat) (xs : List V) (A : List Addr), okDL n ts = true → RpL g S H ts xs A → DpAll g.K H xs (toDL ts) ∧ PyData.canLayAll0 (toDL ts) = true ∧ PyData.depthAll (toDL ts) ≤ n
  | [], n, xs, A, h, r => by rw [r.1]; exact ⟨.nil, rfl, Nat.zero_le _⟩
  | t :: ts, n, xs, A, h, r => by
    rw [okDL] at h
    obtain ⟨h1, h2⟩ := Bool.and_eq_true_iff.mp h
    obtain ⟨y, ys, A1, A2, e1, e2, r1, r2⟩ := r
    obtain ⟨a1, a2, a3⟩ := okD_ok t n y A1 h1 r1
    obtain ⟨b1, b2, b3⟩ := okDL_ok ts n ys A2 h2 r2
    rw [e1]
    unfold toDL
    exact ⟨.cons a1 b1, by unfold PyData.canLayAll0; rw [a2, b2]; rfl, by unfold PyData.depthAll; omega⟩
end
theorem okD_sh {S : Addr → Prop} {H : Hp} {t : T} {x : V} {A : List Addr} (h : okD 60 t = true) (r : Rp g S H t x A) : Dp g.K H x (toD t) ∧ SeqAt.shaped (toD t) = true := by
  obtain ⟨a, b, c⟩ := okD_ok t 60 x A h r
  exact ⟨a, by unfold SeqAt.shaped; rw [b, decide_eq_true (by omega)]; rfl⟩
def fEq (a b : T) : Option T := if okD 60 a && okD 60 b then some (.bl (eqT a b)) else none
def fNe (a b : T) : Option T := if okD 60 a && okD 60 b then some (.bl (!eqT a b)) else none
theorem opt_eq : OpT g (rEqD g.K) fEq := fun S H a b x y Ax Ay t Q ra rb e q => by
  unfold fEq at e
  split at e
  · rename_i h
    obtain ⟨h1, h2⟩ := Bool.and_eq_true_iff.mp h
    injection e with e; subst e
    obtain ⟨a1, a2⟩ := okD_sh h1 ra
    obtain ⟨b1, b2⟩ := okD_sh h2 rb
    exact ⟨_, _, a1, b1, a2, b2, q _ H [] (New.atom ⟨rfl, rfl⟩)⟩
  · cases e
theorem opt_ne : OpT g (rNeD g.K) fNe := fun S H a b x y Ax Ay t Q ra rb e q => by
  unfold fNe at e
  split at e
  · rename_i h
    obtain ⟨h1, h2⟩ := Bool.and_eq_true_iff.mp h
    injection e with e; subst e
    obtain ⟨a1, a2⟩ := okD_sh h1 ra
    obtain ⟨b1, b2⟩ := okD_sh h2 rb
    exact ⟨_, _, a1, b1, a2, b2, q _ H [] (New.atom ⟨rfl, rfl⟩)⟩
  · cases e
/-! ### in -/
def T.flat : T → Bool
  | .non => true
  | .bl _ => true
  | .int _ => true
  | .str _ => true
  | _ => false
theorem flat_ok {S : Addr → Prop} {H : Hp} {t : T} {x : V} {A : List Addr} (h : t.flat = true) (r : Rp g S H t x A) : flatV x = true := by
  cases t <;> first | (rw [r.1]; rfl) | cases h
theorem flatL_ok {S : Addr → Prop} {H : Hp} : ∀ (ts : List T) (xs : List V) (A : List Addr), ts.all T.flat = true → RpL g S H ts xs A → xs.all flatV = true
  | [], xs, A, h, r => by rw [r.1]; rfl
  | t :: ts, xs, A, h, r => by
    rw [List.all_cons] at h
    obtain ⟨h1, h2⟩ := Bool.and_eq_true_iff.mp h
    obtain ⟨y, ys, A1, A2, e1, e2, r1, r2⟩ := r
    rw [e1, List.all_cons, flat_ok h1 r1, flatL_ok ts ys A2 h2 r2]; rfl
theorem eqV_ok {S : Addr → Prop} {H : Hp} {a b : T} {x y : V} {A B : List Addr} (ha : a.flat = true) (hb : b.flat = true) (ra : Rp g S H a x A) (rb : Rp g S H b y B) : eqV x y = eqT a b := by
  cases a <;> cases b <;> first | (cases ha; done) | (cases hb; done) | (rw [ra.1, rb.1]; rfl) | (rw [ra.1, rb.1]; simp [eqV, eqT, toD, PyData.eqv])
theorem inV_ok {S : Addr → Prop} {H : Hp} {a : T} {x : V} {A : List Addr} (ha : a.flat = true) (ra : Rp g S H a x A) : ∀ (ts : List T) (xs : List V) (B : List Addr), ts.all T.flat = true → RpL g S H ts xs B → inV x xs = ts.any fun t => eqT t a
  | [], xs, B, h, r => by rw [r.1]; rfl
  | t :: ts, xs, B, h, r => by
    rw [List.all_cons] at h
    obtain ⟨h1, h2⟩ := Bool.and_eq_true_iff.mp h
    obtain ⟨y, ys, A1, A2, e1, e2, r1, r2⟩ := r
    have ih := inV_ok ha ra ts ys A2 h2 r2
    unfold inV at ih ⊢
    rw [e1, List.any_cons, List.any_cons, ih, eqV_ok h1 ha r1 ra]
def fInF (neg : Bool) (a b : T) : Option T := match kids b with
  | some ts => if a.flat && ts.all T.flat then some (.bl (if neg then !(ts.any fun t => eqT t a) else ts.any fun t => eqT t a)) else none
  | none => none
theorem kids_rep {S : Addr → Prop} {H : Hp} {t : T} {ks : List T} {x : V} {Ax : List Addr} (hk : kids t = some ks) (r : Rp g S H t x Ax) : ∃ p xs B, x = .ref p ∧ (SqL g.K H p xs ∨ SqT g.K H p xs) ∧ RpL g S H ks xs B := by
  unfold kids at hk
  split at hk
  · injection hk with hk; subst hk
    obtain ⟨a, xs, B, e, at_, eA, c, r⟩ := r
    exact ⟨a, xs, B, e, .inr (At.sqT at_), r⟩
  · injection hk with hk; subst hk
    obtain ⟨a, xs, B, e, at_, eA, c, r⟩ := r
    exact ⟨a, xs, B, e, .inl at_.sqL, r⟩
  · injection hk with hk; subst hk
    obtain ⟨a, xs, B, e, at_, eA, c, r⟩ := r
    exact ⟨a, xs, B, e, .inl at_.sqS, r⟩
  · cases hk
theorem opt_inF {neg : Bool} : OpT g (rIn g.K neg) (fInF neg) := fun S H a b x y Ax Ay t Q ra rb e q => by
  unfold fInF at e
  split at e
  · rename_i ts ek
    split at e
    · rename_i h
      obtain ⟨h1, h2⟩ := Bool.and_eq_true_iff.mp h
      injection e with e; subst e
      obtain ⟨p, xs, B, e1, sq, r⟩ := kids_rep ek rb
      refine ⟨p, xs, e1, sq, flat_ok h1 ra, flatL_ok _ _ _ h2 r, ?_⟩
      rw [inV_ok h1 ra _ _ _ h2 r]
      exact q _ H [] (New.atom ⟨rfl, rfl⟩)
    · cases e
  · cases e
/-- deep: in a list -/
def fInD (neg : Bool) (a b : T) : Option T := match b with
  | .nd (.lst _) ts => if okD 50 a && okDL 50 ts then some (.bl (if neg then !(ts.any fun t => eqT t a) else ts.any fun t => eqT t a)) else none
  | _ => none
theorem toDL_eq : ∀ ts : List T, toDL ts = ts.map toD
  | [] => rfl
  | t :: ts => by rw [toDL, toDL_eq ts]; rfl
theorem inD_key {S : Addr → Prop} {H : Hp} {neg : Bool} {a b : T} {x y : V} {Ax Ay : List Addr} {t : T} (ra : Rp g S H a x Ax) (rb : Rp g S H b y Ay) (e : fInD neg a b = some t) :
    ∃ d ds, Dp g.K H x d ∧ Dp g.K H y (.list ds) ∧ SeqAt.shaped d = true ∧ SeqAt.shaped (.list ds) = true ∧ t = .bl (if neg then !(ds.any fun z => PyData.eqv z d) else ds.any fun z => PyData.eqv z d) := by
  unfold fInD at e
  split at e
  · rename_i o ts
    split at e
    · rename_i h
      obtain ⟨h1, h2⟩ := Bool.and_eq_true_iff.mp h
      injection e with e; subst e
      obtain ⟨p, xs, B, e1, at_, eA, c, r⟩ := rb
      obtain ⟨a1, a2, a3⟩ := okD_ok a 50 x Ax h1 ra
      obtain ⟨b1, b2, b3⟩ := okDL_ok ts 50 xs B h2 r
      refine ⟨toD a, toDL ts, a1, e1 ▸ Dp.lst at_.sqL b1, by unfold SeqAt.shaped; rw [a2, decide_eq_true (by omega)]; rfl, by unfold SeqAt.shaped PyData.canLay0 PyData.depth; rw [b2, decide_eq_true (by omega)]; rfl, ?_⟩
      rw [toDL_eq, List.any_map]
      rfl
    · cases e
  · cases e
theorem opt_inD : OpT g (rInD g.K) (fInD false) := fun S H a b x y Ax Ay t Q ra rb e q => by
  obtain ⟨d, ds, h1, h2, h3, h4, h5⟩ := inD_key ra rb e
  subst h5
  exact ⟨d, ds, h1, h2, h3, h4, q _ H [] (New.atom ⟨rfl, rfl⟩)⟩
theorem opt_notInD : OpT g (rNotInD g.K) (fInD true) := fun S H a b x y Ax Ay t Q ra rb e q => by
  obtain ⟨d, ds, h1, h2, h3, h4, h5⟩ := inD_key ra rb e
  subst h5
  exact ⟨d, ds, h1, h2, h3, h4, q _ H [] (New.atom ⟨rfl, rfl⟩)⟩
/-- one sign in a text -/
def fInS (neg : Bool) (a b : T) : Option T := match a, b with
  | .str s, .str z => (match s.cps.toList with
    | [c] => some (.bl (if neg then !decide (c ∈ z.cps.toList) else decide (c ∈ z.cps.toList)))
    | _ => none)
  | _, _ => none
theorem str1 {s : Str} {c : Nat} (h : s.cps.toList = [c]) : s = ⟨#[c]⟩ := by
  obtain ⟨⟨l⟩⟩ := s
  have h : l = [c] := h
  subst h
  rfl
theorem opt_inS : OpT g rInS (fInS false) := fun S H a b x y Ax Ay t Q ra rb e q => by
  unfold fInS at e
  split at e
  · rename_i s z
    split at e
    · rename_i c hc
      injection e with e; subst e
      exact ⟨c, z, by rw [ra.1, str1 hc], rb.1, q _ H [] (New.atom ⟨rfl, rfl⟩)⟩
    · cases e
  · cases e
theorem opt_notInS : OpT g rNotInS (fInS true) := fun S H a b x y Ax Ay t Q ra rb e q => by
  unfold fInS at e
  split at e
  · rename_i s z
    split at e
    · rename_i c hc
      injection e with e; subst e
      exact ⟨c, z, by rw [ra.1, str1 hc], rb.1, q _ H [] (New.atom ⟨rfl, rfl⟩)⟩
    · cases e
  · cases e
/-! ### is -/
def T.isNon : T → Bool
  | .non => true
  | _ => false
def fIsN (neg : Bool) (a b : T) : Option T := match a, b with
  | .dead, _ => none
  | a, .non => some (.bl (if neg then !a.isNon else a.isNon))
  | _, _ => none
theorem isNon_ok {S : Addr → Prop} {H : Hp} {a : T} {x : V} {A : List Addr} (n : a ≠ .dead) (ra : Rp g S H a x A) : a.isNon = decide (x = .non) := by
  cases a with
  | dead => exact absurd rfl n
  | non => rw [ra.1]; rfl
  | bl b => rw [ra.1]; rfl
  | int i => rw [ra.1]; rfl
  | str s => rw [ra.1]; rfl
  | nd k ts => obtain ⟨a, xs, B, e, _⟩ := ra; rw [e]; rfl
theorem fIsN_some {neg : Bool} {a b t : T} (e : fIsN neg a b = some t) : a ≠ .dead ∧ b = .non ∧ t = .bl (if neg then !a.isNon else a.isNon) := by
  unfold fIsN at e
  split at e
  · cases e
  · rename_i h
    injection e with e
    exact ⟨(fun z => h z), rfl, e.symm⟩
  · cases e
theorem opt_isN : OpT g rIsN (fIsN false) := fun S H a b x y Ax Ay t Q ra rb e q => by
  obtain ⟨h1, h2, h3⟩ := fIsN_some e
  subst h2; subst h3
  refine ⟨rb.1, ?_⟩
  rw [← isNon_ok h1 ra]
  exact q _ H [] (New.atom ⟨rfl, rfl⟩)
theorem opt_notN : OpT g rNotN (fIsN true) := fun S H a b x y Ax Ay t Q ra rb e q => by
  obtain ⟨h1, h2, h3⟩ := fIsN_some e
  subst h2; subst h3
  refine ⟨rb.1, ?_⟩
  rw [← isNon_ok h1 ra]
  exact q _ H [] (New.atom ⟨rfl, rfl⟩)
def fIsB (neg : Bool) (a b : T) : Option T := match a, b with
  | .bl p, .bl r => some (.bl (if neg then !decide (p = r) else decide (p = r)))
  | _, _ => none
theorem opt_isB : OpT g rIsB (fIsB false) := fun S H a b x y Ax Ay t Q ra rb e q => by
  unfold fIsB at e
  split at e
  · injection e with e; subst e
    exact ⟨_, _, ra.1, rb.1, q _ H [] (New.atom ⟨rfl, rfl⟩)⟩
  · cases e
theorem opt_notB : OpT g rNotB (fIsB true) := fun S H a b x y Ax Ay t Q ra rb e q => by
  unfold fIsB at e
  split at e
  · injection e with e; subst e
    exact ⟨_, _, ra.1, rb.1, q _ H [] (New.atom ⟨rfl, rfl⟩)⟩
  · cases e
/-! ### order of texts -/
def fSB (h : Str → Str → Bool) (a b : T) : Option T := match a, b with
  | .str i, .str j => some (.bl (h i j))
  | _, _ => none
theorem opt_fSB {h : Str → Str → Bool} : OpT g (fun x y H Q => ∃ i j, x = .str i ∧ y = .str j ∧ Q (.bl (h i j)) H) (fSB h) := fun S H a b x y Ax Ay t Q ra rb e q => by
  unfold fSB at e
  split at e
  · injection e with e; subst e
    exact ⟨_, _, ra.1, rb.1, q _ H [] (New.atom ⟨rfl, rfl⟩)⟩
  · cases e
/-! ### freezing a result -/
def mFrz (fa : M T) : M T := bnd fa fun t => ret t.fz
theorem tm_frz {X : Cx} {e : Expr} {fa : M T} {e1 : List Nat} (h : PEm g X e fa e1 []) : PEm g X e (mFrz fa) e1 [] :=
  PE.imp h fun σ H Q ⟨S, Ts, A, t, Ts', R, e, k⟩ => by
    obtain ⟨t', Ts1, ea, e⟩ := bnd_some e
    have e : some (t'.fz, Ts1) = some (t, Ts') := e
    injection e with e
    injection e with h1 h2
    subst h1; subst h2
    refine ⟨S, Ts, A, t', Ts1, R, ea, fun x H' S' A' Ax R' rx o p s => ?_⟩
    have up : ∀ {u : T} {y : V} {B : List Addr}, Rp g S' H' u y B → Rp g (fun a => S' a ∨ a ∈ Ax) H' u y B := fun r => Rp.keep (M := fun _ => False) (fun a o h _ => h) (fun _ h => h.elim) (fun _ _ h => h) (fun _ h => .inl h) _ _ _ r fun _ _ h => h
    refine k x H' (fun a => S' a ∨ a ∈ Ax) A' [] ⟨fun i => ?_, R'.nd, R'.dj, fun i a ha => ?_, R'.len, fun a h => ?_⟩ (Rp.fz (fun _ h => .inl h) t' x Ax rx fun a ha => .inr ha) Ow.nil ⟨p.keep, fun a h => .inl (p.sub a h), fun a h => ?_, p.anew⟩ s
    · rcases R'.rep i with h | ⟨y, h1, h2⟩
      · exact .inl h
      · exact .inr ⟨y, h1, up h2⟩
    · rintro (h | h)
      · exact R'.ns i a ha h
      · exact o.dj i (fun z => nomatch z) a h ha
    · rcases h with h | h
      · exact R'.st a h
      · have m := Rp.cells _ _ _ rx a h
        cases q : H' a with
        | none => rw [q] at m; exact m.elim
        | some ob => exact ⟨ob, rfl⟩
    · rcases h with h | h
      · exact p.snew a h
      · exact .inr (o.new a h)
end
end MI
/-! MiO: truth values as values, chains, isinstance. -/
namespace MI
open PySem L2
section
variable {g : Gc} {X : Cx} {a b c : Expr} {rest : List Expr} {fa fb fc : M T} {e1 e2 e3 b1 b2 b3 : List Nat} {pos p2 p3 : Pos}
def bOf (t : T) : Option Bool := match t with
  | .bl b => some b
  | _ => none
theorem bOf_some {t : T} {b : Bool} (h : bOf t = some b) : t = .bl b := by
  unfold bOf at h
  split at h
  · injection h with h; rw [h]
  · cases h
def mAndV (fa fb : M T) : M T := bnd fa fun t => bnd (lft (bOf t)) fun c => if c then fb else ret (.bl false)
def mOrV (fa fb : M T) : M T := bnd fa fun t => bnd (lft (bOf t)) fun c => if c then ret (.bl true) else fb
def mNotV (fa : M T) : M T := bnd fa fun t => bnd (lft (bOf t)) fun c => ret (.bl (!c))
theorem tm_one {op : BoolOp} (ha : PEm g X a fa e1 b1) : PEm g X (.BoolOp op [a] pos) fa e1 b1 := pe_one ha
theorem ret_some {α : Type} {x y : α} {s s' : List T} (h : ret x s = some (y, s')) : x = y ∧ s = s' := by
  have h : some (x, s) = some (y, s') := h
  injection h with h
  injection h with h1 h2
  exact ⟨h1, h2⟩
theorem tm_bv {R : Bool → M T} {Rr : Bool → TE} (hR : ∀ k σ H Q, TM g (R k) e2 b2 σ H Q → Rr k σ H Q) (σ : L2.St) (H : Hp) (Q : VK) (h : TM g (bnd fa fun t => bnd (lft (bOf t)) R) (e1 ++ e2) b2 σ H Q) : TM g fa e1 b1 σ H fun x H1 => ∃ c, x = .bl c ∧ Rr c σ H1 Q := by
  obtain ⟨S, Ts, A, t, Ts', R0, e, k⟩ := h
  obtain ⟨ta, Ts1, ea, e⟩ := bnd_some e
  obtain ⟨q, Ts2, eb, e⟩ := bnd_some e
  obtain ⟨ef, rfl⟩ := lft_some eb
  have := bOf_some ef
  subst this
  refine ⟨S, Ts, A, .bl q, Ts2, R0, ea, fun x H1 S1 A1 Ax R1 r1 o1 p1 s1 => ⟨q, r1.1, hR q σ H1 Q ⟨S1, Ts2, A1, t, Ts', R1, e, fun x H2 S2 A2 Ax R2 rx o p s => k x H2 S2 A2 Ax R2 rx (o.rebase p1) (p1.trans R0 p) (s1.trans s)⟩⟩⟩
theorem tm_retB {k : Bool} {σ : L2.St} {H : Hp} {Q : VK} (h : TM g (ret (.bl k)) e2 b2 σ H Q) : Q (.bl k) H := by
  obtain ⟨S, Ts, A, t, Ts', R0, e, w⟩ := h
  obtain ⟨rfl, rfl⟩ := ret_some e
  exact w _ H S A [] R0 ⟨rfl, rfl⟩ Ow.nil Po.refl Stb.refl
theorem tm_and (ha : PEm g X a fa e1 b1) (hb : PEm g X (.BoolOp .And (b :: rest) pos) fb e2 b2) : PEm g X (.BoolOp .And (a :: b :: rest) pos) (mAndV fa fb) (e1 ++ e2) b2 :=
  PE.imp (pe_and ha hb) (tm_bv (R := fun c => if c then fb else ret (.bl false)) (Rr := fun c => fun σ H Q => if c = true then TM g fb e2 b2 σ H Q else Q (.bl false) H) fun k σ H Q h => by
    cases k with
    | true => exact iteT h
    | false => exact iteF (tm_retB h))
theorem tm_or (ha : PEm g X a fa e1 b1) (hb : PEm g X (.BoolOp .Or (b :: rest) pos) fb e2 b2) : PEm g X (.BoolOp .Or (a :: b :: rest) pos) (mOrV fa fb) (e1 ++ e2) b2 :=
  PE.imp (pe_or ha hb) (tm_bv (R := fun c => if c then ret (.bl true) else fb) (Rr := fun c => fun σ H Q => if c = true then Q (.bl true) H else TM g fb e2 b2 σ H Q) fun k σ H Q h => by
    cases k with
    | true => exact iteT (tm_retB h)
    | false => exact iteF h)
theorem tm_not (ha : PEm g X a fa e1 b1) : PEm g X (.UnaryOp .Not a pos) (mNotV fa) e1 [] :=
  PE.imp (pe_not ha) fun σ H Q h => by
    have := tm_bv (g := g) (fa := fa) (e1 := e1) (b1 := b1) (e2 := []) (b2 := []) (R := fun c => ret (.bl (!c))) (Rr := fun c => fun σ H Q => Q (.bl (!c)) H) (fun k σ H Q h => tm_retB h) σ H Q (by rw [List.append_nil]; exact h)
    exact this
/-- a test as a value -/
theorem asB_m {fa : M T} {s s' : List T} {k : Bool} (h : asB fa s = some (k, s')) : fa s = some (.bl k, s') := asB_some h
/-! ### a op b op c -/
def mChain (f f' : T → T → Option T) (fa fb fc : M T) : M T := bnd fa fun a => bnd fb fun b => bnd (lft (f a b)) fun z => bnd (lft (bOf z)) fun k => if k then bnd fc fun c => lft (f' b c) else ret (.bl false)
theorem chain_r {r r' : R2} {f f' : T → T → Option T} (ho : OpT g r f) (ho' : OpT g r' f') (d : ∀ j ∈ b1, j ∉ e2) (d' : ∀ j ∈ b1 ++ b2, j ∉ e3) (σ : L2.St) (H : Hp) (Q : VK) (h : TM g (mChain f f' fa fb fc) (e1 ++ e2 ++ e3) [] σ H Q) : tChain r r' (TM g fa e1 b1) (TM g fb e2 b2) (TM g fc e3 b3) σ H Q := by
  obtain ⟨S, Ts, A, t, Ts', R, q0, k⟩ := h
  obtain ⟨ta, Ts1, ea, q1⟩ := bnd_some q0
  obtain ⟨tb, Ts2, eb, q2⟩ := bnd_some q1
  obtain ⟨tz, Ts3, ez, q3⟩ := bnd_some q2
  obtain ⟨ef, eT⟩ := lft_some ez
  subst eT
  obtain ⟨kk, Ts4, ek, e⟩ := bnd_some q3
  obtain ⟨eg, eT⟩ := lft_some ek
  subst eT
  have ebl := bOf_some eg
  subst ebl
  refine tm_two (bo2 := b2) d R ea eb fun x y H' S' A' Ax Ay R' rx ry ox oxy p s => ?_
  refine ho S' H' ta tb x y Ax Ay _ _ rx ry ef fun z H2 Az n => ⟨kk, n.rep.1, ?_⟩
  have R2 := R'.ext n.ext
  have p2 := p.trans R (Po.ext (S := S') (A := A') n.ext)
  have s2 := s.trans (Stb.ext (eff := []) (Ts := Ts4) (A := A') n.ext)
  rw [List.append_nil] at s2
  cases kk with
  | false =>
    have e : ret (T.bl false) Ts4 = some (t, Ts') := e
    obtain ⟨h1, h2⟩ := ret_some e
    subst h1; subst h2
    refine iteF (k _ H2 S' A' [] R2 ⟨rfl, rfl⟩ Ow.nil p2 (s2.mono fun j hj => List.mem_append_left _ hj))
  | true =>
    have e : bnd fc (fun c => lft (f' tb c)) Ts4 = some (t, Ts') := e
    obtain ⟨tc, Ts5, ec, e⟩ := bnd_some e
    obtain ⟨eh, eT⟩ := lft_some e
    subst eT
    refine iteT ⟨S', Ts4, A', tc, Ts', R2, ec, fun w H3 S3 A3 Aw R3 rw' ow p3 s3 => ?_⟩
    have oy : Ow (b1 ++ b2) H A S' A' Ay := oxy.part (List.sublist_append_right _ _)
    have ry2 : Rp g S' H2 tb y Ay := ry.ext n.ext
    have ry3 := ry2.held R2 oy p3 s3 d'
    refine ho' S3 H3 tb tc y w Ay Aw t Q ry3 rw' eh fun z H4 Az n2 => ?_
    have o : Ow [] H3 A3 S3 A3 Az := Ow.of_new R3 n2
    have p4 := p2.trans R p3
    have s5 := (s2.trans s3).trans (Stb.ext (eff := []) (Ts := Ts') (A := A3) n2.ext)
    rw [List.append_nil] at s5
    exact k z H4 S3 A3 Az (R3.ext n2.ext) n2.rep (o.rebase p4) (p4.trans R (Po.ext n2.ext)) s5
theorem tm_chain {op op' : CmpOp} {r r' : R2} {f f' : T → T → Option T} (hr : OpR X (compareOp op) r) (hr' : OpR X (compareOp op') r') (ho : OpT g r f) (ho' : OpT g r' f') (ha : PEm g X a fa e1 b1) (hb : PEm g X b fb e2 b2) (hc : PEm g X c fc e3 b3) (d : ∀ j ∈ b1, j ∉ e2 := by decide) (d' : ∀ j ∈ b1 ++ b2, j ∉ e3 := by decide)
    (hm : lastMarks [op, op'] [b, c] = false := by with_unfolding_all rfl) : PEm g X (.Compare a [op, op'] [b, c] pos) (mChain f f' fa fb fc) (e1 ++ e2 ++ e3) [] :=
  PE.imp (pe_chain hr hr' ha hb hc hm) (chain_r ho ho' d d')
theorem tmt_chain {op op' : CmpOp} {r r' : R2} {f f' : T → T → Option T} (hr : OpR X (compareOp op) r) (hr' : OpR X (compareOp op') r') (ho : OpT g r f) (ho' : OpT g r' f') (ha : PEm g X a fa e1 b1) (hb : PEm g X b fb e2 b2) (hc : PEm g X c fc e3 b3) (d : ∀ j ∈ b1, j ∉ e2 := by decide) (d' : ∀ j ∈ b1 ++ b2, j ∉ e3 := by decide)
    (hm : lastMarks [op, op'] [b, c] = false := by with_unfolding_all rfl) : PTm g X (.Compare a [op, op'] [b, c] pos) (asB (mChain f f' fa fb fc)) (e1 ++ e2 ++ e3) :=
  PT.imp (pt_chain hr hr' ha hb hc hm) (tmt_of (b1 := []) (chain_r ho ho' d d'))
/-! ### isinstance with a built-in class -/
def tyN (t : T) : Option String := match t with
  | .non => some "NoneType"
  | .bl _ => some "bool"
  | .int _ => some "int"
  | .str _ => some "str"
  | .nd .tup _ => some "tuple"
  | .nd .scr _ => some "list"
  | .nd (.lst _) _ => some "list"
  | .nd (.dK _ _) _ => some "dict"
  | .nd (.dT _ _) _ => some "dict"
  | _ => none
theorem tyN_ok {S : Addr → Prop} {H : Hp} {t : T} {x : V} {A : List Addr} {n : String} (r : Rp g S H t x A) (h : tyN t = some n) : TyX g.K H x (.type n) := by
  unfold tyN at h
  split at h
  · injection h with h; subst h; rw [r.1]; exact .base .non
  · injection h with h; subst h; rw [r.1]; exact .base (.bl _)
  · injection h with h; subst h; rw [r.1]; exact .base (.int _)
  · injection h with h; subst h; rw [r.1]; exact .base (.str _)
  · injection h with h; subst h
    obtain ⟨a, xs, B, e, at_, _⟩ := r
    rw [e]
    rcases (show SqT g.K H a xs from At.sqT at_) with (h | ⟨o, h⟩) | ⟨o, _, _, h, hc, _⟩
    · exact .base (.tup h)
    · exact .fTuple h
    · exact .kTuple h hc
  · injection h with h; subst h
    obtain ⟨a, xs, B, e, at_, _⟩ := r
    rw [e]
    rcases (show SqL g.K H a xs from at_.sqS) with (h | ⟨o, h⟩) | ⟨o, _, _, h, hc, _⟩
    · exact .base (.lst h)
    · exact .base (.frz h)
    · exact .kList h hc
  · injection h with h; subst h
    obtain ⟨a, xs, B, e, at_, _⟩ := r
    rw [e]
    exact .base (.lst at_.lst)
  · injection h with h; subst h
    obtain ⟨a, xs, B, e, at_, _⟩ := r
    rw [e]
    exact .base (.dK at_.1)
  · injection h with h; subst h
    obtain ⟨a, xs, B, e, at_, _⟩ := r
    rw [e]
    exact .base (.dT at_.1)
  · cases h
inductive Bt where
  | int | bool | str | tuple | list | dict
def Bt.nm : Bt → String
  | .int => "int"
  | .bool => "bool"
  | .str => "str"
  | .tuple => "tuple"
  | .list => "list"
  | .dict => "dict"
def isB (c : Bt) (t : T) : Option T := match t with
  | .non => some (.bl false)
  | .bl _ => some (.bl (match c with
    | .bool => true
    | .int => true
    | _ => false))
  | .int _ => some (.bl (match c with
    | .int => true
    | _ => false))
  | .str _ => some (.bl (match c with
    | .str => true
    | _ => false))
  | .nd .tup _ => some (.bl (match c with
    | .tuple => true
    | _ => false))
  | .nd .scr _ => some (.bl (match c with
    | .list => true
    | _ => false))
  | .nd (.lst _) _ => some (.bl (match c with
    | .list => true
    | _ => false))
  | .nd (.dK _ _) _ => some (.bl (match c with
    | .dict => true
    | _ => false))
  | .nd (.dT _ _) _ => some (.bl (match c with
    | .dict => true
    | _ => false))
  | _ => none
theorem isB_ok {c : Bt} {t u : T} (h : isB c t = some u) : ∃ n b, tyN t = some n ∧ kitB n c.nm = some b ∧ u = .bl b := by
  unfold isB at h
  split at h <;> first | (cases h; done) | (injection h with h; subst h; cases c <;> exact ⟨_, _, rfl, by decide +kernel, rfl⟩)
/-- one more argument that is a fixed value -/
def mIsi (f : T → Option T) (fa : M T) : M T := m1 f fa
theorem tm_isB {c : Bt} {x : Str} (hg : Gl X "isinstance") (hm : X.mg "isinstance" = none) (hgc : Gl X x) (hmc : X.mg x = none) (hv : bootBuiltins x = some (.type c.nm)) (hK : g.K = X.K) (ha : PEm g X a fa e1 b1) (hn : x ≠ "__name__" := by decide) (hdb : (x == ("__debug__" : Str)) = false := by decide)
    (he : starEach [a, .Name x p3] X.env = (false, eval a X.env) :: starEach [.Name x p3] X.env := by rfl) (he2 : starEach [.Name x p3] X.env = (false, eval (.Name x p3) X.env) :: starEach [] X.env := by rfl) (hpl : (backTo pos (starEach [.Name x p3] X.env)).any (·.1) = false := by rfl) : PEm g X (.Call (.Name "isinstance" p2) [a, .Name x p3] [] pos) (m1 (isB c) fa) e1 [] := by
  have h1 : PE X (.Name x p3) (tC (.ty c.nm)) := pe_bltn hgc hmc hv rfl hn hdb
  refine PE.imp (pe_callB call_isi hg hm PyProof.Rows.boot_isinstance (pa_cons ha (pa_cons h1 pa_nil he2) he) (by decide) (by decide) he hpl) fun σ H Q h => ?_
  obtain ⟨S, Ts, A, t, Ts', R, e, k⟩ := h
  obtain ⟨ta, Ts1, ea, e⟩ := bnd_some e
  obtain ⟨ef, rfl⟩ := lft_some e
  refine ⟨S, Ts, A, ta, Ts', R, ea, fun x' H' S' A' Ax R' rx o1 p s => ?_⟩
  obtain ⟨n, b, h1, h2, rfl⟩ := isB_ok ef
  refine ⟨x', _, _, _, b, rfl, .ty c.nm, hK ▸ tyN_ok rx h1, kit_ty h2, ?_⟩
  exact k _ H' S' A' [] R' ⟨rfl, rfl⟩ Ow.nil p s
end
end MI
/-! MiQ: defs called where no repr is under way. -/
namespace MI
open PySem PyProof.Rows L2
/-- no repr is under way -/
def GA (A : Around) : Prop := A.guards = some []
theorem GA.deeper {A : Around} (h : GA A) (env : Env) : GA (A.deeper env) := h
theorem GA.in1 {A : Around} (h : GA A) : GA A.in1 := h
theorem GA.make {A : Around} (h : GA A) (C : Addr) (us : List Value) (kw : List (Str × Value)) : GA (A.under (.builtin "type.__call__" ⟨.ref C :: us, kw⟩)) := by
  unfold GA at h ⊢
  simp [Around.under, pushGuards, Code.guards, Code.isGuard, guardIds, h]
/-- a def's promise where no repr is under way -/
structure FnG (P : Program) (w : World) (K : PySem.W.Frag) (mg : Str → Option Value) (base : Heap) (CX : CXT) (k : Nat) (f : Addr) (fd : FuncData) (ps : List Str) (sp : Sp) : Prop where
  lenG : ∀ ys G R Z, sp ys G R Z → ys.length = ps.length
  runG : ∀ (B : Around) (out : List Env) (z : Shared) (G : Hp) (args : Args) (us : List Value) (ys : List V) (R : VK) (Z : XK), GA B → Room k B → Env0 P w K mg base B out z G → BindsTo z fd args (ps.zip us) → Vals ys us → sp ys G R Z →
    codeAny (model P w) B (.call (.ref f) args) (CR CX out P w G z R Z) z
theorem FnG.monoG {P : Program} {w : World} {K : PySem.W.Frag} {mg : Str → Option Value} {base : Heap} {CX : CXT} {j k : Nat} {f : Addr} {fd : FuncData} {ps : List Str} {sp : Sp} (F : FnG P w K mg base CX j f fd ps sp) (h : j ≤ k) :
    FnG P w K mg base CX k f fd ps sp := ⟨F.lenG, fun B out z G args us ys R Z hG hr => F.runG B out z G args us ys R Z hG (hr.mono h)⟩
/-- where a parameter is kept: in the frame, or in a cell that is made for it -/
theorem kept_par {N ps : List Str} {scope : Scope} (S : FnScope N ps scope) {n : Addr} {us : List Value} : ∀ y ∈ ps.zip us, scope.names.lookup y.1 = some .local ∨ (scope.names.lookup y.1 = some .cell ∧ ((cellsFrom n scope.names []).lookup y.1).isSome = true) :=
  fun y hy => (S.par y.1 (List.of_mem_zip hy).1).imp id fun c => ⟨c, PySem.W.cellsFrom_some _ _ _ (.inl c)⟩
/-- how a body's end is the call's end -/
theorem ends_call {X : Cx} {R : VK} {σ : L2.St} {G : Hp} {z z' : Shared} {out : List Env} (os : ∀ {σ' : L2.St} {G' : Hp} {v : V} {u : Value}, Inv X [] σ' G' z' → RelV v u → R v G' → CE out X.prog X.w G z R u z') :
    ∀ fl : Flow, SP X [] { nx := fun _ G' => R .non G', rt := R } fl z' → (match fl with
    | .ret u => CE out X.prog X.w G z R u z'
    | .next => CE out X.prog X.w G z R .none z'
    | _ => False)
  | .ret _, ⟨_, _, _, J, rel, q⟩ => os J rel q
  | .next, ⟨_, _, J, q⟩ => os (v := .non) J rfl q
  | .brk, ⟨_, _, _, q⟩ => q
  | .cont, ⟨_, _, _, q⟩ => q
/-- the rule for a def -/
theorem FunD.okG {P : Program} {w : World} {K : PySem.W.Frag} {mg : Str → Option Value} {base : Heap} {x qual : Str} {params : Arguments} {body : List Stmt} {scope : Scope} {dvs : List V} {kws : List (Str × V)} {f : Addr} {fd : FuncData}
    {CX : CXT} {N ps : List Str} {k : Nat} {sp : Sp} (F : FunD K x qual params body scope dvs kws f fd) (S : FnScope N ps scope) (len : ∀ ys G R Z, sp ys G R Z → ys.length = ps.length)
    (hb : ∀ (cdv : Value) (B : Around) (out : List Env) (z : Shared) (G : Hp) (ys : List V) (R : VK) (Z : XK), GA (B.deeper (envOfC qual scope z.heap.objs.size f cdv)) → Room k (B.deeper (envOfC qual scope z.heap.objs.size f cdv)) → sp ys G R Z →
      ∃ t, PSs (cxOf CX P w K mg base N qual scope f cdv B out z G Z) body t ∧ t { nx := fun _ G' => R .non G', rt := R } (start N ys) G) : FnG P w K mg base CX (k + 1) f fd ps sp where
  lenG := len
  runG B out z G args us ys R Z guard room e0 bind rel says := by
    obtain ⟨_, _, _, _, _, _, _, cdv, _, _, rfl, at_, code, _⟩ := F.ex
    have there : base.StaysIn z.heap := fun b o e => (e0.bs b o e).1
    have kin := e0.mod.kin.keeps there
    refine codeAny_call_function room.depth (kin _ _ at_) rfl S.co S.gen rfl (PySem.W.codeRec_of kin code) (bind _ _ _ _ (wpAny_newFunctionEnv_cells S.kind (kept_par S) ?_))
    rintro _ rfl z1 made
    refine ⟨(e0.mod.nolimit.keeps there).keeps made.toInCall.keep, codeAny_func ?_⟩
    obtain ⟨t, walk, q⟩ := hb cdv B out z G ys R Z (guard.deeper _) (room.deeper _) says
    refine wpAny_mono (walk.run [] z1 (start N ys) G _ (inv_start S room.hd e0 (len _ _ _ _ says) rel made) q) (fun fl z' sp' => ?_) fun _ _ x => x
    have fin := ends_call (σ := start N ys) (G := G) (z := z) (out := out) (fun J rel q => ⟨_, _, J.os, J.bare, J.base, J.hok, rel, q⟩) fl sp'
    cases fl <;> first | exact fin | exact fin.elim
section
variable {X : Cx} {CX : CXT} {k : Nat} {f C : Addr} {fd : FuncData} {ps : List Str} {sp : Sp} {E : XK} {x m : Str} {p pos apos : Pos} {e o : Expr} {es : List Expr} {ta : TE} {t : TA}
/-- what is known behind a call, with or without an exception -/
def Behind (X : Cx) (pins : List (Addr × Obj)) (σ : L2.St) (Q : VK) (r : Result) (s' : Shared) : Prop := match r with
  | .ok (.ret u) => EP X pins σ Q u s'
  | .ok _ => False
  | .error e => X.xe e s'
theorem behind {pins : List (Addr × Obj)} {σ : L2.St} {H : Hp} {s : Shared} {Q : VK} (hx : Passes CX X E) (I : Inv X pins σ H s) : ∀ (r : Result) (s' : Shared), CR CX X.stack X.prog X.w H s Q E r s' → Behind X pins σ Q r s'
  | .ok (.ret _), _, c => I.after c
  | .error e, s', c => hx pins σ H s e s' I c
  | .ok .next, _, c => c.elim
  | .ok .brk, _, c => c.elim
  | .ok .cont, _, c => c.elim
theorem Behind.call {pins : List (Addr × Obj)} {σ : L2.St} {Q : VK} {s : Shared} {f : Value} {us : List Value} {kw : List (Str × Value)} (h : codeAny (model X.prog X.w) X.A (.call f ⟨us, kw⟩) (Behind X pins σ Q) s) : wpAny (model X.prog X.w) X.A (call f us kw) (EP X pins σ Q) X.xe s :=
  wpAny_call (codeAny_mono h fun r s' b => by
    match r, b with
    | .ok (.ret _), b => exact b
    | .error _, b => exact b
    | .ok .next, b => exact b.elim
    | .ok .brk, b => exact b.elim
    | .ok .cont, b => exact b.elim)
/-- the callee runs, its arguments bound in any way -/
theorem run_g {pins : List (Addr × Obj)} {σ : L2.St} {H : Hp} {s : Shared} {Q : VK} {us us2 : List Value} {vs2 : List V} {kw : List (Str × Value)} (F : FnG X.prog X.w X.K X.mg X.base CX k f fd ps sp) (hG : GA X.A) (hr : Room k X.A) (hx : Passes CX X E)
    (I : Inv X pins σ H s) (hb : us2.length = ps.length → BindsTo s fd ⟨us, kw⟩ (ps.zip us2)) (r2 : Vals vs2 us2) (h : sp vs2 H Q E) : wpAny (model X.prog X.w) X.A (call (.ref f) us kw) (EP X pins σ Q) X.xe s :=
  Behind.call (codeAny_mono (F.runG X.A X.stack s H ⟨us, kw⟩ us2 vs2 Q E hG hr I.env0 (hb (r2.length ▸ F.lenG _ _ _ _ h)) r2 h) (behind hx I))
/-- a def as something that is called with values -/
theorem FnG.callR (F : FnG X.prog X.w X.K X.mg X.base CX k f fd ps sp) (hG : GA X.A) (hr : Room k X.A) (hx : Passes CX X E) (hb : Binds X.K fd ps []) : CallR X (.ref f) (fun vs H Q => sp vs H Q E) :=
  fun _ s _ _ _ us _ I r h => run_g F hG hr hx I (fun n => by simpa using hb s us I.kIn (by simpa using n)) r h
theorem tCall_nil {σ : L2.St} {H : Hp} {Q : VK} (mono : ∀ R R' : List V → Hp → Prop, (∀ vs H, R vs H → R' vs H) → t σ H R → t σ H R') (h : tCall sp [] E t σ H Q) : t σ H fun vs H1 => sp vs H1 Q E :=
  mono _ _ (fun vs H1 q => by simpa using q) h
theorem pe_callG (F : FnG X.prog X.w X.K X.mg X.base CX k f fd ps sp) (hG : GA X.A) (hr : Room k X.A) (hg : Gl X x) (hm : X.mg x = some (.ref f)) (hk : PySem.W.keepIn X.K (.ref f) = true) (hb : Binds X.K fd ps []) (hx : Passes CX X E)
    (ha : PA X (e :: es) t) (hdb : (x == ("__debug__" : Str)) = false := by decide) (he : starEach (e :: es) X.env = (false, eval e X.env) :: starEach es X.env := by rfl) (hpl : (backTo pos (starEach es X.env)).any (·.1) = false := by rfl) :
    PE X (.Call (.Name x p) (e :: es) [] pos) (tCall sp [] E t) where
  run pins s σ H Q I h := wpAny_Call_Name_kw (ld_glob I hg hm (PySem.W.callWith_K (h₀ := X.base) I.ok.mod.kin hk
    (thn (ha.run pos pins s σ H _ I h) fun us _ b => let ⟨ys, _, J, rel, q⟩ := b; ⟨J.kIn, F.callR hG hr hx hb pins _ σ _ ys us Q J rel (by simpa using q)⟩) he hpl) hdb)
theorem pe_callG0 (F : FnG X.prog X.w X.K X.mg X.base CX k f fd ps sp) (hG : GA X.A) (hr : Room k X.A) (hg : Gl X x) (hm : X.mg x = some (.ref f)) (hk : PySem.W.keepIn X.K (.ref f) = true) (hb : Binds X.K fd ps []) (hx : Passes CX X E)
    (hdb : (x == ("__debug__" : Str)) = false := by decide) : PE X (.Call (.Name x p) [] [] pos) (tCall sp [] E tNil) where
  run pins s σ H Q I h := wpAny_Call_Name_kw (ld_glob I hg hm (PySem.W.callWith_K0 I.kIn hk (F.callR hG hr hx hb pins s σ H [] [] Q I .nil h)) hdb)
/-- the method of an object, in hand -/
theorem meth_at {pl : Sem Bool} {pins : List (Addr × Obj)} {σ : L2.St} {G : Hp} {z : Shared} {y : V} {u : Value} {R : V → Hp → Prop} {Q : Value × List Value → Shared → Prop} {Z : Value → Shared → Prop} (c : Cls X.K C) (hm : Meth X.K C m f) (J : Inv X pins σ G z) (rel : RelV y u)
    (h : ∃ a dx fs, y = V.ref a ∧ G a = some (.ins C dx fs) ∧ fs.lookup m = none ∧ R y G) (k : ∀ a, y = V.ref a → u = Value.ref a → R (.ref a) G → Q (.ref f, [.ref a]) z) : wpAny (model X.prog X.w) X.A (getMethod u m pl) Q Z z := by
  obtain ⟨a, dx, fs, rfl, at_, none_, q⟩ := h
  have eu : u = Value.ref a := rel
  subst eu
  exact getmeth_ok J at_ c hm none_ (k a rfl rfl q)
/-- o.m(e, ..) -/
theorem pe_methG {pl : Sem Bool} (he : PE X o ta) (c : Cls X.K C) (hm : Meth X.K C m f) (F : FnG X.prog X.w X.K X.mg X.base CX k f fd ps sp) (hG : GA X.A) (hr : Room k X.A) (hb : Binds X.K fd ps []) (hx : Passes CX X E) (ha : PA X (e :: es) t)
    (hst : starEach (e :: es) X.env = (false, eval e X.env) :: starEach es X.env := by rfl) (hpl : (backTo pos (starEach es X.env)).any (·.1) = false := by rfl)
    (ht : eval (.Call (.Attribute o m apos) (e :: es) [] pos) X.env = (do let ov ← eval o X.env; standAt apos.atName; let (f, first) ← holding [ov] (getMethod ov m pl); callWith pos f first (backTo pos (starEach (e :: es) X.env)) (backToKw pos (keywordEach [] X.env))) := by rfl) :
    PE X (.Call (.Attribute o m apos) (e :: es) [] pos) (tMeth C m sp [] E ta t) where
  run pins s σ H Q I h := PySem.W.methodCall_KW (pl := pl) (thn (he.run pins s σ H _ I h) fun _ z1 b => let ⟨y, G1, J, rel, q⟩ := b
    meth_at (R := fun y G => t σ G fun vs G2 => sp (y :: (vs ++ [])) G2 Q E) c hm J rel q fun a _ _ q => PySem.W.callWith_K (first := [.ref a]) (h₀ := X.base) I.ok.mod.kin hm.kp
      (thn (ha.run pos pins z1 σ G1 _ J q) fun us _ b => let ⟨ys, _, J2, rel2, q2⟩ := b; ⟨J2.kIn, F.callR hG hr hx hb pins _ σ _ (.ref a :: ys) (.ref a :: us) Q J2 (.cons rfl rel2) (by simpa using q2)⟩) hst hpl) ht
theorem pe_methG0 {pl : Sem Bool} (he : PE X o ta) (c : Cls X.K C) (hm : Meth X.K C m f) (F : FnG X.prog X.w X.K X.mg X.base CX k f fd ps sp) (hG : GA X.A) (hr : Room k X.A) (hb : Binds X.K fd ps []) (hx : Passes CX X E)
    (ht : eval (.Call (.Attribute o m apos) [] [] pos) X.env = (do let ov ← eval o X.env; standAt apos.atName; let (f, first) ← holding [ov] (getMethod ov m pl); callWith pos f first (backTo pos (starEach [] X.env)) (backToKw pos (keywordEach [] X.env))) := by rfl) :
    PE X (.Call (.Attribute o m apos) [] [] pos) (tMeth C m sp [] E ta tNil) where
  run pins s σ H Q I h := PySem.W.methodCall_KW (pl := pl) (thn (he.run pins s σ H _ I h) fun _ z1 b => let ⟨y, G1, J, rel, q⟩ := b
    meth_at (R := fun y G => sp [y] G Q E) c hm J rel q fun a _ _ q => PySem.W.callWith_K0 (first := [.ref a]) J.kIn hm.kp (F.callR hG hr hx hb pins z1 σ G1 [.ref a] [.ref a] Q J (.cons rfl .nil) q)) ht
/-- C(..) with any binding -/
theorem run_makeG {pins : List (Addr × Obj)} {σ : L2.St} {H : Hp} {s : Shared} {Q : VK} {us us2 : List Value} {vs2 : List V} {kw : List (Str × Value)} (M : Mk X.K C f) (F : FnG X.prog X.w X.K X.mg X.base CX k f fd ps sp) (hG : GA X.A) (hr : Room (k + 1) X.A)
    (hb : ∀ (z : Shared) (a : Addr), X.K.In z.heap → (Value.ref a :: us2).length = ps.length → BindsTo z fd ⟨.ref a :: us, kw⟩ (ps.zip (Value.ref a :: us2))) (hx : Passes CX X E) (I : Inv X pins σ H s) (r : Vals vs2 us2)
    (h : ∀ y dx, H y = none → H dx = none → dx ≠ y → sp (.ref y :: vs2) (upd (upd H dx (.own y)) y (.ins C dx [])) (fun v H2 => v = .non ∧ Q (.ref y) H2) E) :
    wpAny (model X.prog X.w) X.A (call (.ref C) us kw) (EP X pins σ Q) X.xe s := by
  have J := Inv.made (C := C) I
  have says := h (s.heap.objs.size + 1) s.heap.objs.size (I.hok.fresh (Nat.le_add_right _ 1)) (I.hok.fresh Nat.le.refl) (Nat.ne_of_lt (Nat.lt_add_one _))
  have rel : Vals (V.ref (s.heap.objs.size + 1) :: vs2) (Value.ref (s.heap.objs.size + 1) :: us2) := .cons rfl r
  refine wpAny_call (make_map (f := f) I.kIn M.makes M.init (beq_iff_eq.mp M.fn) (codeAny_mono (F.runG _ X.stack _ _ ⟨_ :: us, kw⟩ _ _ _ E (hG.make C us kw) (hr.make C us kw) (J.env0.make C us kw) (hb _ _ J.kIn (rel.length ▸ F.lenG _ _ _ _ says)) rel says) fun rr s' c => ?_))
  have b := behind hx J rr s' c
  match rr, b with
  | .ok (.ret _), ⟨_, G', J', rel', rfl, q⟩ => exact ⟨rel', .ref (s.heap.objs.size + 1), G', J', rfl, q⟩
  | .error _, b => exact b
  | .ok .next, b => exact b.elim
  | .ok .brk, b => exact b.elim
  | .ok .cont, b => exact b.elim
theorem pe_makeG (M : Mk X.K C f) (F : FnG X.prog X.w X.K X.mg X.base CX k f fd ps sp) (hG : GA X.A) (hr : Room (k + 1) X.A) (hg : Gl X x) (hm : X.mg x = some (.ref C)) (hb : Binds X.K fd ps []) (hx : Passes CX X E)
    (ha : PA X (e :: es) t) (hdb : (x == ("__debug__" : Str)) = false := by decide) (he : starEach (e :: es) X.env = (false, eval e X.env) :: starEach es X.env := by rfl) (hpl : (backTo pos (starEach es X.env)).any (·.1) = false := by rfl) :
    PE X (.Call (.Name x p) (e :: es) [] pos) (tMake C sp [] E t) where
  run pins s σ H Q I h := wpAny_Call_Name_kw (ld_glob I hg hm (PySem.W.callWith_K (h₀ := X.base) I.ok.mod.kin M.kp
    (thn (ha.run pos pins s σ H _ I h) fun us _ b => let ⟨ys, _, J, rel, q⟩ := b; ⟨J.kIn, run_makeG M F hG hr (fun z a kz n => by simpa using hb z (.ref a :: us) kz (by simpa using n)) hx J rel (by simpa using q)⟩) he hpl) hdb)
/-- e.f, a property -/
theorem pe_propG {g pp : Addr} (he : PE X e ta) (c : Cls X.K C) (hp : PropOf X.K C m pp g) (F : FnG X.prog X.w X.K X.mg X.base CX k g fd ps sp) (hG : GA X.A) (hr : Room (k + 1) X.A) (hb : Binds X.K fd ps []) (hx : Passes CX X.nox E)
    (hab : attributeBase e m X.env (eval e X.env) = eval e X.env := by rfl) : PE X (.Attribute e m pos) (tProp C sp [] E ta) where
  run pins s σ H Q I h := attr_of hab (thn (he.run pins s σ H _ I h) fun u z b => by
    obtain ⟨y, G, J, rel, a, dx, fs, rfl, at_, says⟩ := b
    have eu : u = Value.ref a := rel
    subst eu
    have K1 := J.tok (z.toks + 1)
    obtain ⟨_, O, _⟩ := ins_get J.hok at_
    obtain ⟨_, here, _⟩ := O.look
    have known : (PySem.W.clsIn X.K C).isSome = true := (PySem.W.any_some c.hd).elim fun _ w => by rw [w.1]; rfl
    have get := PySem.W.plainGet_of (c.get m)
    refine PySem.W.get_bind J.kIn here get.1 (PySem.W.findObj_data known hp.at_ hp.get hp.tak) get.2 (wpAny_call (hp.rec_.elim fun _ rec_ => PySem.W.prop_get (s := { z with toks := z.toks + 1 }) J.kIn rec_ ?_))
    refine codeAny_mono (F.runG X.A.in1 X.stack { z with toks := z.toks + 1 } G ⟨[.ref a], []⟩ [.ref a] [.ref a] Q E hG.in1 hr.in1 K1.env0.in1 (hb _ [.ref a] K1.kIn (F.lenG _ _ _ _ says)) (.cons rfl .nil) says) fun r s' c => ?_
    match r, c with
    | .error er, c => exact (hx pins σ G { z with toks := z.toks + 1 } er s' (K1.wish _) c).elim
    | .ok (.ret _), c =>
      obtain ⟨v, G', J3, rel3, q3⟩ := K1.after c
      simp only [PySem.W.handedOut_of (handed_of rel3)]
      exact wpAny_pure ⟨v, G', J3, rel3, q3⟩
    | .ok .next, c => exact c.elim
    | .ok .brk, c => exact c.elim
    | .ok .cont, c => exact c.elim)
end
end MI
/-! MiR: a def keeps its mirror; calls. -/
namespace MI
open PySem PySem.Spec PyProof.Rows L2
section
variable {g : Gc} {P : Program} {w : World} {K : PySem.W.Frag} {mg : Str → Option Value} {base : Heap} {x qual : Str} {params : Arguments} {body : List Stmt} {scope : Scope} {dvs : List V} {kws : List (Str × V)} {f : Addr} {fd : FuncData}
/-- a def keeps what its mirror says -/
theorem fn_g {N ps : List Str} {k : Nat} {io : List Nat} {m : M Fl} (F : FunD K x qual params body scope dvs kws f fd) (S : FnScope N ps scope) (hio1 : io.Nodup)
    (hbody : ∀ (cdv : Value) (A : Around) (outer : List Env) (s : Shared) (H : Hp) (E : XK), GA (A.deeper (envOfC qual scope s.heap.objs.size f cdv)) → Room k (A.deeper (envOfC qual scope s.heap.objs.size f cdv)) → ∃ asg eff, PSsm g (cxOf CX0 P w K mg base N qual scope f cdv A outer s H E).nox body m asg eff ∧ ∀ i ∈ io, i ∉ asg ∧ i < ps.length) :
    FnG P w K mg base CX0 (k + 1) f fd ps (spT g io (runB ps.length N.length io m)) := by
  refine FunD.okG F S (fun vs H Q E h => ?_) fun cdv A outer s H vs Q E hG hr h => ?_
  · obtain ⟨S0, ts, A, r, outs, rl, _, _, _, e, _⟩ := h
    unfold runB at e
    split at e
    · rename_i hl
      rw [← RpL.length _ _ _ rl, hl]
    · cases e
  · obtain ⟨asg, eff, hbd, hio2⟩ := hbody cdv A outer s H E hG hr
    have hio := And.intro hio1 hio2
    refine ⟨_, hbd.nox, ?_⟩
    obtain ⟨S0, ts, A, r, outs, rl, nd, ns, st, e, k⟩ := h
    have hl0 := RpL.length _ _ _ rl
    unfold runB at e
    split at e
    · rename_i hl
      obtain ⟨A0, R, sub⟩ := SR.start (N := N) rl nd ns st
      rw [hl] at R
      cases q : m (ts ++ List.replicate (N.length - ps.length) .dead) with
      | none => rw [q] at e; cases e
      | some p =>
        obtain ⟨fl, Ts'⟩ := p
        rw [q] at e
        refine ⟨S0, _, A0, fl, Ts', R, q, fun σ' H' S' A' hσ R' p s' => ?_⟩
        -- what is handed back
        have fin : ∀ (t : T) (x : V) (Ax : List Addr), some (t, io.map (slot Ts')) = some (r, outs) → Rp g S' H' t x Ax → Ow [] H A0 S' A' Ax → Q x H' := fun t x Ax e1 rx o => by
          injection e1 with e1
          injection e1 with h1 h2
          subst h1; subst h2
          have hat : ∀ i ∈ io, σ'[i]? = some (some (vs.getD i .non)) := fun i hi => by
            rw [hσ i (hio.2 i hi).1]
            have hi2 : i < vs.length := by have := (hio.2 i hi).2; omega
            unfold L2.start
            rw [List.getElem?_append_left (by simpa using hi2), List.getElem?_map, List.getD_eq_getElem?_getD, List.getElem?_eq_getElem hi2]; rfl
          obtain ⟨Ao, ro, ndo, hm⟩ := RpL.outs R' io vs hio.1 hat
          have nw : ∀ a ∈ Ao ++ Ax, a ∈ A ∨ H a = none := fun a ha => by
            have c : (∃ j, a ∈ A0 j) ∨ H a = none := by
              rcases List.mem_append.mp ha with h | h
              · obtain ⟨i, _, hA⟩ := hm a h
                exact p.anew i a hA
              · exact o.new a h
            rcases c with ⟨j, hj⟩ | h
            · exact .inl (sub j a hj)
            · exact .inr h
          refine k x H' S' Ax Ao rx ro (List.nodup_append.mpr ⟨ndo, o.nd rfl, fun a ha b hb e => ?_⟩) (fun a ha => ?_) R'.st ⟨fun a ob ea na => p.keep a ob ea fun i hi => na (sub i a hi), p.sub, fun a ha => ?_, nw⟩
          · subst e
            obtain ⟨i, _, hA⟩ := hm a ha
            exact o.dj i (fun z => nomatch z) a hb hA
          · rcases List.mem_append.mp ha with h | h
            · obtain ⟨i, _, hA⟩ := hm a h
              exact R'.ns i a hA
            · exact o.ns a h
          · rcases p.snew a ha with h | ⟨i, hi⟩ | h
            · exact .inl h
            · exact .inr (.inl (sub i a hi))
            · exact .inr (.inr h)
        cases fl with
        | rt t => exact fun x Ax rx o => fin t x Ax e rx o
        | nx => exact fin .non .non [] e ⟨rfl, rfl⟩ Ow.nil
        | bk => cases e
        | ct => cases e
    · cases e
end
section
variable {g : Gc} {X : Cx} {k : Nat} {f C : Addr} {fd : FuncData} {ps : List Str} {x m : Str} {p pos apos : Pos} {e o : Expr} {es : List Expr} {fs : M (List T)} {fa : M T} {e1 e2 b1 b2 : List Nat} {io : List Nat} {c : Cal} {ln : List (Option Nat)}
theorem TMc.nil {σ : L2.St} {H : Hp} {Q : List V → Hp → Prop} (h : TMc g mNil [] [] [] σ H Q) : tNil σ H Q := by
  obtain ⟨S, Ts, A, ts, Ts', R, e, k⟩ := h
  obtain ⟨rfl, rfl⟩ := (show [] = ts ∧ Ts = Ts' from by
    have e : some ([], Ts) = some (ts, Ts') := e
    injection e with e
    injection e with h1 h2
    exact ⟨h1, h2⟩)
  exact k [] H S A [] [] R ⟨rfl, rfl, rfl, rfl⟩ Ow.nil Ow.nil (fun _ z => nomatch z) Po.refl Stb.refl
/-- f(e, ..) -/
theorem tm_call (F : FnG X.prog X.w X.K X.mg X.base CX0 k f fd ps (spT g io c)) (hG : GA X.A) (hr : Room k X.A) (hg : Gl X x) (hm : X.mg x = some (.ref f)) (hk : PySem.W.keepIn X.K (.ref f) = true) (hb : Binds X.K fd ps []) (ha : PAc g X (e :: es) fs e1 [] ln)
    (hio : io = lentIx 0 ln := by rfl) (hl : ∀ s ∈ ln.filterMap id, s ∈ e1 := by decide) (hdb : (x == ("__debug__" : Str)) = false := by decide) (he : starEach (e :: es) X.env = (false, eval e X.env) :: starEach es X.env := by rfl) (hpl : (backTo pos (starEach es X.env)).any (·.1) = false := by rfl) :
    PEm g X (.Call (.Name x p) (e :: es) [] pos) (mCall c ln fs) e1 [] := PE.imp (pe_callG F hG hr hg hm hk hb (E := E0) pass0 ha hdb he hpl) (call_r rfl hio hl)
theorem tm_callP (F : FnG X.prog X.w X.K X.mg X.base CX0 k f fd ps (spT g io c)) (hG : GA X.A) (hr : Room k X.A) (hg : Gl X x) (hm : X.mg x = some (.ref f)) (hk : PySem.W.keepIn X.K (.ref f) = true) (hb : Binds X.K fd ps []) (ha : PAc g X (e :: es) fs e1 b1 ln)
    (hio : io = lentIx 0 ln := by rfl) (hl : ∀ s ∈ ln.filterMap id, s ∈ e1 := by decide) (hdb : (x == ("__debug__" : Str)) = false := by decide) (he : starEach (e :: es) X.env = (false, eval e X.env) :: starEach es X.env := by rfl) (hpl : (backTo pos (starEach es X.env)).any (·.1) = false := by rfl) :
    PEm g X (.Call (.Name x p) (e :: es) [] pos) (mCallP c ln fs) e1 [] := PE.imp (pe_callG F hG hr hg hm hk hb (E := E0) pass0 ha hdb he hpl) (callP_r hio hl)
end
end MI
/-! MiS: built-in functions on trees. -/
namespace MI
open PySem PySem.Spec PyProof.Rows L2
section
variable {g : Gc} {X : Cx}
/-! ### min and max of two texts -/
/-- the first of two texts, or the second -/
def oneOf (a b : Str) (i : Nat) : Str := if i = 0 then a else b
theorem two_at {a b : Str} {t u : Tok} {i : Nat} {v : Value} (h : (#[Value.str a t, Value.str b u] : Array Value)[i]? = some v) : ∃ k, v = .str (oneOf a b i) k := by
  match i, h with
  | 0, h => exact ⟨t, (Option.some.inj h).symm⟩
  | 1, h => exact ⟨u, (Option.some.inj h).symm⟩
  | i + 2, h => simp at h
/-- the better one of two texts, by a walk over the two as a tuple -/
theorem best2 {P : Program} {w : World} {A : Around} {E : Value → Shared → Prop} {s : Shared} {a b : Str} {t u : Tok} {id : String} {op : CmpOp} {bt : Str → Str → Bool} {Q : Value → Shared → Prop} (calm : A.handled = none)
    (byWalk : ∀ {a b : Value} {Q : Value → Shared → Prop}, wpAny (model P w) A.in1 (pyIter (.ref s.heap.objs.size)) (fun it s₂ => ∃ I fp wr n PP St bt, it = .ref I ∧ Walks P w A.in1 I fp wr n PP St ∧ St 0 s₂.heap ∧ (∀ b ∈ fp, b < s₂.heap.objs.size) ∧ 0 < n ∧ CmpOf P w A.in1 op PP bt ∧
      ∀ v h' tk, PP (argBest bt (n - 1)) v → (∀ b o, b ∉ wr → s₂.heap.get? b = some o → h'.get? b = some o) → Q v { s₂ with heap := h', toks := tk }) E { s with heap := s.heap.push { cls := .type "tuple", data := .seq #[a, b] } } → wpAny (model P w) A (call (.builtin id) [a, b]) Q E s)
    (cmp : ∀ (x y : Str) (t u : Tok) (A : Around) (s : Shared) (Q : Value → Shared → Prop) (E : Value → Shared → Prop), Q (.bool (bt x y)) s → wpAny (model P w) A (richCompare op (.str x t) (.str y u)) Q E s)
    (fin : ∀ h' tk, (∀ c o, s.heap.get? c = some o → h'.get? c = some o) → Q (if bt b a then .str b u else .str a t) { s with heap := h', toks := tk }) : wpAny (model P w) A (call (.builtin id) [.str a t, .str b u]) Q E s := by
  have tup : (s.heap.push { cls := .type "tuple", data := .seq #[.str a t, .str b u] }).IsTuple s.heap.objs.size #[.str a t, .str b u] := ⟨_, Heap.get?_push_size _ rfl, rfl, _, rfl⟩
  have next : (s.heap.push { cls := .type "tuple", data := .seq #[Value.str a t, Value.str b u] }).objs.size = s.heap.objs.size + 1 := Heap.size_push ..
  refine byWalk (wpAny_pyIter_tuple tup ⟨_, _, _, _, _, _, fun i j => bt (oneOf a b i) (oneOf a b j), rfl, Walks.tuple (A := A.in1) calm _ s.heap.objs.size (next ▸ Nat.ne_of_lt Nat.le.refl) #[.str a t, .str b u], ⟨⟨_, Heap.get?_push_size _ rfl, rfl, rfl⟩, tup.push _⟩, ?low, Nat.zero_lt_two, ?order, ?end_⟩)
  case low =>
    intro c hc
    rw [Heap.size_push, next]
    rcases List.mem_cons.mp hc with e | hc
    · rw [e, next]; exact Nat.le.refl
    · rw [List.mem_singleton.mp hc]; exact Nat.le_add_right _ 1
  case order =>
    intro i j vi vj s' Q' E' hi hj q
    obtain ⟨_, rfl⟩ := two_at hi
    obtain ⟨_, rfl⟩ := two_at hj
    exact cmp _ _ _ _ _ _ _ _ q
  case end_ =>
    intro v h' tk at_ keep
    have all : ∀ c o, s.heap.get? c = some o → h'.get? c = some o := fun c o g => keep c o (fun m => Nat.lt_irrefl _ (Nat.lt_of_succ_lt (next ▸ (List.mem_singleton.mp m) ▸ Heap.lt_size g))) (Heap.get?_push_of_some _ (Heap.get?_push_of_some _ g))
    have ev : (if bt b a then Value.str b u else Value.str a t) = v := by
      have at_ : (#[Value.str a t, Value.str b u] : Array Value)[argBest (fun i j => bt (oneOf a b i) (oneOf a b j)) 1]? = some v := at_
      cases c : bt b a with
      | true =>
        rw [show argBest (fun i j => bt (oneOf a b i) (oneOf a b j)) 1 = 1 from by simp [argBest, oneOf, c]] at at_
        exact Option.some.inj at_
      | false =>
        rw [show argBest (fun i j => bt (oneOf a b i) (oneOf a b j)) 1 = 0 from by simp [argBest, oneOf, c]] at at_
        exact Option.some.inj at_
    rw [← ev]
    exact fin h' tk all
def ltS (x y : Str) : Bool := decide (x.cps.toList < y.cps.toList)
theorem call_min2S (hc : X.calm = true) : CallR X (.builtin "min") (fun xs H Q => ∃ i j, xs = [.str i, .str j] ∧ Q (.str (if ltS j i then j else i)) H) := by
  intro pins s σ H xs us Q I r h
  obtain ⟨i, j, rfl, q⟩ := h
  obtain ⟨u, w', rfl, ⟨t, rfl⟩, ⟨t', rfl⟩⟩ := vals2 r
  refine best2 (op := .Lt) (bt := ltS) (I.ok.hd hc) (fun h => call_min_two h) (fun x y t u A s Q E q => PySem.P.lt_str q) fun h' tk k => ⟨_, H, I.kept k, ?_, q⟩
  by_cases hj : ltS j i = true
  · rw [if_pos hj, if_pos hj]; exact ⟨_, rfl⟩
  · rw [if_neg hj, if_neg hj]; exact ⟨_, rfl⟩
theorem call_max2S (hc : X.calm = true) : CallR X (.builtin "max") (fun xs H Q => ∃ i j, xs = [.str i, .str j] ∧ Q (.str (if ltS i j then j else i)) H) := by
  intro pins s σ H xs us Q I r h
  obtain ⟨i, j, rfl, q⟩ := h
  obtain ⟨u, w', rfl, ⟨t, rfl⟩, ⟨t', rfl⟩⟩ := vals2 r
  refine best2 (op := .Gt) (bt := fun x y => ltS y x) (I.ok.hd hc) (fun h => call_max_two h) (fun x y t u A s Q E q => PySem.P.gt_str q) fun h' tk k => ⟨_, H, I.kept k, ?_, q⟩
  by_cases hj : ltS i j = true
  · rw [if_pos hj, if_pos hj]; exact ⟨_, rfl⟩
  · rw [if_neg hj, if_neg hj]; exact ⟨_, rfl⟩
/-! ### repr -/
def rRepr (K : PySem.W.Frag) : RC := fun xs H Q => ∃ x d, xs = [x] ∧ Dp K H x d ∧ PyData.showable d = true ∧ PyData.hasDict d = false ∧ d.depth ≤ 60 ∧ d.shown.length ≤ sizeLine ∧ Q (.str d.shown) H
theorem call_reprD (hG : GA X.A) (hu : X.A.units + 64 < cLine) : CallR X (.builtin "repr") (rRepr X.K) := by
  intro pins s σ H xs us Q I r h
  obtain ⟨x, d, rfl, hd, hs, hn, hz, hl, q⟩ := h
  obtain ⟨u, rfl, r1⟩ := vals1 r
  obtain ⟨as, rd⟩ := Dp.reads I d x u hd r1
  cases rd with
  | none => exact PySem.P.repr_of_none ⟨.str _, H, I.tok _, ⟨_, rfl⟩, q⟩
  | bool b => exact PySem.P.repr_of_bool ⟨.str _, H, I.tok _, ⟨_, rfl⟩, q⟩
  | int i t => exact PySem.P.repr_of_int (by simpa [PyData.showable] using hs) ⟨.str _, H, I.tok _, ⟨_, rfl⟩, q⟩
  | str y t => exact PySem.P.repr_of_str ⟨.str _, H, I.tok _, ⟨_, rfl⟩, q⟩ hl
  | list h1 h2 h3 h4 => exact repr_of_reads' (.list h1 h2 h3 h4) hs (fun z => by rw [hn] at z; cases z) hG (by omega) (fun _ _ e => e) (fun h' u tk k => ⟨.str _, H, I.kept k, ⟨_, rfl⟩, q⟩) hl
  | tuple h1 h2 h3 h4 => exact repr_of_reads' (.tuple h1 h2 h3 h4) hs (fun z => by rw [hn] at z; cases z) hG (by omega) (fun _ _ e => e) (fun h' u tk k => ⟨.str _, H, I.kept k, ⟨_, rfl⟩, q⟩) hl
  | dict => cases hn
end
end MI
/-! MiT: built-in functions on trees, slices, places in sequences. -/
namespace MI
open PySem PySem.Spec PyProof.Rows L2
section
variable {g : Gc} {X : Cx}
theorem RpL.get1 {S : Addr → Prop} {H : Hp} {t : T} {xs : List V} {A : List Addr} (r : RpL g S H [t] xs A) : ∃ x B, xs = [x] ∧ Rp g S H t x B := by
  obtain ⟨y, ys, A1, A2, e1, e2, r1, r2⟩ := r
  exact ⟨y, A1, by rw [e1, r2.1], r1⟩
theorem RpL.get2 {S : Addr → Prop} {H : Hp} {t u : T} {xs : List V} {A : List Addr} (r : RpL g S H [t, u] xs A) : ∃ x y B C, xs = [x, y] ∧ Rp g S H t x B ∧ Rp g S H u y C := by
  obtain ⟨y, ys, A1, A2, e1, e2, r1, r2⟩ := r
  obtain ⟨z, B, e3, r3⟩ := r2.get1
  exact ⟨y, z, A1, B, by rw [e1, e3], r1, r3⟩
/-- a function of one argument -/
def c1 (f : T → Option T) (ts : List T) : Option T := match ts with
  | [t] => f t
  | _ => none
def c2 (f : T → T → Option T) (ts : List T) : Option T := match ts with
  | [t, u] => f t u
  | _ => none
theorem callT1 {r : RC} {f : T → Option T} (h : ∀ S H t x A u Q, Rp g S H t x A → f t = some u → (∀ z H' Az, New g S H H' u z Az → Q z H') → r [x] H Q) : CallT g r (c1 f) := fun S H ts xs Ax t Q ra e k => by
  unfold c1 at e
  split at e
  · obtain ⟨x, B, e1, r1⟩ := ra.get1
    rw [e1]
    exact h S H _ x B t Q r1 e k
  · cases e
theorem callT2 {r : RC} {f : T → T → Option T} (h : ∀ S H t t' x x' A A' u Q, Rp g S H t x A → Rp g S H t' x' A' → f t t' = some u → (∀ z H' Az, New g S H H' u z Az → Q z H') → r [x, x'] H Q) : CallT g r (c2 f) := fun S H ts xs Ax t Q ra e k => by
  unfold c2 at e
  split at e
  · obtain ⟨x, y, B, C, e1, r1, r2⟩ := ra.get2
    rw [e1]
    exact h S H _ _ x y B C t Q r1 r2 e k
  · cases e
def fLen (t : T) : Option T := match t with
  | .str s => if s.length ≤ sizeLine then some (.int s.length) else none
  | .nd .tup ts => some (.int ts.length)
  | .nd .scr ts => some (.int ts.length)
  | .nd (.lst _) ts => some (.int ts.length)
  | _ => none
theorem ct_len : CallT g (fun xs H Q => ∃ x n, xs = [x] ∧ LenV g.K x H n ∧ Q (.int n) H) (c1 fLen) := callT1 fun S H t x A u Q r e k => by
  unfold fLen at e
  split at e
  · split at e
    · rename_i h
      injection e with e; subst e
      exact ⟨x, _, rfl, by rw [r.1]; exact ⟨h, rfl⟩, k _ H [] (New.atom ⟨rfl, rfl⟩)⟩
    · cases e
  · injection e with e; subst e
    obtain ⟨a, xs, B, ex, at_, eA, c, rl⟩ := r
    exact ⟨x, _, rfl, by rw [ex]; exact .inr ⟨xs, At.sqT at_, RpL.length _ _ _ rl⟩, k _ H [] (New.atom ⟨rfl, rfl⟩)⟩
  · injection e with e; subst e
    obtain ⟨a, xs, B, ex, at_, eA, c, rl⟩ := r
    exact ⟨x, _, rfl, by rw [ex]; exact .inl ⟨xs, at_.sqS, RpL.length _ _ _ rl⟩, k _ H [] (New.atom ⟨rfl, rfl⟩)⟩
  · injection e with e; subst e
    obtain ⟨a, xs, B, ex, at_, eA, c, rl⟩ := r
    exact ⟨x, _, rfl, by rw [ex]; exact .inl ⟨xs, at_.sqL, RpL.length _ _ _ rl⟩, k _ H [] (New.atom ⟨rfl, rfl⟩)⟩
  · cases e
def fAbs (t : T) : Option T := match t with
  | .int i => some (.int (if i < 0 then -i else i))
  | _ => none
theorem ct_abs : CallT g (fun xs H Q => ∃ i, xs = [.int i] ∧ Q (.int (if i < 0 then -i else i)) H) (c1 fAbs) := callT1 fun S H t x A u Q r e k => by
  unfold fAbs at e
  split at e
  · injection e with e; subst e
    exact ⟨_, by rw [r.1], k _ H [] (New.atom ⟨rfl, rfl⟩)⟩
  · cases e
def fInt (t : T) : Option T := match t with
  | .int i => some (.int i)
  | .bl b => some (.int (if b then 1 else 0))
  | _ => none
theorem ct_int : CallT g (fun xs H Q => (∃ i, xs = [.int i] ∧ Q (.int i) H) ∨ ∃ k, xs = [.bl k] ∧ Q (.int (if k then 1 else 0)) H) (c1 fInt) := callT1 fun S H t x A u Q r e k => by
  unfold fInt at e
  split at e
  · injection e with e; subst e
    exact .inl ⟨_, by rw [r.1], k _ H [] (New.atom ⟨rfl, rfl⟩)⟩
  · injection e with e; subst e
    exact .inr ⟨_, by rw [r.1], k _ H [] (New.atom ⟨rfl, rfl⟩)⟩
  · cases e
def fMin (t u : T) : Option T := match t, u with
  | .int i, .int j => some (.int (if j < i then j else i))
  | .str i, .str j => some (.str (if ltS j i then j else i))
  | _, _ => none
def fMax (t u : T) : Option T := match t, u with
  | .int i, .int j => some (.int (if j > i then j else i))
  | .str i, .str j => some (.str (if ltS i j then j else i))
  | _, _ => none
theorem ct_min : CallT g (fun xs H Q => (∃ i j, xs = [.int i, .int j] ∧ Q (.int (if j < i then j else i)) H) ∨ (∃ i j, xs = [.str i, .str j] ∧ Q (.str (if ltS j i then j else i)) H)) (c2 fMin) := callT2 fun S H t t' x x' A A' u Q r r' e k => by
  unfold fMin at e
  split at e
  · injection e with e; subst e
    exact .inl ⟨_, _, by rw [r.1, r'.1], k _ H [] (New.atom ⟨rfl, rfl⟩)⟩
  · injection e with e; subst e
    exact .inr ⟨_, _, by rw [r.1, r'.1], k _ H [] (New.atom ⟨rfl, rfl⟩)⟩
  · cases e
theorem ct_max : CallT g (fun xs H Q => (∃ i j, xs = [.int i, .int j] ∧ Q (.int (if j > i then j else i)) H) ∨ (∃ i j, xs = [.str i, .str j] ∧ Q (.str (if ltS i j then j else i)) H)) (c2 fMax) := callT2 fun S H t t' x x' A A' u Q r r' e k => by
  unfold fMax at e
  split at e
  · injection e with e; subst e
    exact .inl ⟨_, _, by rw [r.1, r'.1], k _ H [] (New.atom ⟨rfl, rfl⟩)⟩
  · injection e with e; subst e
    exact .inr ⟨_, _, by rw [r.1, r'.1], k _ H [] (New.atom ⟨rfl, rfl⟩)⟩
  · cases e
def fDivmod (t u : T) : Option T := match t, u with
  | .int i, .int j => if 0 < j ∧ j < 1073741824 then some (.nd .tup [.int (i / j), .int (i % j)]) else none
  | _, _ => none
theorem ct_divmod : CallT g (fun xs H Q => ∃ i j, xs = [.int i, .int j] ∧ CDiv i j ∧ ∀ p, H p = none → Q (.ref p) (upd H p (.tup [.int (i / j), .int (i % j)]))) (c2 fDivmod) := callT2 fun S H t t' x x' A A' u Q r r' e k => by
  unfold fDivmod at e
  split at e
  · split at e
    · rename_i h
      injection e with e; subst e
      refine ⟨_, _, by rw [r.1, r'.1], h, fun p hp => k _ _ [] (New.tupl hp ?_)⟩
      exact ⟨_, _, [], [], rfl, rfl, ⟨rfl, rfl⟩, _, _, [], [], rfl, rfl, ⟨rfl, rfl⟩, rfl, rfl⟩
    · cases e
  · cases e
/-! ### all, any, sum -/
def boolsOf : List T → Option (List Bool)
  | [] => some []
  | .bl b :: ts => (boolsOf ts).map (b :: ·)
  | _ :: _ => none
def intsOf : List T → Option (List Int)
  | [] => some []
  | .int b :: ts => (intsOf ts).map (b :: ·)
  | _ :: _ => none
def strsOf : List T → Option (List Str)
  | [] => some []
  | .str b :: ts => (strsOf ts).map (b :: ·)
  | _ :: _ => none
theorem boolsOf_ok {S : Addr → Prop} {H : Hp} : ∀ (ts : List T) (bs : List Bool) (xs : List V) (A : List Addr), boolsOf ts = some bs → RpL g S H ts xs A → xs = bs.map V.bl
  | [], bs, xs, A, h, r => by injection h with h; subst h; exact r.1
  | t :: ts, bs, xs, A, h, r => by
    obtain ⟨y, ys, A1, A2, e1, e2, r1, r2⟩ := r
    cases t with
    | bl b =>
      have h : (boolsOf ts).map (b :: ·) = some bs := h
      cases q : boolsOf ts with
      | none => rw [q] at h; cases h
      | some cs =>
        rw [q] at h
        injection h with h
        rw [e1, boolsOf_ok ts cs ys A2 q r2, ← h, r1.1]; rfl
    | _ => cases h
theorem intsOf_ok {S : Addr → Prop} {H : Hp} : ∀ (ts : List T) (bs : List Int) (xs : List V) (A : List Addr), intsOf ts = some bs → RpL g S H ts xs A → xs = bs.map V.int
  | [], bs, xs, A, h, r => by injection h with h; subst h; exact r.1
  | t :: ts, bs, xs, A, h, r => by
    obtain ⟨y, ys, A1, A2, e1, e2, r1, r2⟩ := r
    cases t with
    | int b =>
      have h : (intsOf ts).map (b :: ·) = some bs := h
      cases q : intsOf ts with
      | none => rw [q] at h; cases h
      | some cs =>
        rw [q] at h
        injection h with h
        rw [e1, intsOf_ok ts cs ys A2 q r2, ← h, r1.1]; rfl
    | _ => cases h
theorem strsOf_ok {S : Addr → Prop} {H : Hp} : ∀ (ts : List T) (bs : List Str) (xs : List V) (A : List Addr), strsOf ts = some bs → RpL g S H ts xs A → xs = bs.map V.str
  | [], bs, xs, A, h, r => by injection h with h; subst h; exact r.1
  | t :: ts, bs, xs, A, h, r => by
    obtain ⟨y, ys, A1, A2, e1, e2, r1, r2⟩ := r
    cases t with
    | str b =>
      have h : (strsOf ts).map (b :: ·) = some bs := h
      cases q : strsOf ts with
      | none => rw [q] at h; cases h
      | some cs =>
        rw [q] at h
        injection h with h
        rw [e1, strsOf_ok ts cs ys A2 q r2, ← h, r1.1]; rfl
    | _ => cases h
/-- the parts of a list of any kind -/
def kA (t : T) : Option (List T) := match t with
  | .nd (.lst _) ts => some ts
  | .nd .scr ts => some ts
  | _ => none
theorem kA_rep {S : Addr → Prop} {H : Hp} {t : T} {ks : List T} {x : V} {Ax : List Addr} (hk : kA t = some ks) (r : Rp g S H t x Ax) : ∃ p xs B, x = .ref p ∧ SqL g.K H p xs ∧ RpL g S H ks xs B := by
  unfold kA at hk
  split at hk
  · injection hk with hk; subst hk
    obtain ⟨a, xs, B, e, at_, eA, c, r⟩ := r
    exact ⟨a, xs, B, e, at_.sqL, r⟩
  · injection hk with hk; subst hk
    obtain ⟨a, xs, B, e, at_, eA, c, r⟩ := r
    exact ⟨a, xs, B, e, at_.sqS, r⟩
  · cases hk
def fBools (h : List Bool → Bool) (t : T) : Option T := (kA t).bind fun ts => (boolsOf ts).bind fun bs => some (.bl (h bs))
def fSum (t : T) : Option T := (kA t).bind fun ts => (intsOf ts).bind fun bs => some (.int bs.sum)
theorem ct_bools {h : List Bool → Bool} : CallT g (fun vs H Q => ∃ (a : Addr) (bs : List Bool), vs = [V.ref a] ∧ SqL g.K H a (bs.map V.bl) ∧ Q (.bl (h bs)) H) (c1 (fBools h)) := callT1 fun S H t x A u Q r e k => by
  unfold fBools at e
  obtain ⟨ts, e1, e2⟩ := Option.bind_eq_some_iff.mp e
  obtain ⟨bs, e3, e4⟩ := Option.bind_eq_some_iff.mp e2
  injection e4 with e4; subst e4
  obtain ⟨p, xs, B, ex, sq, rl⟩ := kA_rep e1 r
  exact ⟨p, bs, by rw [ex], boolsOf_ok _ _ _ _ e3 rl ▸ sq, k _ H [] (New.atom ⟨rfl, rfl⟩)⟩
theorem ct_sum : CallT g (rSum g.K) (c1 fSum) := callT1 fun S H t x A u Q r e k => by
  unfold fSum at e
  obtain ⟨ts, e1, e2⟩ := Option.bind_eq_some_iff.mp e
  obtain ⟨bs, e3, e4⟩ := Option.bind_eq_some_iff.mp e2
  injection e4 with e4; subst e4
  obtain ⟨p, xs, B, ex, sq, rl⟩ := kA_rep e1 r
  exact ⟨p, bs, by rw [ex], intsOf_ok _ _ _ _ e3 rl ▸ sq, k _ H [] (New.atom ⟨rfl, rfl⟩)⟩
/-! ### list(..), tuple(..) -/
def fList (t : T) : Option T := (kidsI t).map fun ts => .nd (.lst true) ts
theorem ct_list : CallT g (fun xs H Q => ∃ p ys, xs = [.ref p] ∧ (SqL g.K H p ys ∨ SqT g.K H p ys) ∧ ∀ l, H l = none → Q (.ref l) (upd H l (.lst ys))) (c1 fList) := callT1 fun S H t x A u Q r e k => by
  unfold fList at e
  obtain ⟨ts, e1, e2⟩ := Option.map_eq_some_iff.mp e
  subst e2
  obtain ⟨p, xs, ex, sq, rl⟩ := kidsI_rep e1 r
  exact ⟨p, xs, by rw [ex], sq.symm, fun l hl => k _ _ [l] (New.node hl rl)⟩
def fTuple (t : T) : Option T := (kidsI t).map fun ts => .nd .tup ts
theorem ct_tuple : CallT g (fun xs H Q => ∃ p ys, xs = [.ref p] ∧ ((SqL g.K H p ys ∧ ∀ l, H l = none → Q (.ref l) (upd H l (.tup ys))) ∨ (SqT g.K H p ys ∧ Q (.ref p) H))) (c1 fTuple) := callT1 fun S H t x A u Q r e k => by
  unfold fTuple at e
  obtain ⟨ts, e1, e2⟩ := Option.map_eq_some_iff.mp e
  subst e2
  obtain ⟨p, xs, ex, sq, rl⟩ := kidsI_repA e1 r
  refine ⟨p, xs, by rw [ex], ?_⟩
  rcases sq with sq | sq
  · exact .inr ⟨At.sqT sq, k _ H [] (New.atom ⟨p, xs, [], rfl, sq, rfl, .inr (.inl rfl), rl⟩)⟩
  · exact .inl ⟨sq, fun l hl => k _ _ [] (New.tupl hl rl)⟩
/-! ### repr -/
mutual
/-- no great number within -/
def shwT : T → Bool
  | .int i => Nat.blt i.natAbs.log2 1920
  | .nd _ ts => shwL ts
  | _ => true
def shwL : List T → Bool
  | [] => true
  | t :: ts => shwT t && shwL ts
end
mutual
theorem shwT_ok : ∀ t : T, shwT t = true → PyData.showable (toD t) = true ∧ PyData.hasDict (toD t) = false
  | .dead, _ => ⟨rfl, rfl⟩
  | .non, _ => ⟨rfl, rfl⟩
  | .bl _, _ => ⟨rfl, rfl⟩
  | .str _, _ => ⟨rfl, rfl⟩
  | .int i, h => by
    unfold shwT at h
    exact ⟨by unfold toD PyData.showable; exact decide_eq_true (Nat.blt_eq.mp h), rfl⟩
  | .nd k ts, h => by
    unfold shwT at h
    obtain ⟨h1, h2⟩ := shwL_ok ts h
    unfold toD
    split
    · exact ⟨by unfold PyData.showable; exact h1, by unfold PyData.hasDict; exact h2⟩
    · exact ⟨by unfold PyData.showable; exact h1, by unfold PyData.hasDict; exact h2⟩
theorem shwL_ok : ∀ ts : List T, shwL ts = true → PyData.showableAll (toDL ts) = true ∧ PyData.hasDictAll (toDL ts) = false
  | [], _ => ⟨rfl, rfl⟩
  | t :: ts, h => by
    unfold shwL at h
    obtain ⟨h1, h2⟩ := Bool.and_eq_true_iff.mp h
    obtain ⟨a1, a2⟩ := shwT_ok t h1
    obtain ⟨b1, b2⟩ := shwL_ok ts h2
    unfold toDL
    exact ⟨by unfold PyData.showableAll; rw [a1, b1]; rfl, by unfold PyData.hasDictAll; rw [a2, b2]; rfl⟩
end
def reprT (t : T) : Str := (toD t).shown
def fRepr (t : T) : Option T := if okD 60 t && shwT t && Nat.ble (reprT t).length sizeLine then some (.str (reprT t)) else none
theorem ct_repr : CallT g (rRepr g.K) (c1 fRepr) := callT1 fun S H t x A u Q r e k => by
  unfold fRepr at e
  split at e
  · rename_i h
    obtain ⟨h12, h3⟩ := Bool.and_eq_true_iff.mp h
    obtain ⟨h1, h2⟩ := Bool.and_eq_true_iff.mp h12
    injection e with e; subst e
    obtain ⟨a, b, c⟩ := okD_ok t 60 x A h1 r
    obtain ⟨s1, s2⟩ := shwT_ok t h2
    exact ⟨x, toD t, rfl, a, s1, s2, c, Nat.ble_eq.mp h3, k _ H [] (New.atom ⟨rfl, rfl⟩)⟩
  · cases e
/-! ### places -/
def fIxS (a b : T) : Option T := match kids a, b with
  | some ts, .int i => atI ts i
  | _, _ => none
theorem atI_rep {S : Addr → Prop} {H : Hp} {ts : List T} {xs : List V} {A : List Addr} {i : Int} {t : T} (r : RpL g S H ts xs A) (h : atI ts i = some t) : ∃ x B, atI xs i = some x ∧ Rp g S H t x B ∧ B.Sublist A := by
  unfold atI at h ⊢
  rw [RpL.length _ _ _ r] at h
  cases q : ixN xs.length i with
  | none => rw [q] at h; cases h
  | some j =>
    rw [q] at h
    obtain ⟨x, B, h1, h2, h3⟩ := RpL.at ts xs A r j t h
    exact ⟨x, B, h1, h2, h3⟩
theorem opp_ix : OpP g (fun x y H Q => rIxL g.K x y H Q ∨ rIxT g.K x y H Q) fIxS := fun S H a b x y Ax Ay t Q ra rb e q => by
  unfold fIxS at e
  split at e
  · rename_i ts i ek
    unfold kids at ek
    split at ek
    · injection ek with ek; subst ek
      obtain ⟨p, xs, B, ex, at_, eA, c, r⟩ := ra
      obtain ⟨z, C, h1, h2, h3⟩ := atI_rep r e
      exact .inr ⟨p, xs, i, z, ex, rb.1, At.sqT at_, h1, q z C h2 (h3.trans (by rw [eA]; exact List.Sublist.refl _))⟩
    · injection ek with ek; subst ek
      obtain ⟨p, xs, B, ex, at_, eA, c, r⟩ := ra
      obtain ⟨z, C, h1, h2, h3⟩ := atI_rep r e
      exact .inl ⟨p, xs, i, z, ex, rb.1, at_.sqL, h1, q z C h2 (h3.trans (by rw [eA]; split <;> first | exact List.sublist_cons_self _ _ | exact List.Sublist.refl _))⟩
    · injection ek with ek; subst ek
      obtain ⟨p, xs, B, ex, at_, eA, c, r⟩ := ra
      obtain ⟨z, C, h1, h2, h3⟩ := atI_rep r e
      exact .inl ⟨p, xs, i, z, ex, rb.1, at_.sqS, h1, q z C h2 (h3.trans (by rw [eA]; exact List.Sublist.refl _))⟩
    · cases ek
  · cases e
theorem ixr_seq : IxR X (fun x y H Q => rIxL X.K x y H Q ∨ rIxT X.K x y H Q) := ix_list.or ix_tup
def fIxT (a b : T) : Option T := match a, b with
  | .str z, .int i => if z.length ≤ sizeLine then (atI z.cps.toList i).map fun c => .str ⟨#[c]⟩ else none
  | _, _ => none
theorem opp_ixs : OpP g rIxS fIxT := fun S H a b x y Ax Ay t Q ra rb e q => by
  unfold fIxT at e
  split at e
  · split at e
    · rename_i h
      obtain ⟨c, e1, e2⟩ := Option.map_eq_some_iff.mp e
      subst e2
      exact ⟨_, _, c, ra.1, rb.1, h, e1, q _ [] ⟨rfl, rfl⟩ (List.nil_sublist _)⟩
    · cases e
  · cases e
end
end MI
/-! MiU: slices, names of the module, several targets, augmented assignment. -/
namespace MI
open PySem PySem.Spec PyProof.Rows L2
section
variable {g : Gc} {X : Cx} {a b c : Expr} {fa fb : M T} {e1 e2 e3 b1 b2 : List Nat} {pos p2 : Pos}
/-! ### slices -/
def TMo (g : Gc) (f : M (Option Int)) (eff : List Nat) : TO := fun σ H Q => ∃ S Ts A o Ts', SR g S H σ Ts A ∧ f Ts = some (o, Ts') ∧
  ∀ H' S' A', SR g S' H' σ Ts' A' → Po S H A S' H' A' → Stb eff H Ts A H' Ts' A' → Q o H'
def POm (g : Gc) (X : Cx) (e : Option Expr) (f : M (Option Int)) (eff : List Nat) : Prop := PO X e (TMo g f eff)
theorem PO.imp {X : Cx} {e : Option Expr} {t t' : TO} (h : PO X e t) (i : ∀ σ H Q, t' σ H Q → t σ H Q) : PO X e t' := ⟨fun pins s σ H Q I q => h.run pins s σ H Q I (i σ H Q q)⟩
def mNoP : M (Option Int) := ret none
def iOf (t : T) : Option Int := match t with
  | .int i => some i
  | _ => none
def mPt (fa : M T) : M (Option Int) := bnd fa fun t => bnd (lft (iOf t)) fun i => ret (some i)
theorem tmo_none : POm g X none mNoP [] := PO.imp po_none fun σ H Q ⟨S, Ts, A, o, Ts', R, e, k⟩ => by
  obtain ⟨rfl, rfl⟩ := ret_some e
  exact k H S A R Po.refl Stb.refl
theorem tmo_some (ha : PEm g X a fa e1 b1) : POm g X (some a) (mPt fa) e1 := PO.imp (po_some ha) fun σ H Q ⟨S, Ts, A, o, Ts', R, e, k⟩ => by
  obtain ⟨t, Ts1, q1, q2⟩ := bnd_some e
  obtain ⟨i, Ts2, q3, q4⟩ := bnd_some q2
  obtain ⟨q5, q6⟩ := lft_some q3
  obtain ⟨q7, q8⟩ := ret_some q4
  subst q6; subst q7; subst q8
  refine ⟨S, Ts, A, t, _, R, q1, fun x H' S' A' Ax R' rx o p s => ⟨i, ?_, k H' S' A' R' p s⟩⟩
  unfold iOf at q5
  split at q5
  · injection q5 with q5; rw [← q5]; exact rx.1
  · cases q5
def SlT (g : Gc) (r : V → Option Int → Option Int → Hp → VK → Prop) (f : T → Option Int → Option Int → Option T) : Prop := ∀ S H a x Ax lo hi t Q, Rp g S H a x Ax → f a lo hi = some t → (∀ z H' Az, New g S H H' t z Az → Q z H') → r x lo hi H Q
def cutT {α : Type} (xs : List α) (lo hi : Option Int) : List α := (xs.drop (HT.sIx xs.length 0 lo)).take (HT.sIx xs.length xs.length hi - HT.sIx xs.length 0 lo)
def fCut (a : T) (lo hi : Option Int) : Option T := match a with
  | .nd .tup ts => if immL ts then some (.nd .tup (cutT ts lo hi)) else none
  | .nd (.lst _) ts => if immL ts then some (.nd (.lst true) (cutT ts lo hi)) else none
  | .nd .scr ts => if immL ts then some (.nd (.lst true) (cutT ts lo hi)) else none
  | .str z => if z.length ≤ sizeLine then some (.str (cutS z lo hi)) else none
  | _ => none
theorem RpL.drop {S : Addr → Prop} {H : Hp} : ∀ (n : Nat) (ts : List T) (xs : List V), RpL g S H ts xs [] → RpL g S H (ts.drop n) (xs.drop n) []
  | 0, ts, xs, r => r
  | n + 1, [], xs, r => by rw [r.1]; exact ⟨rfl, rfl⟩
  | n + 1, t :: ts, xs, r => by
    obtain ⟨y, ys, A1, A2, h1, h2, r1, r2⟩ := r
    obtain ⟨rfl, rfl⟩ := List.append_eq_nil_iff.mp h2.symm
    rw [h1]
    exact RpL.drop n ts ys r2
theorem RpL.take0 {S : Addr → Prop} {H : Hp} : ∀ (n : Nat) (ts : List T) (xs : List V), RpL g S H ts xs [] → RpL g S H (ts.take n) (xs.take n) []
  | 0, ts, xs, r => ⟨rfl, rfl⟩
  | n + 1, [], xs, r => by rw [r.1]; exact ⟨rfl, rfl⟩
  | n + 1, t :: ts, xs, r => by
    obtain ⟨y, ys, A1, A2, h1, h2, r1, r2⟩ := r
    obtain ⟨rfl, rfl⟩ := List.append_eq_nil_iff.mp h2.symm
    rw [h1]
    exact ⟨y, ys.take n, [], [], rfl, rfl, r1, RpL.take0 n ts ys r2⟩
theorem RpL.cut {S : Addr → Prop} {H : Hp} {ts : List T} {xs : List V} {lo hi : Option Int} (r : RpL g S H ts xs []) : RpL g S H (cutT ts lo hi) (cutV xs lo hi) [] := by
  unfold cutT cutV
  rw [RpL.length _ _ _ r]
  exact RpL.take0 _ _ _ (RpL.drop _ _ _ r)
def rCut (K : PySem.W.Frag) : V → Option Int → Option Int → Hp → VK → Prop := fun x lo hi H Q => rSlL K x lo hi H Q ∨ (rSlA K x lo hi H Q ∨ rSlS x lo hi H Q)
theorem sl_cut : SlR X (rCut X.K) := sl_list.or (sl_tupA.or sl_str)
theorem slt_cut : SlT g (rCut g.K) fCut := fun S H a x Ax lo hi t Q ra e q => by
  unfold fCut at e
  split at e
  · split at e
    · rename_i hi'
      injection e with e; subst e
      obtain ⟨p, xs, B, ex, at_, eA, c, r⟩ := ra
      have r0 := r.imm_one hi'
      refine .inr (.inl ⟨p, xs, ex, At.sqT at_, fun hw => ?_, fun hw l hl => q _ _ [] (New.tupl hl r0.cut)⟩)
      have e0 : cutV xs lo hi = xs := by
        unfold cutV
        rw [hw.1, hw.2, List.drop_zero, Nat.sub_zero, List.take_length]
      have rc := r0.cut (lo := lo) (hi := hi)
      rw [e0] at rc
      exact q _ H [] (New.atom ⟨p, xs, [], rfl, at_, rfl, .inr (.inl rfl), rc⟩)
    · cases e
  · split at e
    · rename_i hi'
      injection e with e; subst e
      obtain ⟨p, xs, B, ex, at_, eA, c, r⟩ := ra
      exact .inl ⟨p, xs, ex, at_.sqL, fun l hl => q _ _ [l] (New.node hl (r.imm_one hi').cut)⟩
    · cases e
  · split at e
    · rename_i hi'
      injection e with e; subst e
      obtain ⟨p, xs, B, ex, at_, eA, c, r⟩ := ra
      exact .inl ⟨p, xs, ex, at_.sqS, fun l hl => q _ _ [l] (New.node hl (r.imm_one hi').cut)⟩
    · cases e
  · split at e
    · rename_i h
      injection e with e; subst e
      exact .inr (.inr ⟨_, ra.1, h, q _ H [] (New.atom ⟨rfl, rfl⟩)⟩)
    · cases e
  · cases e
def mSl (f : T → Option Int → Option Int → Option T) (fa : M T) (fl fh : M (Option Int)) : M T := bnd fa fun t => bnd fl fun l => bnd fh fun h => lft (f t l h)
theorem tm_slice {lo hi : Option Expr} {fl fh : M (Option Int)} {r : V → Option Int → Option Int → Hp → VK → Prop} {f : T → Option Int → Option Int → Option T} (hr : SlR X r) (hf : SlT g r f) (ha : PEm g X a fa e1 b1) (hl : POm g X lo fl e2) (hh : POm g X hi fh e3) (d : ∀ j ∈ b1, j ∉ e2 ++ e3 := by decide) :
    PEm g X (.Subscript a (.Slice lo hi none p2) pos) (mSl f fa fl fh) (e1 ++ (e2 ++ e3)) [] := PE.imp (pe_slice hr ha hl hh) fun σ H Q h => by
  obtain ⟨S, Ts, A, t, Ts', R, q0, k⟩ := h
  obtain ⟨ta, Ts1, ea, q1⟩ := bnd_some q0
  obtain ⟨l, Ts2, el, q2⟩ := bnd_some q1
  obtain ⟨hh', Ts3, eh, q3⟩ := bnd_some q2
  obtain ⟨ef, eT⟩ := lft_some q3
  subst eT
  refine ⟨S, Ts, A, ta, Ts1, R, ea, fun x H1 S1 A1 Ax R1 r1 o1 p1 s1 => ⟨S1, Ts1, A1, l, Ts2, R1, el, fun H2 S2 A2 R2 p2 s2 => ⟨S2, Ts2, A2, hh', _, R2, eh, fun H3 S3 A3 R3 p3 s3 => ?_⟩⟩⟩
  have p23 := p2.trans R1 p3
  have s23 := s2.trans s3
  have r3 := r1.held R1 o1 p23 s23 d
  refine hf S3 H3 ta x Ax l hh' t Q r3 ef fun z H4 Az n => ?_
  have o : Ow [] H3 A3 S3 A3 Az := Ow.of_new R3 n
  have p4 := p1.trans R p23
  have s5 := (s1.trans s23).trans (Stb.ext (eff := []) (Ts := Ts') (A := A3) n.ext)
  rw [List.append_nil] at s5
  exact k z H4 S3 A3 Az (R3.ext n.ext) n.rep (o.rebase p4) (p4.trans R (Po.ext n.ext)) s5
/-! ### names of the module -/
theorem tm_glob {x : Str} {v : V} {u : Value} {t : T} (hg : Gl X x) (hm : X.mg x = some u) (r : RelV v u) (hr : ∀ S H, Rp g S H t v []) (hd : (x == ("__debug__" : Str)) = false := by decide) : PEm g X (.Name x pos) (mC t) [] [] := tm_c (pe_glob hg hm r hd) hr
/-- the value that a tree of the written part is, its tuples included -/
inductive Wr (K : PySem.W.Frag) : T → V → Prop where
  | non : Wr K .non .non
  | bl (b : Bool) : Wr K (.bl b) (.bl b)
  | int (i : Int) : Wr K (.int i) (.int i)
  | str (s : Str) : Wr K (.str s) (.str s)
/-! ### a, b = x, y -/
theorem SR.puts {S : Addr → Prop} {H : Hp} {σ : L2.St} {Ts Ts' : List T} {A : Nat → List Addr} {i : Nat} {t : T} {v : V} {Av : List Addr} (R : SR g S H σ Ts A) (q : mPut i t Ts = some ((), Ts')) (r : Rp g S H t v Av) (nd : Av.Nodup) (dj : ∀ a ∈ Av, ¬ S a ∧ ∀ i, a ∉ A i) :
    ∃ A', SR g S H (σ.set i (some v)) Ts' A' ∧ (∀ k, ∀ a ∈ A' k, (∃ j, a ∈ A j) ∨ a ∈ Av) ∧ ∀ j, j ≠ i → slot Ts' j = slot Ts j ∧ A' j = A j := by
  unfold mPut at q
  split at q
  · rename_i hi
    injection q with q
    injection q with _ q
    subst q
    refine ⟨_, R.put hi r nd dj, fun k a ha => ?_, fun j hj => ⟨slot_set_ne hj, if_neg hj⟩⟩
    split at ha
    · exact .inr ha
    · exact .inl ⟨k, ha⟩
  · cases q
theorem par_r {i j : Nat} {fs : M (List T)} (D : Ends) (σ : L2.St) (H : Hp) (h : TSm g (mPar i j fs) [i, j] (e1 ++ [i, j]) D σ H) : tPar i j (TMs g fs e1 []) D σ H := by
  obtain ⟨S, Ts, A, fl, Ts', R, q, k⟩ := h
  obtain ⟨ts, Ts1, q1, q2⟩ := bnd_some q
  obtain ⟨_, Ts2, q3, q4⟩ := bnd_some q2
  obtain ⟨h1, h2⟩ := ret_some q4
  subst h1; subst h2
  refine ⟨S, Ts, A, ts, Ts1, R, q1, fun xs H1 S1 A1 Ax R1 rx o p s => ?_⟩
  cases ts with
  | nil => cases q3
  | cons t ts =>
    obtain ⟨_, Ts3, q5, q6⟩ := bnd_some q3
    cases ts with
    | nil => cases q6
    | cons u ts =>
      obtain ⟨_, Ts4, q7, q8⟩ := bnd_some q6
      cases ts with
      | cons _ _ => cases q8
      | nil =>
        obtain ⟨_, hh⟩ := ret_some q8
        subst hh
        obtain ⟨y, ys, B1, B2, y1, y2, r1, r2⟩ := rx
        obtain ⟨z, zs, B3, B4, z1, z2, r3, r4⟩ := r2
        obtain ⟨w1, w2⟩ := r4
        subst w1; subst w2; subst z1; subst y1
        rw [List.append_nil] at z2
        subst z2; subst y2
        obtain ⟨nd1, nd2, nd3⟩ := List.nodup_append.mp (o.nd rfl)
        have dj : ∀ a ∈ B1 ++ B2, ¬ S1 a ∧ ∀ i, a ∉ A1 i := fun a ha => ⟨o.ns a ha, fun i => o.dj i (fun z => nomatch z) a ha⟩
        obtain ⟨A2, R2, n2, st2⟩ := R1.puts q5 r1 nd1 fun a ha => dj a (List.mem_append_left _ ha)
        obtain ⟨A3, R3, n3, st3⟩ := R2.puts q7 r3 nd2 fun a ha => ⟨(dj a (List.mem_append_right _ ha)).1, fun i hi => by
          rcases n2 i a hi with ⟨j, hj⟩ | h
          · exact (dj a (List.mem_append_right _ ha)).2 j hj
          · exact nd3 a h a ha rfl⟩
        refine ⟨y, z, rfl, k _ H1 S1 A3 (fun m hm => ?_) R3 ⟨p.keep, p.sub, p.snew, fun m a ha => ?_⟩ fun m hm => ?_⟩
        · rw [List.getElem?_set_ne (fun h => hm (by simp [h])), List.getElem?_set_ne (fun h => hm (by simp [h]))]
        · rcases n3 m a ha with ⟨j', hj⟩ | h
          · rcases n2 j' a hj with ⟨j2, hj2⟩ | h
            · exact p.anew j2 a hj2
            · exact o.new a (List.mem_append_left _ h)
          · exact o.new a (List.mem_append_right _ h)
        · have m1 : m ≠ i := fun h => hm (by simp [h])
          have m2 : m ≠ j := fun h => hm (by simp [h])
          obtain ⟨x1, x2, x3⟩ := s m fun h => hm (List.mem_append_left _ h)
          obtain ⟨u1, u2⟩ := st2 m m1
          obtain ⟨v1, v2⟩ := st3 m m2
          exact ⟨(v1.trans u1).trans x1, (v2.trans u2).trans x2, x3⟩
theorem ts_par {i j : Nat} {st : Stmt} {fs : M (List T)} (h : PS X st (tPar i j (TMs g fs e1 []))) : PSm g X st (mPar i j fs) [i, j] (e1 ++ [i, j]) := PS.imp h par_r
end
end MI
/-! MiV: place[i] = value, augmented assignment. -/
namespace MI
open PySem PySem.Spec PyProof.Rows L2
section
variable {g : Gc} {X : Cx} {o b : Expr} {fa fk : M T} {mp : M (List Nat)} {e1 e2 e3 b1 b3 : List Nat} {pos p2 : Pos} {i : Nat}
def rSt : V → List V → Hp → VK → Prop := fun x xs H Q => ∃ iv v, xs = [iv, v] ∧ rSetL x iv v H fun H' => Q .non H'
def fSt (n : T) (args : List T) : Option (T × T) := match n, args with
  | .nd (.lst true) ts, [.int k, v] => (match ixN ts.length k with
    | some j => some (.non, .nd (.lst true) (ts.set j v))
    | none => none)
  | _, _ => none
theorem ixN_lt {n : Nat} {k : Int} {j : Nat} (h : ixN n k = some j) : j < n := by
  unfold ixN at h
  grind
theorem mut_st : MutT g rSt fSt := fun S H a n B0 args xs Ag res n' Q rn ho ra nd nS ef k => by
  unfold fSt at ef
  split at ef
  · rename_i ts kk v
    split at ef
    · rename_i j hj
      injection ef with ef
      injection ef with h1 h2
      subst h1; subst h2
      obtain ⟨a', xs0, B, ex, at_, eA, c, rl⟩ := rn
      injection ex with ex
      subst ex
      have eA : a :: B0 = a :: B := eA
      injection eA with _ eA
      subst eA
      have at_ : H a = some (.lst xs0) := at_
      have hl := RpL.length _ _ _ rl
      have hjl := ixN_lt hj
      obtain ⟨z, B1, B2, B3, hz, eB, rz, r1, r3⟩ := RpL.split ts xs0 B0 rl j ts[j] (by simp [hjl])
      obtain ⟨iv, ys, C1, C2, y1, y2, w1, w2⟩ := ra
      obtain ⟨vv, C, z1, w3⟩ := w2.get1
      subst z1
      have hC : RpL g S H [v] [vv] C2 := w2
      have w3 : Rp g S H v vv C2 := by
        obtain ⟨q, qs, D1, D2, d1, d2, d3, d4⟩ := hC
        injection d1 with d1 d5
        subst d1
        rw [d2, d4.2, List.append_nil]; exact d3
      have eC : C1 = [] := w1.2
      subst eC
      rw [List.nil_append] at y2
      subst y2
      refine ⟨iv, vv, y1, a, xs0, kk, j, rfl, w1.1, at_, by rw [← hl]; exact hj, ?_⟩
      -- the other nodes stay
      obtain ⟨na, nd2⟩ := List.nodup_cons.mp nd
      have kp : ∀ {ts : List T} {xs : List V} {D : List Addr}, RpL g S H ts xs D → (∀ b ∈ D, b ≠ a) → RpL g S (upd H a (.lst (xs0.set j vv))) ts xs D := fun r hD => RpL.keep (M := fun b => b = a) (fun b o e n => by rw [upd_ne n]; exact e) (fun b e => by rw [e, at_]; trivial) (fun b hb e => nS (e ▸ hb)) (fun _ h => h) _ _ _ r hD
      have kp1 : ∀ {t : T} {x : V} {D : List Addr}, Rp g S H t x D → (∀ b ∈ D, b ≠ a) → Rp g S (upd H a (.lst (xs0.set j vv))) t x D := fun r hD => Rp.keep (M := fun b => b = a) (fun b o e n => by rw [upd_ne n]; exact e) (fun b e => by rw [e, at_]; trivial) (fun b hb e => nS (e ▸ hb)) (fun _ h => h) _ _ _ r hD
      have nB : ∀ b ∈ B0, b ≠ a := fun b hb e => na (List.mem_append_left _ (e ▸ hb))
      have nC : ∀ b ∈ Ag, b ≠ a := fun b hb e => na (List.mem_append_right _ (e ▸ hb))
      have hjx : j < xs0.length := by rw [← hl]; exact hjl
      have rj : RpL g S (upd H a (.lst (xs0.set j vv))) (ts.set j v) (xs0.set j vv) (B1 ++ (Ag ++ B3)) := by
        refine RpL.join hjl (by simp [hjx]) (by rw [List.length_set]; exact hl) ?_ (kp1 w3 nC) ?_
        · have : (xs0.set j vv).take j = xs0.take j := by rw [List.take_set_of_le (Nat.le_refl _)]
          rw [this]
          exact kp r1 fun b hb => nB b (by rw [eB]; exact List.mem_append_left _ hb)
        · have : (xs0.set j vv).drop (j + 1) = xs0.drop (j + 1) := by rw [List.drop_set_of_lt (Nat.lt_succ_self _)]
          rw [this]
          exact kp r3 fun b hb => nB b (by rw [eB]; exact List.mem_append_right _ (List.mem_append_right _ hb))
      have inB : ∀ b ∈ B1 ++ (Ag ++ B3), b ∈ B0 ∨ b ∈ Ag := fun b hb => by
        rcases List.mem_append.mp hb with h | h
        · exact .inl (by rw [eB]; exact List.mem_append_left _ h)
        · rcases List.mem_append.mp h with h | h
          · exact .inr h
          · exact .inl (by rw [eB]; exact List.mem_append_right _ (List.mem_append_right _ h))
      refine k .non (.lst (xs0.set j vv)) (B1 ++ (Ag ++ B3)) ⟨a, _, _, rfl, upd_same, rfl, .inl rfl, rj⟩ rfl ⟨rfl, rfl⟩ (List.nodup_cons.mpr ⟨fun h => ?_, ?_⟩) inB
      · rcases inB a h with h | h
        · exact nB a h rfl
        · exact nC a h rfl
      · obtain ⟨n1, n2, n3⟩ := List.nodup_append.mp nd2
        rw [eB] at n1 n3
        obtain ⟨m1, m2, m3⟩ := List.nodup_append.mp n1
        obtain ⟨_, l2, l3⟩ := List.nodup_append.mp m2
        refine List.nodup_append.mpr ⟨m1, List.nodup_append.mpr ⟨n2, l2, fun x hx y hy e => ?_⟩, fun x hx y hy e => ?_⟩
        · exact n3 y (List.mem_append_right _ (List.mem_append_right _ hy)) x hx e.symm
        · rcases List.mem_append.mp hy with h | h
          · exact n3 x (List.mem_append_left _ hx) y h e
          · exact m3 x hx y (List.mem_append_right _ h) e
    · cases ef
  · cases ef
/-- the store at a place that is one's own -/
def wr (i : Nat) (p : List Nat) (k v : T) : M Fl := fun Ts => match subT p (slot Ts i) with
  | some n => if n.ownNd then (match fSt n [k, v] with
    | some (_, n') => some (.nx, Ts.set i (setT p (slot Ts i) n'))
    | none => none) else none
  | none => none
def mSetI (i : Nat) (mp : M (List Nat)) (fk fa : M T) : M Fl := bnd fa fun v => bnd mp fun p => bnd fk fun k => wr i p k v
theorem wr_some {p : List Nat} {k v : T} {Ts Ts' : List T} {fl : Fl} (h : wr i p k v Ts = some (fl, Ts')) : ∃ n r n', subT p (slot Ts i) = some n ∧ n.ownNd = true ∧ fSt n [k, v] = some (r, n') ∧ fl = .nx ∧ Ts' = Ts.set i (setT p (slot Ts i) n') := by
  unfold wr at h
  split at h
  · rename_i n hn
    split at h
    · rename_i ho
      split at h
      · rename_i r n' hf
        injection h with h
        injection h with h1 h2
        exact ⟨n, r, n', hn, ho, hf, h1.symm, h2.symm⟩
      · cases h
    · cases h
  · cases h
theorem setI_r (d : i ∉ e3) (D : Ends) (σ : L2.St) (H : Hp) (h : TSm g (mSetI i mp fk fa) [] ((e1 ++ (e2 ++ e3)) ++ [i]) D σ H) : tAsg (TM g fa e1 []) (gSub (TL g mp e2 i) (TM g fk e3 b3) rSetL) D σ H := by
  obtain ⟨S, Ts, A, fl, Ts', R, q, k⟩ := h
  obtain ⟨v, Ts1, q1, q2⟩ := bnd_some q
  obtain ⟨p, Ts2, q3, q4⟩ := bnd_some q2
  obtain ⟨kk, Ts3, q5, q6⟩ := bnd_some q4
  obtain ⟨n, r0, n', hn, ho, hf, h1, h2⟩ := wr_some q6
  subst h1; subst h2
  refine ⟨S, Ts, A, v, Ts1, R, q1, fun x H1 S1 A1 Ax R1 rx o1 p1 s1 => ⟨S1, Ts1, A1, p, Ts2, R1, q3, fun y H2 S2 A2 x0 u B R2 hx pl p2 s2 => ⟨S2, Ts2, A2, kk, Ts3, R2, q5, fun z H3 S3 A3 Az R3 rz oz p3 s3 => ?_⟩⟩⟩
  have pl3 := pl_held R2 pl p3 s3 d
  have hu : u = n := by
    have := (Pl.rep _ _ _ _ _ _ _ pl3).2.2
    rw [hn] at this
    injection this with this
    exact this.symm
  subst hu
  have p23 := p2.trans R1 p3
  have s23 := s2.trans s3
  have hc := Rp.cells _ _ _ rx
  have rx3 := rx.held R1 o1 p23 s23 fun j hj => nomatch hj
  have ox3 := o1.held R1 R3 hc p23 s23 fun j hj => nomatch hj
  have kk0 : Az = [] ∧ Rp g S3 H3 kk z [] := by
    unfold fSt at hf
    split at hf
    · rename_i heq
      injection heq with heq _
      subst heq
      exact ⟨rz.2, ⟨rz.1, rfl⟩⟩
    · cases hf
  have ra : RpL g S3 H3 [kk, v] [z, x] Ax := ⟨z, [x], [], Ax, rfl, rfl, kk0.2, RpL.one rx3⟩
  have fin := mut_fin (Q := fun x' H' => D.nx σ H') mut_st R R3 hx pl3 ra ox3 (p1.trans R p23) (s1.trans s23) ho hf fun x' H' S' A' Ax' R' rx' o' p' s' => k σ H' S' A' (fun _ _ => rfl) R' p' s'
  obtain ⟨iv, vv, e, w⟩ := fin
  injection e with e1' e2'
  injection e2' with e3' _
  subst e1'; subst e3'
  exact w
theorem ts_setI (ha : PEm g X b fa e1 []) (hp : PLm g X o mp e2 i) {k : Expr} (hk : PEm g X k fk e3 b3) (d : i ∉ e3 := by decide)
    (hset : ∀ v, assign (.Subscript o k p2) X.env v = (do let ov ← holding [v] (eval o X.env); let iv ← holding [v, ov] (eval k X.env); standAt p2; holding [v, ov, iv] (setItem ov iv v); release [v, ov, iv] []) := by intro _; rfl)
    (hs : swapsWithSole [.Subscript o k p2] b pos.line X.env = pure false := by rfl) (hw : swappedStores [.Subscript o k p2] b X.env = pure none := by rfl) (h1 : (assignEach [.Subscript o k p2] X.env).map (·.2) = [assign (.Subscript o k p2) X.env] := by rfl) :
    PSm g X (.Assign [.Subscript o k p2] b pos) (mSetI i mp fk fa) [] ((e1 ++ (e2 ++ e3)) ++ [i]) := PS.imp (ps_asg ha (pg_sub hp hk set_list hset) hs hw h1) (setI_r d)
/-! ### place[i], name = a pair -/
def mSetP (i : Nat) (mp : M (List Nat)) (fk : M T) (j : Nat) (fa : M T) : M Fl := bnd fa fun t => match t with
  | .nd .tup [v, w] => if v.imm && w.imm then (bnd mp fun p => bnd fk fun k => bnd (wr i p k v) fun _ => bnd (mPut j w) fun _ => ret .nx) else fun _ => none
  | _ => fun _ => none
theorem setP_r {j : Nat} (d : i ∉ e3) (hK : g.K = X.K) (D : Ends) (σ : L2.St) (H : Hp) (h : TSm g (mSetP i mp fk j fa) [j] (e1 ++ ((e2 ++ e3) ++ [i]) ++ [j]) D σ H) : tAsg (TM g fa e1 []) (gTup X.K 2 (gCons (gSub (TL g mp e2 i) (TM g fk e3 b3) rSetL) (gCons (gName j) gNil))) D σ H := by
  obtain ⟨S, Ts, A, fl, Ts', R, q, k⟩ := h
  obtain ⟨t, Ts1, q1, q2⟩ := bnd_some q
  split at q2
  · rename_i v w
    split at q2
    · rename_i him
      obtain ⟨hv, hw⟩ := Bool.and_eq_true_iff.mp him
      obtain ⟨p, Ts2, q3, q4⟩ := bnd_some q2
      obtain ⟨kk, Ts3, q5, q6⟩ := bnd_some q4
      obtain ⟨fl0, Ts4, q7, q8⟩ := bnd_some q6
      obtain ⟨_, Ts5, q9, q10⟩ := bnd_some q8
      obtain ⟨h1, h2⟩ := ret_some q10
      subst h1; subst h2
      obtain ⟨n, r0, n', hn, ho, hf, _, h2⟩ := wr_some q7
      subst h2
      refine ⟨S, Ts, A, _, Ts1, R, q1, fun x H1 S1 A1 Ax R1 rx o1 p1 s1 => ?_⟩
      obtain ⟨a, xs, B, ex, at_, eA, c, rl⟩ := rx
      obtain ⟨x1, ys, B1, B2, y1, y2, r1, r2⟩ := rl
      obtain ⟨x2, zs, B3, B4, z1, z2, r3, r4⟩ := r2
      obtain ⟨w1, w2⟩ := r4
      subst w1; subst w2; subst z1; subst y1
      have i1 := Rp.imm_nil _ _ _ r1 hv
      have i2 := Rp.imm_nil _ _ _ r3 hw
      subst i1; subst i2
      refine ⟨a, [x1, x2], ex, hK ▸ At.sqT at_, rfl, x1, [x2], rfl, S1, Ts1, A1, p, Ts2, R1, q3, fun y H2 S2 A2 x0 u B R2 hx pl p2 s2 => ⟨S2, Ts2, A2, kk, Ts3, R2, q5, fun z H3 S3 A3 Az R3 rz oz p3 s3 => ?_⟩⟩
      have pl3 := pl_held R2 pl p3 s3 d
      have hu : u = n := by
        have := (Pl.rep _ _ _ _ _ _ _ pl3).2.2
        rw [hn] at this
        injection this with this
        exact this.symm
      subst hu
      have p23 := p2.trans R1 p3
      have s23 := s2.trans s3
      have rx3 : Rp g S3 H3 v x1 [] := Rp.held (bo := []) (H := H) (A := A) R1 r1 Ow.nil p23 s23 fun j hj => nomatch hj
      have kk0 : Rp g S3 H3 kk z [] := by
        unfold fSt at hf
        split at hf
        · rename_i heq
          injection heq with heq _
          subst heq
          exact ⟨rz.1, rfl⟩
        · cases hf
      have ra : RpL g S3 H3 [kk, v] [z, x1] [] := ⟨z, [x1], [], [], rfl, rfl, kk0, RpL.one rx3⟩
      have fin := mut_fin (Q := fun x' H' => ∃ v' r', [x2] = v' :: r' ∧ gName j v' σ H' fun σ' H'' => gNil r' σ' H'' D.nx) mut_st R1 R3 hx pl3 ra Ow.nil p23 s23 ho hf fun x' H' S' A' Ax' R' rx' o' p' s' => by
        refine ⟨x2, [], rfl, ?_⟩
        have rw4 : Rp g S' H' w x2 [] := Rp.held (bo := []) (H := H) (A := A) R1 r3 Ow.nil p' s' fun j hj => nomatch hj
        obtain ⟨A5, R5, n5, st5⟩ := R'.puts q9 rw4 List.nodup_nil fun _ z => nomatch z
        have pp := p1.trans R p'
        have ss := s1.trans s'
        refine ⟨rfl, k _ H' S' A5 (fun m hm => ?_) R5 ⟨pp.keep, pp.sub, pp.snew, fun m a ha => ?_⟩ fun m hm => ?_⟩
        · rw [List.getElem?_set_ne (fun h => hm (by simp [h]))]
        · rcases n5 m a ha with ⟨j', hj⟩ | h
          · exact pp.anew j' a hj
          · exact nomatch h
        · have m2 : m ≠ j := fun h => hm (by simp [h])
          obtain ⟨x1', x2', x3'⟩ := ss m fun h => hm (List.mem_append_left _ h)
          obtain ⟨u1, u2⟩ := st5 m m2
          exact ⟨u1.trans x1', u2.trans x2', x3'⟩
      obtain ⟨iv, vv, e, w⟩ := fin
      injection e with e1' e2'
      injection e2' with e3' _
      subst e1'; subst e3'
      exact w
    · cases q2
  · cases q2
end
end MI
/-! MiW: more assignments. -/
namespace MI
open PySem PySem.Spec PyProof.Rows L2
section
variable {g : Gc} {X : Cx} {o b : Expr} {fa fk : M T} {mp : M (List Nat)} {e1 e2 e3 b1 b3 : List Nat} {pos p2 p3 p4 : Pos} {i j l : Nat}
theorem ts_setP {kk : Nat} {x : Str} {k : Expr} (hK : g.K = X.K) (hc : X.calm = true) (ha : PEm g X b fa e1 []) (hp : PLm g X o mp e2 i) (hk : PEm g X k fk e3 b3) (hx : PG X (.Name x p3) (gName j)) (d : i ∉ e3 := by decide)
    (hset : ∀ v, assign (.Subscript o k p2) X.env v = (do let ov ← holding [v] (eval o X.env); let iv ← holding [v, ov] (eval k X.env); standAt p2; holding [v, ov, iv] (setItem ov iv v); release [v, ov, iv] []) := by intro _; rfl)
    (hg1 : (assignEach [.Subscript o k p2, .Name x p3] X.env).map (·.2) = assign (.Subscript o k p2) X.env :: (assignEach [.Name x p3] X.env).map (·.2) := by rfl) (hg2 : (assignEach [.Name x p3] X.env).map (·.2) = assign (.Name x p3) X.env :: (assignEach [] X.env).map (·.2) := by rfl)
    (hn : (assignEach [.Subscript o k p2, .Name x p3] X.env).length = 2 := by rfl) (hst : (assignEach [.Subscript o k p2, .Name x p3] X.env).findIdx? (·.1) = none := by rfl)
    (hs : swapsWithSole [.Tuple [.Subscript o k p2, .Name x p3] kk p4] b pos.line X.env = pure false := by rfl) (hw : swappedStores [.Tuple [.Subscript o k p2, .Name x p3] kk p4] b X.env = pure none := by rfl) (h1 : (assignEach [.Tuple [.Subscript o k p2, .Name x p3] kk p4] X.env).map (·.2) = [assign (.Tuple [.Subscript o k p2, .Name x p3] kk p4) X.env] := by rfl) :
    PSm g X (.Assign [.Tuple [.Subscript o k p2, .Name x p3] kk p4] b pos) (mSetP i mp fk j fa) [j] (e1 ++ ((e2 ++ e3) ++ [i]) ++ [j]) :=
  PS.imp (ps_asg ha (pg_tup hc (pgs_cons (pg_sub hp hk set_list hset) (pgs_cons hx pgs_nil hg2) hg1) hn hst) hs hw h1) (setP_r d hK)
/-! ### x op= e, integers -/
def mAug (i : Nat) (f : T → T → Option T) (fa : M T) : M Fl := bnd (mRd i) fun x => bnd fa fun y => bnd (lft (f x y)) fun z => bnd (mPut i z) fun _ => ret .nx
def rIp (f : Int → Int → Int) : TIp := ipI f
theorem ip_xor : PIp X .BitXor (ipI fun i j => Builtin.bitXor i j) := by
  intro pins s σ H x y v u Q I r1 r2 h
  obtain ⟨m, n, h1, h2, q⟩ := h
  subst h1; subst h2
  obtain ⟨t, rfl⟩ := r1
  obtain ⟨t', rfl⟩ := r2
  exact ixor_int ⟨.int _, H, I.tok _, ⟨_, rfl⟩, q⟩
theorem aug_r {h : Int → Int → Option Int} {f : Int → Int → Int} (hf : ∀ a b r, h a b = some r → r = f a b) (d : i ∉ e1) (D : Ends) (σ : L2.St) (H : Hp) (q : TSm g (mAug i (fII h) fa) [i] (e1 ++ [i]) D σ H) : tAug i (TM g fa e1 b1) (ipI f) D σ H := by
  obtain ⟨S, Ts, A, fl, Ts', R, q, k⟩ := q
  obtain ⟨x, Ts1, q1, q2⟩ := bnd_some q
  obtain ⟨w1, w2, w3⟩ := mRd_some q1
  subst w3
  obtain ⟨y, Ts2, q3, q4⟩ := bnd_some q2
  obtain ⟨z, Ts3, q5, q6⟩ := bnd_some q4
  obtain ⟨q7, w4⟩ := lft_some q5
  subst w4
  obtain ⟨_, Ts4, q8, q9⟩ := bnd_some q6
  obtain ⟨w5, w6⟩ := ret_some q9
  subst w5; subst w6
  obtain ⟨xv, hx, rx⟩ := R.at w1 w2
  refine ⟨xv, hx, S, _, A, y, _, R, q3, fun yv H1 S1 A1 Ay R1 ry oy p s => ?_⟩
  unfold fII at q7
  split at q7
  · rename_i m n
    split at q7
    · rename_i r hr
      injection q7 with q7; subst q7
      refine ⟨m, n, rx.1, ry.1, ?_⟩
      have e := hf m n r hr
      subst e
      obtain ⟨A5, R5, n5, st5⟩ := R1.puts (v := V.int (f m n)) (Av := []) q8 ⟨rfl, rfl⟩ List.nodup_nil fun _ z => nomatch z
      refine k _ H1 S1 A5 (fun m hm => ?_) R5 ⟨p.keep, p.sub, p.snew, fun m a ha => ?_⟩ fun m hm => ?_
      · rw [List.getElem?_set_ne (fun h => hm (by simp [h]))]
      · rcases n5 m a ha with ⟨j', hj⟩ | h
        · exact p.anew j' a hj
        · exact nomatch h
      · have m2 : m ≠ i := fun h => hm (by simp [h])
        obtain ⟨x1', x2', x3'⟩ := s m fun h => hm (List.mem_append_left _ h)
        obtain ⟨u1, u2⟩ := st5 m m2
        exact ⟨u1.trans x1', u2.trans x2', x3'⟩
    · cases q7
  · cases q7
theorem ts_augAdd {st : Stmt} (h : PS X st (tAug i (TM g fa e1 b1) (ipI fun i j => i + j))) (d : i ∉ e1 := by decide) : PSm g X st (mAug i (fII iAdd) fa) [i] (e1 ++ [i]) := PS.imp h (aug_r (fun a b r e => by injection e with e; exact e.symm) d)
theorem ts_augXor {st : Stmt} (h : PS X st (tAug i (TM g fa e1 b1) (ipI fun i j => Builtin.bitXor i j))) (d : i ∉ e1 := by decide) : PSm g X st (mAug i (fII iXor) fa) [i] (e1 ++ [i]) := PS.imp h (aug_r (fun a b r e => by injection e with e; exact e.symm) d)
/-! ### a, b, c = x, y, z -/
def mPar3 (i j l : Nat) (fs : M (List T)) : M Fl := bnd fs fun ts => bnd (mGcons (mPut i) (mGcons (mPut j) (mGcons (mPut l) mGnil)) ts) fun _ => ret .nx
theorem par3_r {fs : M (List T)} (D : Ends) (σ : L2.St) (H : Hp) (h : TSm g (mPar3 i j l fs) [i, j, l] (e1 ++ [i, j, l]) D σ H) : tPar3 i j l (TMs g fs e1 []) D σ H := by
  obtain ⟨S, Ts, A, fl, Ts', R, q, k⟩ := h
  obtain ⟨ts, Ts1, q1, q2⟩ := bnd_some q
  obtain ⟨_, Ts2, q3, q4⟩ := bnd_some q2
  obtain ⟨h1, h2⟩ := ret_some q4
  subst h1; subst h2
  refine ⟨S, Ts, A, ts, Ts1, R, q1, fun xs H1 S1 A1 Ax R1 rx o p s => ?_⟩
  cases ts with
  | nil => cases q3
  | cons t ts =>
    obtain ⟨_, Ts3, q5, q6⟩ := bnd_some q3
    cases ts with
    | nil => cases q6
    | cons u ts =>
      obtain ⟨_, Ts4, q7, q8⟩ := bnd_some q6
      cases ts with
      | nil => cases q8
      | cons v ts =>
        obtain ⟨_, Ts5, q9, q10⟩ := bnd_some q8
        cases ts with
        | cons _ _ => cases q10
        | nil =>
          obtain ⟨_, hh⟩ := ret_some q10
          subst hh
          obtain ⟨y, ys, B1, B2, y1, y2, r1, r2⟩ := rx
          obtain ⟨z, zs, B3, B4, z1, z2, r3, r4⟩ := r2
          obtain ⟨y', zs', B5, B6, z1', z2', r5, r6⟩ := r4
          obtain ⟨w1, w2⟩ := r6
          subst w1; subst w2; subst z1'; subst z1; subst y1
          rw [List.append_nil] at z2'
          subst z2'; subst z2; subst y2
          obtain ⟨nd1, nd2, nd3⟩ := List.nodup_append.mp (o.nd rfl)
          obtain ⟨nd4, nd5, nd6⟩ := List.nodup_append.mp nd2
          have dj : ∀ a ∈ B1 ++ (B3 ++ B4), ¬ S1 a ∧ ∀ i, a ∉ A1 i := fun a ha => ⟨o.ns a ha, fun i => o.dj i (fun z => nomatch z) a ha⟩
          obtain ⟨A2, R2, n2, st2⟩ := R1.puts q5 r1 nd1 fun a ha => dj a (List.mem_append_left _ ha)
          obtain ⟨A3, R3, n3, st3⟩ := R2.puts q7 r3 nd4 fun a ha => ⟨(dj a (List.mem_append_right _ (List.mem_append_left _ ha))).1, fun i hi => by
            rcases n2 i a hi with ⟨j, hj⟩ | h
            · exact (dj a (List.mem_append_right _ (List.mem_append_left _ ha))).2 j hj
            · exact nd3 a h a (List.mem_append_left _ ha) rfl⟩
          obtain ⟨A4, R4, n4, st4⟩ := R3.puts q9 r5 nd5 fun a ha => ⟨(dj a (List.mem_append_right _ (List.mem_append_right _ ha))).1, fun i hi => by
            rcases n3 i a hi with ⟨j, hj⟩ | h
            · rcases n2 j a hj with ⟨j2, hj2⟩ | h
              · exact (dj a (List.mem_append_right _ (List.mem_append_right _ ha))).2 j2 hj2
              · exact nd3 a h a (List.mem_append_right _ ha) rfl
            · exact nd6 a h a ha rfl⟩
          refine ⟨y, z, y', rfl, k _ H1 S1 A4 (fun m hm => ?_) R4 ⟨p.keep, p.sub, p.snew, fun m a ha => ?_⟩ fun m hm => ?_⟩
          · rw [List.getElem?_set_ne (fun h => hm (by simp [h])), List.getElem?_set_ne (fun h => hm (by simp [h])), List.getElem?_set_ne (fun h => hm (by simp [h]))]
          · rcases n4 m a ha with ⟨j', hj⟩ | h
            · rcases n3 j' a hj with ⟨j', hj⟩ | h
              · rcases n2 j' a hj with ⟨j2, hj2⟩ | h
                · exact p.anew j2 a hj2
                · exact o.new a (List.mem_append_left _ h)
              · exact o.new a (List.mem_append_right _ (List.mem_append_left _ h))
            · exact o.new a (List.mem_append_right _ (List.mem_append_right _ h))
          · have m1 : m ≠ i := fun h => hm (by simp [h])
            have m2 : m ≠ j := fun h => hm (by simp [h])
            have m3 : m ≠ l := fun h => hm (by simp [h])
            obtain ⟨x1, x2, x3⟩ := s m fun h => hm (List.mem_append_left _ h)
            obtain ⟨u1, u2⟩ := st2 m m1
            obtain ⟨v1, v2⟩ := st3 m m2
            obtain ⟨w1, w2⟩ := st4 m m3
            exact ⟨((w1.trans v1).trans u1).trans x1, ((w2.trans v2).trans u2).trans x2, x3⟩
theorem ts_par3 {st : Stmt} {fs : M (List T)} (h : PS X st (tPar3 i j l (TMs g fs e1 []))) : PSm g X st (mPar3 i j l fs) [i, j, l] (e1 ++ [i, j, l]) := PS.imp h par3_r
end
end MI
/-! MiX: objects: fields, properties, methods, making. -/
namespace MI
open PySem PySem.Spec PyProof.Rows L2
section
variable {g : Gc} {X : Cx} {o e : Expr} {es : List Expr} {fa : M T} {fs : M (List T)} {mp : M (List Nat)} {e1 e2 b1 b2 : List Nat} {pos p2 p3 apos : Pos} {i : Nat} {cls f : Str} {ln : List (Option Nat)} {io : List Nat} {c : Cal} {k : Nat} {ps : List Str} {fd : FuncData} {fad : Addr}
/-! ### o.f -/
def fFld (cls f : Str) (t : T) : Option T := match t with
  | .nd (.ins _ c fs) ts => if c = cls then (match fs.findIdx? (fun x => x = f) with
    | some j => ts[j]?
    | none => none) else none
  | _ => none
theorem tm_fld (hK : g.K = X.K) (hc : Cls X.K (g.cl cls)) (hn : NoAttr X.K (g.cl cls) f) (ho : PEm g X o fa e1 b1) (hbase : attributeBase o f X.env (eval o X.env) = eval o X.env := by rfl) : PEm g X (.Attribute o f pos) (m1 (fFld cls f) fa) e1 b1 :=
  PE.imp (pe_fld ho hbase) fun σ H Q h => by
    obtain ⟨S, Ts, A, t, Ts', R, q, k⟩ := h
    obtain ⟨ta, Ts1, ea, q1⟩ := bnd_some q
    obtain ⟨ef, eT⟩ := lft_some q1
    subst eT
    refine ⟨S, Ts, A, ta, _, R, ea, fun x H' S' A' Ax R' rx o1 p s => ?_⟩
    unfold fFld at ef
    split at ef
    · rename_i ow cc fds ts
      split at ef
      · rename_i hcc
        subst hcc
        split at ef
        · rename_i j hj
          obtain ⟨a, xs, B, ex, at_, eA, cc', rl⟩ := rx
          obtain ⟨⟨dx, ea⟩, hl, _⟩ := at_
          obtain ⟨z, C, h1, h2, h3⟩ := RpL.at ts xs B rl j t ef
          refine ⟨a, _, dx, _, z, ex, ea, hc, hn, lookup_findIdx hj hl h1, k z H' S' A' C R' h2 (o1.part ?_) p s⟩
          rw [eA]
          split
          · exact h3.trans (List.sublist_cons_self _ _)
          · exact h3
        · cases ef
      · cases ef
    · cases ef
/-! ### a call whose first argument is an object -/
def isIns (cls m : Str) (t : T) : Option T := match t with
  | .nd (.ins _ c fs) ts => if c = cls ∧ fs.findIdx? (fun x => x = m) = none then some t else none
  | _ => none
def mIns (cls m : Str) (fa : M T) : M T := bnd fa fun t => lft (isIns cls m t)
theorem lookup_none {m : Str} : ∀ {fs : List Str} {xs : List V}, fs.findIdx? (fun x => x = m) = none → (fs.zip xs).lookup m = none
  | [], xs, h => by simp
  | f :: fs, [], h => by simp
  | f :: fs, x :: xs, h => by
    rw [List.findIdx?_eq_none_iff] at h
    have h1 := h f (List.mem_cons_self)
    have hf : ¬ f = m := by simpa using h1
    have ih := lookup_none (m := m) (fs := fs) (xs := xs) (List.findIdx?_eq_none_iff.mpr fun y hy => h y (List.mem_cons_of_mem _ hy))
    rw [List.zip_cons_cons, List.lookup_cons]
    have : (m == f) = false := by rw [beq_eq_false_iff_ne]; exact fun z => hf z.symm
    rw [this]; exact ih
theorem isIns_ok {S : Addr → Prop} {H : Hp} {t u : T} {x : V} {A : List Addr} {m : Str} (r : Rp g S H t x A) (h : isIns cls m t = some u) : u = t ∧ ∃ a dx fs, x = .ref a ∧ H a = some (.ins (g.cl cls) dx fs) ∧ fs.lookup m = none := by
  unfold isIns at h
  split at h
  · split at h
    · rename_i hc
      injection h with h
      obtain ⟨rfl, hm⟩ := hc
      obtain ⟨a, xs, B, ex, at_, eA, cc', rl⟩ := r
      obtain ⟨⟨dx, ea⟩, hl, _⟩ := at_
      exact ⟨h.symm, a, dx, _, ex, ea, lookup_none hm⟩
    · cases h
  · cases h
/-- the reading of an object and further arguments -/
theorem self_arg {m : Str} (d : ∀ j ∈ b1, j ∉ e2) (σ : L2.St) (H : Hp) (Q : List V → Hp → Prop) (h : TMc g (mCons (mIns cls m fa) fs) (e1 ++ e2) (b1 ++ b2) (none :: ln) σ H Q) :
    TM g fa e1 b1 σ H fun x H1 => ∃ a dx fs', x = .ref a ∧ H1 a = some (.ins (g.cl cls) dx fs') ∧ fs'.lookup m = none ∧ TMc g fs e2 b2 ln σ H1 fun xs H2 => Q (x :: xs) H2 := by
  obtain ⟨S, Ts, A, ts, Ts', R, q, k⟩ := h
  obtain ⟨ta, Ts1, ea, q1⟩ := bnd_some q
  obtain ⟨t0, Ts0, ea0, eb0⟩ := bnd_some ea
  obtain ⟨ei, eT⟩ := lft_some eb0
  subst eT
  obtain ⟨tb, Ts2, eb, q2⟩ := bnd_some q1
  obtain ⟨h1, h2⟩ := ret_some q2
  subst h1; subst h2
  refine ⟨S, Ts, A, t0, _, R, ea0, fun x H1 S1 A1 Ax R1 r1 o1 p1 s1 => ?_⟩
  obtain ⟨et, a, dx, fs', ex, ea', el⟩ := isIns_ok r1 ei
  subst et
  refine ⟨a, dx, fs', ex, ea', el, S1, _, A1, tb, Ts2, R1, eb, fun ys H2 S2 A2 Al Ab R2 r2 ol ob dj p2 s2 => ?_⟩
  have hc := Rp.cells _ _ _ r1
  have o1' := o1.held R1 R2 hc p2 s2 d
  refine k (x :: ys) H2 S2 A2 Al (Ax ++ Ab) R2 ⟨_, tb, x, ys, Ax, Ab, rfl, rfl, rfl, r1.held R1 o1 p2 s2 d, r2⟩ (ol.rebase p1) (Ow.app p1 hc o1 o1' ob) (fun a hl hx => ?_) (p1.trans R p2) (s1.trans s2)
  rcases List.mem_append.mp hx with hx | hx
  · rcases ol.new a hl with ⟨j, hj⟩ | hn
    · have hb : j ∈ b1 := Classical.byContradiction fun z => o1.dj j z a hx hj
      have e := (s2 j (d j hb)).2.1
      exact ol.dj j (fun z => nomatch z) a hl (by rw [e]; exact hj)
    · exact mut_ne (hc a hx) hn
  · exact dj a hl hx
/-! ### o.p, a property -/
theorem prop_r (σ : L2.St) (H : Hp) (Q : VK) (h : TM g (mCallP c [none] (mCons (mIns cls Str.empty fa) mNil)) e1 [] σ H Q) : tProp (g.cl cls) (spT g [] c) [] E0 (TM g fa e1 b1) σ H Q := by
  have h2 : TM g (mCallP c [none] (mCons (mIns cls Str.empty fa) mNil)) (e1 ++ []) [] σ H Q := by rw [List.append_nil]; exact h
  have h3 := callP_r (b1 := b1 ++ []) (io := []) rfl (by intro s hs; simp at hs) σ H Q h2
  have h4 := self_arg (b1 := b1) (b2 := []) (e1 := e1) (e2 := []) (fun _ _ z => nomatch z) σ H _ h3
  exact h4.mono fun x H' ⟨a, dx, fs', w1, w2, w3, w4⟩ => ⟨a, dx, fs', w1, w2, by rw [← w1]; exact TMc.nil w4⟩
theorem prop_rC (hb : b1 = []) (σ : L2.St) (H : Hp) (Q : VK) (h : TM g (mCall c [none] (mCons (mIns cls Str.empty fa) mNil)) e1 [] σ H Q) : tProp (g.cl cls) (spT g [] c) [] E0 (TM g fa e1 b1) σ H Q := by
  subst hb
  have h2 : TM g (mCall c [none] (mCons (mIns cls Str.empty fa) mNil)) (e1 ++ []) [] σ H Q := by rw [List.append_nil]; exact h
  have h3 := call_r (b1 := [] ++ []) (io := []) rfl rfl (by intro s hs; simp at hs) σ H Q h2
  have h4 := self_arg (b1 := []) (b2 := []) (e1 := e1) (e2 := []) (fun _ _ z => nomatch z) σ H _ h3
  exact h4.mono fun x H' ⟨a, dx, fs', w1, w2, w3, w4⟩ => ⟨a, dx, fs', w1, w2, by rw [← w1]; exact TMc.nil w4⟩
theorem tm_propP {pp : Addr} (hc : Cls X.K (g.cl cls)) (hp : PropOf X.K (g.cl cls) f pp fad) (F : FnG X.prog X.w X.K X.mg X.base CX0 k fad fd ps (spT g [] c)) (hG : GA X.A) (hr : Room (k + 1) X.A) (hb : Binds X.K fd ps []) (ho : PEm g X o fa e1 b1)
    (hab : attributeBase o f X.env (eval o X.env) = eval o X.env := by rfl) : PEm g X (.Attribute o f pos) (mCallP c [none] (mCons (mIns cls Str.empty fa) mNil)) e1 [] := PE.imp (pe_propG ho hc hp F hG hr hb pass0 hab) prop_r
theorem tm_prop {pp : Addr} (hc : Cls X.K (g.cl cls)) (hp : PropOf X.K (g.cl cls) f pp fad) (F : FnG X.prog X.w X.K X.mg X.base CX0 k fad fd ps (spT g [] c)) (hG : GA X.A) (hr : Room (k + 1) X.A) (hb : Binds X.K fd ps []) (ho : PEm g X o fa e1 [])
    (hab : attributeBase o f X.env (eval o X.env) = eval o X.env := by rfl) : PEm g X (.Attribute o f pos) (mCall c [none] (mCons (mIns cls Str.empty fa) mNil)) e1 [] := PE.imp (pe_propG ho hc hp F hG hr hb pass0 hab) (prop_rC rfl)
/-! ### o.m(..), the object is read -/
theorem meth_rP {m : Str} (hio : io = lentIx 0 (none :: ln)) (hl : ∀ s ∈ (none :: ln).filterMap id, s ∈ e1 ++ e2) (d : ∀ j ∈ b1, j ∉ e2) (σ : L2.St) (H : Hp) (Q : VK) (h : TM g (mCallP c (none :: ln) (mCons (mIns cls m fa) fs)) (e1 ++ e2) [] σ H Q) : tMeth (g.cl cls) m (spT g io c) [] E0 (TM g fa e1 b1) (TMc g fs e2 b2 ln) σ H Q := by
  have h3 := callP_r (b1 := b1 ++ b2) hio hl σ H Q h
  exact self_arg (b1 := b1) (b2 := b2) (e1 := e1) (e2 := e2) d σ H _ h3
theorem meth_r {m : Str} (hio : io = lentIx 0 (none :: ln)) (hl : ∀ s ∈ (none :: ln).filterMap id, s ∈ e1 ++ e2) (σ : L2.St) (H : Hp) (Q : VK) (h : TM g (mCall c (none :: ln) (mCons (mIns cls m fa) fs)) (e1 ++ e2) [] σ H Q) : tMeth (g.cl cls) m (spT g io c) [] E0 (TM g fa e1 []) (TMc g fs e2 [] ln) σ H Q := by
  have h3 := call_r (b1 := [] ++ []) rfl hio hl σ H Q h
  exact self_arg (b1 := []) (b2 := []) (e1 := e1) (e2 := e2) (fun _ z => nomatch z) σ H _ h3
theorem meth_nil {m : Str} {sp : Sp} {ta : TE} {σ : L2.St} {H : Hp} {Q : VK} (hm : ∀ Q Q' : VK, (∀ x H, Q x H → Q' x H) → ta σ H Q → ta σ H Q') (h : tMeth (g.cl cls) m sp [] E0 ta (TMc g mNil [] [] []) σ H Q) : tMeth (g.cl cls) m sp [] E0 ta tNil σ H Q :=
  hm _ _ (fun x H' ⟨a, dx, fs', w1, w2, w3, w4⟩ => ⟨a, dx, fs', w1, w2, w3, TMc.nil w4⟩) h
theorem tm_methP {m : Str} {pl : Sem Bool} (hc : Cls X.K (g.cl cls)) (hm : Meth X.K (g.cl cls) m fad) (F : FnG X.prog X.w X.K X.mg X.base CX0 k fad fd ps (spT g io c)) (hG : GA X.A) (hr : Room k X.A) (hb : Binds X.K fd ps []) (ho : PEm g X o fa e1 b1) (ha : PAc g X (e :: es) fs e2 b2 ln)
    (hio : io = lentIx 0 (none :: ln) := by rfl) (hl : ∀ s ∈ (none :: ln).filterMap id, s ∈ e1 ++ e2 := by decide) (d : ∀ j ∈ b1, j ∉ e2 := by decide) (hst : starEach (e :: es) X.env = (false, eval e X.env) :: starEach es X.env := by rfl) (hpl : (backTo pos (starEach es X.env)).any (·.1) = false := by rfl)
    (ht : eval (.Call (.Attribute o m apos) (e :: es) [] pos) X.env = (do let ov ← eval o X.env; standAt apos.atName; let (f, first) ← holding [ov] (getMethod ov m pl); callWith pos f first (backTo pos (starEach (e :: es) X.env)) (backToKw pos (keywordEach [] X.env))) := by rfl) :
    PEm g X (.Call (.Attribute o m apos) (e :: es) [] pos) (mCallP c (none :: ln) (mCons (mIns cls m fa) fs)) (e1 ++ e2) [] := PE.imp (pe_methG (pl := pl) ho hc hm F hG hr hb pass0 ha hst hpl ht) (meth_rP hio hl d)
theorem tm_meth {m : Str} {pl : Sem Bool} (hc : Cls X.K (g.cl cls)) (hm : Meth X.K (g.cl cls) m fad) (F : FnG X.prog X.w X.K X.mg X.base CX0 k fad fd ps (spT g io c)) (hG : GA X.A) (hr : Room k X.A) (hb : Binds X.K fd ps []) (ho : PEm g X o fa e1 []) (ha : PAc g X (e :: es) fs e2 [] ln)
    (hio : io = lentIx 0 (none :: ln) := by rfl) (hl : ∀ s ∈ (none :: ln).filterMap id, s ∈ e1 ++ e2 := by decide) (hst : starEach (e :: es) X.env = (false, eval e X.env) :: starEach es X.env := by rfl) (hpl : (backTo pos (starEach es X.env)).any (·.1) = false := by rfl)
    (ht : eval (.Call (.Attribute o m apos) (e :: es) [] pos) X.env = (do let ov ← eval o X.env; standAt apos.atName; let (f, first) ← holding [ov] (getMethod ov m pl); callWith pos f first (backTo pos (starEach (e :: es) X.env)) (backToKw pos (keywordEach [] X.env))) := by rfl) :
    PEm g X (.Call (.Attribute o m apos) (e :: es) [] pos) (mCall c (none :: ln) (mCons (mIns cls m fa) fs)) (e1 ++ e2) [] := PE.imp (pe_methG (pl := pl) ho hc hm F hG hr hb pass0 ha hst hpl ht) (meth_r hio hl)
end
end MI
/-! MiY: o.f = value, C(..). -/
namespace MI
open PySem PySem.Spec PyProof.Rows L2
section
variable {g : Gc} {X : Cx} {o e : Expr} {es : List Expr} {fa : M T} {fs : M (List T)} {mp : M (List Nat)} {e1 e2 b1 b2 : List Nat} {pos p2 p3 apos : Pos} {i : Nat} {cls f : Str} {ln : List (Option Nat)} {io : List Nat} {c : Cal} {k : Nat} {ps : List Str} {fd : FuncData} {fad : Addr}
def putN (f : Str) (v : T) : List Str → List T → List Str × List T
  | h :: fs, t :: ts => if h = f then (h :: fs, v :: ts) else (h :: (putN f v fs ts).1, t :: (putN f v fs ts).2)
  | _, _ => ([f], [v])
theorem putN_ok {S : Addr → Prop} {H : Hp} {v : T} {y : V} {C : List Addr} (rv : Rp g S H v y C) : ∀ (fs : List Str) (ts : List T) (xs : List V) (A : List Addr), RpL g S H ts xs A → fs.length = xs.length → (A ++ C).Nodup →
    ∃ xs' A', (putN f v fs ts).1.zip xs' = putF f y (fs.zip xs) ∧ (putN f v fs ts).1.length = xs'.length ∧ RpL g S H (putN f v fs ts).2 xs' A' ∧ (∀ a ∈ A', a ∈ A ∨ a ∈ C) ∧ A'.Nodup
  | [], ts, xs, A, r, hl, nd => by
    have : xs = [] := List.length_eq_zero_iff.mp hl.symm
    subst this
    have e : putN f v [] ts = ([f], [v]) := by cases ts <;> rfl
    rw [e]
    exact ⟨[y], C, rfl, rfl, RpL.one rv, fun a h => .inr h, (List.nodup_append.mp nd).2.1⟩
  | h :: fs, [], xs, A, r, hl, nd => by rw [r.1] at hl; cases hl
  | h :: fs, t :: ts, xs, A, r, hl, nd => by
    obtain ⟨z, zs, A1, A2, h1, h2, r1, r2⟩ := r
    subst h1; subst h2
    unfold putN
    by_cases hf : h = f
    · rw [if_pos hf]
      refine ⟨y :: zs, C ++ A2, ?_, by simpa using hl, ⟨y, zs, C, A2, rfl, rfl, rv, r2⟩, fun a ha => ?_, ?_⟩
      · show (h, y) :: fs.zip zs = putF f y ((h, z) :: fs.zip zs)
        unfold putF
        rw [if_pos hf]
      · rcases List.mem_append.mp ha with q | q
        · exact .inr q
        · exact .inl (List.mem_append_right _ q)
      · obtain ⟨n1, n2, n3⟩ := List.nodup_append.mp nd
        obtain ⟨_, m2, _⟩ := List.nodup_append.mp n1
        exact List.nodup_append.mpr ⟨n2, m2, fun a ha b hb e => n3 b (List.mem_append_right _ hb) a ha e.symm⟩
    · rw [if_neg hf]
      obtain ⟨n1, n2, n3⟩ := List.nodup_append.mp nd
      obtain ⟨m1, m2, m3⟩ := List.nodup_append.mp n1
      obtain ⟨xs', A', w1, w2, w3, w4, w5⟩ := putN_ok rv fs ts zs A2 r2 (by simpa using hl) (List.nodup_append.mpr ⟨m2, n2, fun a ha b hb => n3 a (List.mem_append_right _ ha) b hb⟩)
      refine ⟨z :: xs', A1 ++ A', ?_, by simp [w2], ⟨z, xs', A1, A', rfl, rfl, r1, w3⟩, fun a ha => ?_, List.nodup_append.mpr ⟨m1, w5, fun a ha b hb e => ?_⟩⟩
      · show (h, z) :: (putN f v fs ts).1.zip xs' = putF f y ((h, z) :: fs.zip zs)
        unfold putF
        rw [if_neg hf, w1]
      · rcases List.mem_append.mp ha with q | q
        · exact .inl (List.mem_append_left _ q)
        · rcases w4 a q with q | q
          · exact .inl (List.mem_append_right _ q)
          · exact .inr q
      · subst e
        rcases w4 a hb with q | q
        · exact m3 a ha a q rfl
        · exact n3 a (List.mem_append_left _ ha) a q rfl
def rFl (K : PySem.W.Frag) (C : Addr) (f : Str) : V → List V → Hp → VK → Prop := fun x xs H Q => ∃ y a dx fs, xs = [y] ∧ x = .ref a ∧ H a = some (.ins C dx fs) ∧ fs.length < 1000 ∧ Q .non (upd H a (.ins C dx (putF f y fs)))
def fFl (cls f : Str) (n : T) (args : List T) : Option (T × T) := match n, args with
  | .nd (.ins true c fs) ts, [v] => if c = cls ∧ fs.length < 1000 then some (.non, .nd (.ins true c (putN f v fs ts).1) (putN f v fs ts).2) else none
  | _, _ => none
theorem mut_fl : MutT g (rFl g.K (g.cl cls) f) (fFl cls f) := fun S H a n B0 args xs Ag res n' Q rn ho ra nd nS ef k => by
  unfold fFl at ef
  split at ef
  · rename_i cc fds ts v
    split at ef
    · rename_i hc
      obtain ⟨rfl, hz⟩ := hc
      injection ef with ef
      injection ef with h1 h2
      subst h1; subst h2
      obtain ⟨a', xs0, B, ex, at_, eA, c, rl⟩ := rn
      injection ex with ex
      subst ex
      have eA : a :: B0 = a :: B := eA
      injection eA with _ eA
      subst eA
      obtain ⟨⟨dx, ea⟩, hl, _⟩ := at_
      obtain ⟨y, ys, D1, D2, d1, d2, d3, d4⟩ := ra
      obtain ⟨d5, d6⟩ := d4
      subst d5; subst d6
      rw [List.append_nil] at d2
      subst d2
      refine ⟨y, a, dx, _, d1, rfl, ea, by rw [List.length_zip, hl, Nat.min_self, ← hl]; exact hz, ?_⟩
      obtain ⟨na, nd2⟩ := List.nodup_cons.mp nd
      obtain ⟨xs', A', w1, w2, w3, w4, w5⟩ := putN_ok (f := f) d3 fds ts xs0 B0 rl hl nd2
      have kp : RpL g S (upd H a (.ins (g.cl cc) dx (putF f y (fds.zip xs0)))) (putN f v fds ts).2 xs' A' := RpL.keep (M := fun b => b = a) (fun b o e n => by rw [upd_ne n]; exact e) (fun b e => by rw [e, ea]; trivial) (fun b hb e => nS (e ▸ hb)) (fun _ h => h) _ _ _ w3 fun b hb e => na (by
        subst e
        exact List.mem_append.mpr (w4 _ hb))
      refine k .non (.ins (g.cl cc) dx (putF f y (fds.zip xs0))) A' ⟨a, xs', A', rfl, ⟨⟨dx, by rw [upd_same, w1]⟩, w2, fun z => nomatch z⟩, rfl, .inl rfl, kp⟩ rfl ⟨rfl, rfl⟩ (List.nodup_cons.mpr ⟨fun h => na (List.mem_append.mpr (w4 a h)), w5⟩) w4
    · cases ef
  · cases ef
def wrF (i : Nat) (p : List Nat) (cls f : Str) (v : T) : M Fl := fun Ts => match subT p (slot Ts i) with
  | some n => if n.ownNd then (match fFl cls f n [v] with
    | some (_, n') => some (.nx, Ts.set i (setT p (slot Ts i) n'))
    | none => none) else none
  | none => none
def mSetF (i : Nat) (mp : M (List Nat)) (cls f : Str) (fa : M T) : M Fl := bnd fa fun v => bnd mp fun p => wrF i p cls f v
theorem wrF_some {p : List Nat} {v : T} {Ts Ts' : List T} {fl : Fl} (h : wrF i p cls f v Ts = some (fl, Ts')) : ∃ n r n', subT p (slot Ts i) = some n ∧ n.ownNd = true ∧ fFl cls f n [v] = some (r, n') ∧ fl = .nx ∧ Ts' = Ts.set i (setT p (slot Ts i) n') := by
  unfold wrF at h
  split at h
  · rename_i n hn
    split at h
    · rename_i ho
      split at h
      · rename_i r n' hf
        injection h with h
        injection h with h1 h2
        exact ⟨n, r, n', hn, ho, hf, h1.symm, h2.symm⟩
      · cases h
    · cases h
  · cases h
theorem ts_setF (hK : g.K = X.K) (hc : Cls X.K (g.cl cls)) (hn : NoAttr X.K (g.cl cls) f) (ha : PEm g X e fa e1 []) (hp : PLm g X o mp e2 i) (hs : swapsWith e (some (.Attribute o f p2)) pos.line X.env = pure false := by rfl) :
    PSm g X (.Assign [.Attribute o f p2] e pos) (mSetF i mp cls f fa) [] ((e1 ++ e2) ++ [i]) := PS.imp (ps_fld hp ha hs) fun D σ H h => by
  obtain ⟨S, Ts, A, fl, Ts', R, q, k⟩ := h
  obtain ⟨v, Ts1, q1, q2⟩ := bnd_some q
  obtain ⟨p, Ts2, q3, q4⟩ := bnd_some q2
  obtain ⟨n, r0, n', hsub, ho, hf, h1, h2⟩ := wrF_some q4
  subst h1; subst h2
  refine ⟨S, Ts, A, v, Ts1, R, q1, fun x H1 S1 A1 Ax R1 rx o1 p1 s1 => ⟨S1, Ts1, A1, p, Ts2, R1, q3, fun y H2 S2 A2 x0 u B R2 hx pl p2 s2 => ?_⟩⟩
  have hu : u = n := by
    have := (Pl.rep _ _ _ _ _ _ _ pl).2.2
    rw [hsub] at this
    injection this with this
    exact this.symm
  subst hu
  have hcl := Rp.cells _ _ _ rx
  have rx3 := rx.held R1 o1 p2 s2 fun j hj => nomatch hj
  have ox3 := o1.held R1 R2 hcl p2 s2 fun j hj => nomatch hj
  have fin := mut_fin (Q := fun x' H' => D.nx σ H') mut_fl R R2 hx pl (RpL.one rx3) ox3 (p1.trans R p2) (s1.trans s2) ho hf fun x' H' S' A' Ax' R' rx' o' p' s' => k σ H' S' A' (fun _ _ => rfl) R' p' s'
  obtain ⟨y', a, dx, fs', w1, w2, w3, w4, w5⟩ := fin
  injection w1 with w1 _
  subst w1
  exact ⟨a, _, dx, fs', w2, w3, hc, hn, w4, w5⟩
/-! ### C(..) -/
def allN (ln : List (Option Nat)) : Bool := ln.all Option.isNone
def mMake (c : Cal) (cls : Str) (ln : List (Option Nat)) (fs : M (List T)) : M T := bnd fs fun ts => bnd (lft (c (.nd (.ins true cls []) [] :: fzA ln ts))) fun p => match p with
  | (.non, [s]) => ret s
  | _ => fun _ => none
theorem RpC.none : ∀ (ln : List (Option Nat)) {S : Addr → Prop} {H : Hp} {σ : L2.St} {ts : List T} {xs : List V} {Al Ab : List Addr}, allN ln = true → RpC g S H σ ln ts xs Al Ab → Al = []
  | [], _, _, _, _, _, _, _, _, r => r.2.2.1
  | Option.none :: ln, _, _, _, _, _, _, _, h, r => by
    obtain ⟨t, ts', x, xs', B, Ab', _, _, _, _, r⟩ := r
    exact RpC.none ln (by simpa [allN] using h) r
  | some s :: ln, _, _, _, _, _, _, _, h, r => by simp [allN] at h
theorem make_r (hn : allN ln = true) (σ : L2.St) (H : Hp) (Q : VK) (h : TM g (mMake c cls ln fs) e1 [] σ H Q) : tMake (g.cl cls) (spT g [0] c) [] E0 (TMc g fs e1 [] ln) σ H Q := by
  obtain ⟨S, Ts, A, r, Ts', R, q, k⟩ := h
  obtain ⟨ts, Ts1, q1, q2⟩ := bnd_some q
  obtain ⟨⟨r', outs⟩, Ts1', q3, q4⟩ := bnd_some q2
  obtain ⟨q5, e5⟩ := lft_some q3
  subst e5
  have key : r' = .non ∧ outs = [r] ∧ Ts1' = Ts' := by
    cases r' with
    | non =>
      cases outs with
      | nil => cases q4
      | cons s rest =>
        cases rest with
        | nil =>
          obtain ⟨h1, h2⟩ := ret_some q4
          exact ⟨rfl, by rw [h1], h2⟩
        | cons _ _ => cases q4
    | _ => cases q4
  obtain ⟨k1, k2, k3⟩ := key
  subst k1; subst k2; subst k3
  refine ⟨S, Ts, A, ts, Ts1', R, q1, fun xs H1 S1 A1 Al Ab R1 rc ol ob dj p s => fun x dx hx hdx hne => ?_⟩
  have eAl := RpC.none ln hn rc
  subst eAl
  have hob : ∀ a ∈ Ab, ∃ o, H1 a = some o := RpC.bcells ln ts xs [] Ab rc
  have ex : ∀ a o, H1 a = some o → upd (upd H1 dx (.own x)) x (.ins (g.cl cls) dx []) a = some o := fun a o e => by
    rw [upd_ne (ne_of_none e hx), upd_ne (ne_of_none e hdx)]; exact e
  have rc2 : RpL g (fun a => S1 a ∨ a ∈ Ab) H1 (fzA ln ts) xs [] := RpC.call ln ts xs [] Ab rc (fun _ h => .inl h) (fun _ h => .inr h)
  have nx : ¬ (S1 x ∨ x ∈ Ab) := fun z => by
    rcases z with z | z
    · obtain ⟨o, w⟩ := R1.st x z; rw [hx] at w; cases w
    · obtain ⟨o, w⟩ := hob x z; rw [hx] at w; cases w
  have R1' := R1.ext ex
  rw [List.append_nil]
  refine ⟨fun a => S1 a ∨ a ∈ Ab, .nd (.ins true cls []) [] :: fzA ln ts, [x], .non, [r], ⟨.ref x, xs, [x], [], rfl, rfl, ⟨x, [], [], rfl, ⟨⟨dx, upd_same⟩, rfl, fun z => nomatch z⟩, rfl, .inl rfl, rfl, rfl⟩, rc2.ext ex⟩, List.nodup_cons.mpr ⟨(fun z => nomatch z), List.nodup_nil⟩, fun a ha => by rw [List.mem_singleton.mp ha]; exact nx, fun a h => ?_, q5, fun v H' S' Ar Ao rx ro nd ns st pf => ⟨rx.1, ?_⟩⟩
  · rcases h with h | h
    · obtain ⟨o, w⟩ := R1.st a h; exact ⟨o, ex a o w⟩
    · obtain ⟨o, w⟩ := hob a h; exact ⟨o, ex a o w⟩
  · have eAr : Ar = [] := rx.2
    subst eAr
    have ro : RpL g S' H' [r] [V.ref x] Ao := ro
    have rr : Rp g S' H' r (.ref x) Ao := by
      obtain ⟨q, qs, D1, D2, d1, d2, d3, d4⟩ := ro
      injection d1 with d1 d5
      subst d1
      rw [d2, d4.2, List.append_nil]; exact d3
    rw [List.append_nil] at nd ns pf
    have pE : Po S1 H1 A1 S1 _ A1 := Po.ext ex
    have p' := p.trans R pE
    have s' := s.trans (Stb.ext (eff := []) (Ts := Ts1') (A := A1) ex)
    rw [List.append_nil] at s'
    have fr := R1.fresh hx
    have bk : (∃ j, x ∈ A j) ∨ H x = none := by
      cases e : H x with
      | none => exact .inr rfl
      | some ob =>
        by_cases hj : ∃ j, x ∈ A j
        · exact .inl hj
        · have w := p.keep x ob e fun i hi => hj ⟨i, hi⟩
          rw [hx] at w; cases w
    have olx : Ow [] H A S1 A1 [x] := ⟨fun a ha => by rw [List.mem_singleton.mp ha]; exact fr.1, fun i _ a ha => by rw [List.mem_singleton.mp ha]; exact fr.2 i, fun _ => List.nodup_cons.mpr ⟨(fun z => nomatch z), List.nodup_nil⟩, fun a ha => by rw [List.mem_singleton.mp ha]; exact bk⟩
    exact call_post (ln := []) (outs := []) (zs := []) (Ao := []) (S2 := S') (Ts2 := Ts1') R R1' (fun a ha => by rw [List.mem_singleton.mp ha, upd_same]; trivial) olx ob p' s' (by simpa using pf) (fun _ h => h) (fun a h => pf.sub a (.inl h)) (fun _ _ _ => rfl) rr ⟨rfl, rfl⟩ (by simpa using nd) (by simpa using ns) st (fun k s e => by simp at e) rfl (fun s hs => by simp at hs) k
theorem tm_make (hC : X.mg f = some (.ref (g.cl cls))) (M : Mk X.K (g.cl cls) fad) (F : FnG X.prog X.w X.K X.mg X.base CX0 k fad fd ps (spT g [0] c)) (hG : GA X.A) (hr : Room (k + 1) X.A) (hg : Gl X f) (hb : Binds X.K fd ps []) (ha : PAc g X (e :: es) fs e1 [] ln) (hn : allN ln = true := by rfl)
    (hdb : (f == ("__debug__" : Str)) = false := by decide) (he : starEach (e :: es) X.env = (false, eval e X.env) :: starEach es X.env := by rfl) (hpl : (backTo pos (starEach es X.env)).any (·.1) = false := by rfl) :
    PEm g X (.Call (.Name f p2) (e :: es) [] pos) (mMake c cls ln fs) e1 [] := PE.imp (pe_makeG M F hG hr hg hC hb (E := E0) pass0 ha hdb he hpl) (make_r hn)
end
end MI
/-! MiZ: [e for a in x for b in y ..]. -/
namespace MI
open PySem PySem.Spec PyProof.Rows L2
structure Hd where
  cs : List T
  cx : List V
  ax : List Addr
  bo : List Nat
/-- what stands while a comprehension is walked -/
def LI (g : Gc) (H : Hp) (A : Nat → List Addr) (S1 : Addr → Prop) (H1 : Hp) (A1 : Nat → List Addr) (Ts1 : List T) (E : List Nat) (hs : List Hd) (Da : Addr) (hid : List Nat) (σw : L2.St) (P : List T → List T → Prop) (H' : Hp) : Prop :=
  ∃ S' Tsi A' acc Aa, SR g S' H' σw Tsi A' ∧ (∀ j ∈ hid, A' j = []) ∧ P acc Tsi ∧ Po S1 H1 A1 S' H' A' ∧ Stb E H1 Ts1 A1 H' Tsi A' ∧ (∀ h ∈ hs, RpL g S' H' h.cs h.cx h.ax ∧ Ow h.bo H A S' A' h.ax ∧ ∀ a ∈ h.ax, a ≠ Da) ∧ Rp g S' H' (.nd (.lst true) acc) (.ref Da) Aa ∧ Ow [] H A S' A' Aa
section
variable {g : Gc} {m m1 : T → M Unit} {tt : M Bool} {te : M T} {mi mi1 : M (List T)} {a1 a2 e1 e2 e3 b1 b2 : List Nat} {vs vs1 hid E : List Nat} {S S1 : Addr → Prop} {H H1 : Hp} {A A1 : Nat → List Addr} {Ts Ts1 : List T} {hs : List Hd} {Da : Addr} {σ σ0 : L2.St}
theorem wipe_same {σ2 σ : L2.St} {vs a : List Nat} (hl : σ2.length = σ.length) (h : ∀ j, j ∉ a → σ2[j]? = (wipe σ vs)[j]?) (dv : ∀ j ∈ a, j ∈ vs) : wipe σ2 vs = wipe σ vs := by
  refine List.ext_getElem? fun j => ?_
  by_cases hj : j ∈ vs
  · by_cases hl2 : j < σ.length
    · rw [wipe_in (by omega) hj, wipe_in hl2 hj]
    · rw [List.getElem?_eq_none_iff.mpr (by rw [wipe_length]; omega), List.getElem?_eq_none_iff.mpr (by rw [wipe_length]; omega)]
  · rw [wipe_out hj, h j fun z => hj (dv j z)]
/-- a target is stored -/
theorem LI.put {P : List T → List T → Prop} {Q : L2.St → Hp → Prop} {H' H2 : Hp} {t : T} {x : V} (R : SR g S H σ0 Ts A) (dv : ∀ j ∈ a1, j ∈ vs) (hv : ∀ j ∈ vs, j ∈ hid) (hE : ∀ j ∈ hid, j ∈ E) (d : ∀ h ∈ hs, ∀ j ∈ h.bo, j ∉ a1) (R1 : SR g S1 H1 σ0 Ts1 A1)
    (h : LI g H A S1 H1 A1 Ts1 E hs Da hid (wipe σ vs) (fun acc Ti => ∃ Ta, m t Ti = some ((), Ta) ∧ P acc Ta) H') (ex : ∀ a o, H' a = some o → H2 a = some o) (hy : ∀ S2, (∀ h ∈ hs, RpL g S2 H' h.cs h.cx h.ax) → Rp g S2 H2 t x [])
    (k : ∀ σ2, wipe σ2 vs = wipe σ vs → LI g H A S1 H1 A1 Ts1 E hs Da hid σ2 P H2 → Q σ2 H2) : TGm g m a1 x (wipe σ vs) H2 Q := by
  obtain ⟨S', Tsi, A', acc, Aa, Ri, hA, ⟨Ta, qa, qP⟩, pi, si, hd, ra, oa⟩ := h
  have rt := hy S' fun h hh => (hd h hh).1
  have Ri2 := Ri.ext ex
  refine ⟨S', Tsi, A', t, [], Ta, Ri2, rt, List.nodup_nil, (fun _ h => nomatch h), qa, fun σ2 A2 hσ2 R2 n2 s2 => ?_⟩
  have ew : wipe σ2 vs = wipe σ vs := wipe_same (by rw [hσ2.1, wipe_length]) hσ2.2 dv
  have hAv : ∀ j ∈ hid, A2 j = [] := fun j hj => by
    cases e : A2 j with
    | nil => rfl
    | cons a l =>
      have ha : a ∈ A2 j := by rw [e]; exact List.mem_cons_self
      rcases n2 j a ha with ⟨j', hj'⟩ | h
      · have hjv : j' ∉ hid := fun z => by rw [hA j' z] at hj'; exact nomatch hj'
        have e2 := (s2 j' fun z => hjv (hv j' (dv j' z))).2
        exact absurd (by rw [e2]; exact hj') (R2.dj j j' (by rintro rfl; exact hjv hj) a ha)
      · exact nomatch h
  have oa2 : Ow [] H A S' A2 Aa := oa.bound (a1 := a1) R2 n2 (fun j hj => (s2 j hj).2) fun j hj => nomatch hj
  refine k σ2 ew ⟨S', Ta, A2, acc, Aa, R2, hAv, qP, (pi.trans R1 (Po.ext ex)).bound (a1 := a1) n2, fun j hj => ?_, fun h hh => ⟨(hd h hh).1.ext ex, (hd h hh).2.1.bound (a1 := a1) R2 n2 (fun j hj => (s2 j hj).2) (d h hh), (hd h hh).2.2⟩, ra.ext ex, oa2⟩
  have hja : j ∉ a1 := fun z => hj (hE j (hv j (dv j z)))
  obtain ⟨x1, x2, x3⟩ := si j hj
  obtain ⟨y1, y2⟩ := s2 j hja
  exact ⟨y1.trans x1, y2.trans x2, fun a ha o eo => ex a o (x3 a ha o eo)⟩
/-- a test is made -/
theorem LI.test {P : List T → List T → Prop} {Q : Bool → Hp → Prop} {H2 : Hp} (dh : ∀ j ∈ hid, j ∉ e2) (hE : ∀ j ∈ e2, j ∈ E) (d : ∀ h ∈ hs, ∀ j ∈ h.bo, j ∉ e2) (R1 : SR g S1 H1 σ0 Ts1 A1)
    (h : LI g H A S1 H1 A1 Ts1 E hs Da hid σ (fun acc Ti => ∃ b Ta, tt Ti = some (b, Ta) ∧ P acc Ti) H2)
    (k : ∀ b H3, LI g H A S1 H1 A1 Ts1 E hs Da hid σ (fun acc Ta => ∃ Ti, tt Ti = some (b, Ta) ∧ P acc Ti) H3 → Q b H3) : TMt g tt e2 σ H2 Q := by
  obtain ⟨S', Tsi, A', acc, Aa, Ri, hA, ⟨b, Ta, qa, qP⟩, pi, si, hd, ra, oa⟩ := h
  refine ⟨S', Tsi, A', b, Ta, Ri, qa, fun H3 S3 A3 R3 p3 s3 => ?_⟩
  have hca := Rp.cells _ _ _ ra
  refine k b H3 ⟨S3, Ta, A3, acc, Aa, R3, fun j hj => ((s3 j (dh j hj)).2.1).trans (hA j hj), ⟨Tsi, qa, qP⟩, pi.trans R1 p3, fun j hj => ?_, fun h hh => ⟨RpL.held Ri (hd h hh).1 (hd h hh).2.1 p3 s3 (d h hh), (hd h hh).2.1.held Ri R3 (RpL.cells _ _ _ (hd h hh).1) p3 s3 (d h hh), (hd h hh).2.2⟩, ra.held Ri oa p3 s3 (fun _ z => nomatch z), oa.held Ri R3 hca p3 s3 (fun _ z => nomatch z)⟩
  obtain ⟨x1, x2, x3⟩ := si j hj
  obtain ⟨z1, z2, z3⟩ := s3 j fun z => hj (hE j z)
  exact ⟨z1.trans x1, z2.trans x2, fun a ha o eo => z3 a (by rw [x2]; exact ha) o (x3 a ha o eo)⟩
/-- an element is put in -/
theorem LI.elt {P : List T → List T → Prop} {H2 : Hp} {Q : Hp → Prop} (R : SR g S H σ0 Ts A) (p1 : Po S H A S1 H1 A1) (hDa : H1 Da = none) (dh : ∀ j ∈ hid, j ∉ e3) (hE : ∀ j ∈ e3, j ∈ E) (d : ∀ h ∈ hs, ∀ j ∈ h.bo, j ∉ e3) (R1 : SR g S1 H1 σ0 Ts1 A1)
    (h : LI g H A S1 H1 A1 Ts1 E hs Da hid σ (fun acc Ti => ∃ r Ta, te Ti = some (r, Ta) ∧ acc.length < sizeLine ∧ P (acc ++ [r]) Ta) H2)
    (k : ∀ H3, LI g H A S1 H1 A1 Ts1 E hs Da hid σ P H3 → Q H3) : TM g te e3 [] σ H2 fun y H4 => ∃ acc, H4 Da = some (.lst acc) ∧ acc.length < sizeLine ∧ Q (upd H4 Da (.lst (acc ++ [y]))) := by
  obtain ⟨S', Tsi, A', acc, Aa, Ri, hA, ⟨r, Ta, qa, hz, qP⟩, pi, si, hd, ra, oa⟩ := h
  refine ⟨S', Tsi, A', r, Ta, Ri, qa, fun y H4 S4 A4 Ay R4 ry oy p5 s5 => ?_⟩
  have hca : ∀ a ∈ Aa, Mut (H2 a) := Rp.cells _ _ _ ra
  have ra4 := ra.held Ri oa p5 s5 (fun _ z => nomatch z)
  have oa4 := oa.held Ri R4 hca p5 s5 (fun _ z => nomatch z)
  have oap := Ow.app (p1.trans R pi) hca oa oa4 oy
  obtain ⟨a, accV, B, e1, at_, eA, _, rl⟩ := ra4
  injection e1 with e1
  subst e1
  have at_ : H4 Da = some (.lst accV) := at_
  have eA : Aa = Da :: B := eA
  subst eA
  have ndp : (Da :: B ++ Ay).Nodup := oap.nd rfl
  obtain ⟨n1, n2'⟩ := List.nodup_cons.mp ndp
  have nDB : Da ∉ B := fun z => n1 (List.mem_append_left _ z)
  have nDy : Da ∉ Ay := fun z => n1 (List.mem_append_right _ z)
  have nS : ¬ S4 Da := oa4.ns Da List.mem_cons_self
  have nA : ∀ i, Da ∉ A4 i := fun i => oa4.dj i (fun z => nomatch z) Da List.mem_cons_self
  refine ⟨accV, at_, by rw [← RpL.length _ _ _ rl]; exact hz, k _ ?_⟩
  have hA4 : ∀ j ∈ hid, A4 j = [] := fun j hj => ((s5 j (dh j hj)).2.1).trans (hA j hj)
  have Rg := R4.grow (o' := .lst (accV ++ [y])) at_ trivial nA nS
  have ry2 : RpL g S4 (upd H4 Da (.lst (accV ++ [y]))) [r] [y] Ay := RpL.grown (RpL.one ry) at_ trivial nS nDy
  have rl2 := RpL.grown (o := .lst (accV ++ [y])) rl at_ trivial nS nDB
  refine ⟨S4, Ta, A4, acc ++ [r], Da :: (B ++ Ay), Rg, hA4, qP, (pi.trans R1 p5).grown hDa, fun j hj => ?_, fun h hh => ⟨RpL.grown (RpL.held Ri (hd h hh).1 (hd h hh).2.1 p5 s5 (d h hh)) at_ trivial nS fun z => (hd h hh).2.2 Da z rfl, (hd h hh).2.1.held Ri R4 (RpL.cells _ _ _ (hd h hh).1) p5 s5 (d h hh), (hd h hh).2.2⟩, ⟨Da, accV ++ [y], B ++ Ay, rfl, upd_same, rfl, .inl rfl, RpL.append _ _ _ _ _ _ rl2 ry2⟩, oap⟩
  have sg := (si.trans s5).grown (o := .lst (accV ++ [y])) hDa j fun z => hj ((List.mem_append.mp z).elim id fun z => hE j z)
  exact sg
theorem LI.imp {P P' : List T → List T → Prop} {H' : Hp} (h : LI g H A S1 H1 A1 Ts1 E hs Da hid σ P H') (i : ∀ acc Ti, P acc Ti → P' acc Ti) : LI g H A S1 H1 A1 Ts1 E hs Da hid σ P' H' := by
  obtain ⟨S', Tsi, A', acc, Aa, Ri, hA, qP, w⟩ := h
  exact ⟨S', Tsi, A', acc, Aa, Ri, hA, i _ _ qP, w⟩
/-- the names are wiped -/
theorem LI.wiped {P : List T → List T → Prop} {H' : Hp} {σ2 : L2.St} (ew : wipe σ2 vs = wipe σ vs) (hv : ∀ j ∈ vs, j ∈ hid) (hE : ∀ j ∈ hid, j ∈ E) (h : LI g H A S1 H1 A1 Ts1 E hs Da hid σ2 (fun acc Ti => P acc (wipeT Ti vs)) H') : LI g H A S1 H1 A1 Ts1 E hs Da hid (wipe σ vs) P H' := by
  obtain ⟨S', Tsi, A', acc, Aa, Ri, hA, qP, pi, si, w⟩ := h
  refine ⟨S', wipeT Tsi vs, A', acc, Aa, Ri.turned ew fun j hj => hA j (hv j hj), hA, qP, pi, fun j hj => ?_, w⟩
  obtain ⟨x1, x2, x3⟩ := si j hj
  exact ⟨(wipeT_out vs Tsi j fun z => hj (hE j (hv j z))).trans x1, x2, x3⟩
/-- one item of a walk -/
theorem LI.step {F : List T × List T} {t : T} {ts : List T} {x : V} {H' H2 : Hp} (R : SR g S H σ0 Ts A) (p1 : Po S H A S1 H1 A1) (hDa : H1 Da = none) (dv : ∀ j ∈ a1, j ∈ vs) (hv : ∀ j ∈ vs, j ∈ hid) (hE : ∀ j ∈ hid, j ∈ E) (hE2 : ∀ j ∈ e2 ++ e3, j ∈ E) (d : ∀ h ∈ hs, ∀ j ∈ h.bo, j ∉ a1 ++ (e2 ++ e3)) (dh : ∀ j ∈ hid, j ∉ e2 ++ e3) (R1 : SR g S1 H1 σ0 Ts1 A1)
    (h : LI g H A S1 H1 A1 Ts1 E hs Da hid (wipe σ vs) (fun acc Ti => lcM m tt te vs (t :: ts) acc Ti = some F) H') (ex : ∀ a o, H' a = some o → H2 a = some o) (hy : ∀ S2, (∀ h ∈ hs, RpL g S2 H' h.cs h.cx h.ax) → Rp g S2 H2 t x []) :
    TGm g m a1 x (wipe σ vs) H2 fun σ2 H2 => wipe σ2 vs = wipe σ vs ∧ TMt g tt e2 σ2 H2 fun b H3 => if b = true then TM g te e3 [] σ2 H3 fun y H4 => ∃ acc, H4 Da = some (.lst acc) ∧ acc.length < sizeLine ∧ LI g H A S1 H1 A1 Ts1 E hs Da hid (wipe σ vs) (fun acc Ti => lcM m tt te vs ts acc Ti = some F) (upd H4 Da (.lst (acc ++ [y]))) else LI g H A S1 H1 A1 Ts1 E hs Da hid (wipe σ vs) (fun acc Ti => lcM m tt te vs ts acc Ti = some F) H3 := by
  refine LI.put (P := fun acc Ta => ∃ b Tb, tt Ta = some (b, Tb) ∧ (if b then bnd te fun r => if acc.length < sizeLine then (fun Ts => lcM m tt te vs ts (acc ++ [r]) (wipeT Ts vs)) else fun _ => none else fun Ts => lcM m tt te vs ts acc (wipeT Ts vs)) Tb = some F) R dv hv hE (fun h hh j hj z => d h hh j hj (List.mem_append_left _ z)) R1 (h.imp fun acc Ti q => ?_) ex hy fun σ2 ew l2 => ⟨ew, ?_⟩
  · obtain ⟨_, Ta, qa, qb⟩ := bnd_some q
    obtain ⟨b, Tb, qc, qd⟩ := bnd_some qb
    exact ⟨Ta, qa, b, Tb, qc, qd⟩
  refine LI.test (P := fun acc Ta => ∀ b Tb, tt Ta = some (b, Tb) → (if b then bnd te fun r => if acc.length < sizeLine then (fun Ts => lcM m tt te vs ts (acc ++ [r]) (wipeT Ts vs)) else fun _ => none else fun Ts => lcM m tt te vs ts acc (wipeT Ts vs)) Tb = some F) (fun j hj z => dh j hj (List.mem_append_left _ z)) (fun j z => hE2 j (List.mem_append_left _ z)) (fun h hh j hj z => d h hh j hj (List.mem_append_right _ (List.mem_append_left _ z))) R1 (l2.imp fun acc Ta q => ?_) fun b H3 l3 => ?_
  · obtain ⟨b, Tb, q1, q2⟩ := q
    exact ⟨b, Tb, q1, fun b' Tb' q1' => by rw [q1] at q1'; injection q1' with q1'; injection q1' with w1 w2; subst w1; subst w2; exact q2⟩
  cases b with
  | false =>
    refine iteF (LI.wiped ew hv hE (l3.imp fun acc Tb q => ?_))
    obtain ⟨Ta, q1, q2⟩ := q
    exact q2 false Tb q1
  | true =>
    refine iteT (LI.elt (P := fun acc Ti => lcM m tt te vs ts acc (wipeT Ti vs) = some F) R p1 hDa (fun j hj z => dh j hj (List.mem_append_right _ z)) (fun j z => hE2 j (List.mem_append_right _ z)) (fun h hh j hj z => d h hh j hj (List.mem_append_right _ (List.mem_append_right _ z))) R1 (l3.imp fun acc Tb q => ?_) fun H4 l4 => LI.wiped ew hv hE l4)
    obtain ⟨Ta, q1, q2⟩ := q
    have q3 := q2 true Tb q1
    obtain ⟨r, Tc, q4, q5⟩ := bnd_some q3
    split at q5
    · rename_i hz
      exact ⟨r, Tc, q4, hz, q5⟩
    · cases q5
def lc2M (m : T → M Unit) (mi1 : M (List T)) (m1 : T → M Unit) (tt1 : M Bool) (te : M T) (vs vs1 : List Nat) : List T → List T → M (List T)
  | [], acc => ret acc
  | t :: ts, acc => bnd (m t) fun _ => bnd mi1 fun items => fun Ts => match lcM m1 tt1 te vs1 items acc (wipeT Ts vs1) with
    | some (acc', Ts') => lc2M m mi1 m1 tt1 te vs vs1 ts acc' (wipeT Ts' vs)
    | none => none
def mLc2 (mi : M (List T)) (m : T → M Unit) (mi1 : M (List T)) (m1 : T → M Unit) (tt1 : M Bool) (te : M T) (vs vs1 : List Nat) : M T := bnd mi fun items => fun Ts => if vs.all (fun i => hidOk (slot Ts i)) then (match lc2M m mi1 m1 tt1 te vs vs1 items [] (wipeT Ts vs) with
  | some (acc, Ts2) => some (.nd (.lst true) acc, rest Ts Ts2 vs)
  | none => none) else none
/-- the second source is opened -/
theorem LI.open1 {P : List T → List T → Prop} {Q : It → Hp → Prop} {H2 : Hp} {σ2 : L2.St} (R : SR g S H σ0 Ts A) (p1 : Po S H A S1 H1 A1) (dh : ∀ j ∈ hid, j ∉ e2) (hE : ∀ j ∈ e2, j ∈ E) (d : ∀ h ∈ hs, ∀ j ∈ h.bo, j ∉ e2) (R1 : SR g S1 H1 σ0 Ts1 A1)
    (h : LI g H A S1 H1 A1 Ts1 E hs Da hid σ2 (fun acc Ti => ∃ items Ta, mi1 Ti = some (items, Ta) ∧ P acc Ti) H2) (hDm : ∀ H' S' (acc : List T) Aa, Rp g S' H' (.nd (.lst true) acc) (.ref Da) Aa → H' Da ≠ none)
    (k : ∀ J H3 items (cs1 : List T) (cx1 : List V) (Ax1 : List Addr), Walk J items.length (fun H2 => ∃ S2, RpL g S2 H2 cs1 cx1 Ax1) (fun i H2 x H3 => (∀ a o, H2 a = some o → H3 a = some o) ∧ ∀ S2, RpL g S2 H2 cs1 cx1 Ax1 → ∃ t, items[i]? = some t ∧ Rp g S2 H3 t x []) →
      LI g H A S1 H1 A1 Ts1 E (⟨cs1, cx1, Ax1, b2⟩ :: hs) Da hid σ2 (fun acc Ta => ∃ Ti, mi1 Ti = some (items, Ta) ∧ P acc Ti) H3 → Q J H3) : TIm g mi1 e2 b2 σ2 H2 Q := by
  obtain ⟨S', Tsi, A', acc, Aa, Ri, hA, ⟨items, Ta, qa, qP⟩, pi, si, hd, ra, oa⟩ := h
  refine ⟨S', Tsi, A', items, Ta, Ri, qa, fun J H3 S3 A3 R3 it p3 s3 => ?_⟩
  obtain ⟨cs1, cx1, Ax1, rc, oc, wk⟩ := it
  have hca := Rp.cells _ _ _ ra
  have oa3 := oa.held Ri R3 hca p3 s3 (fun _ z => nomatch z)
  have DA : Da ∈ Aa := by
    obtain ⟨a, xs, B, e, at_, eA, _, _⟩ := ra
    injection e with e
    subst e
    rw [eA, if_pos (show (Kd.lst true).own = true from rfl)]; exact List.mem_cons_self
  refine k J H3 items cs1 cx1 Ax1 wk ⟨S3, Ta, A3, acc, Aa, R3, fun j hj => ((s3 j (dh j hj)).2.1).trans (hA j hj), ⟨Tsi, qa, qP⟩, pi.trans R1 p3, fun j hj => ?_, fun h hh => ?_, ra.held Ri oa p3 s3 (fun _ z => nomatch z), oa3⟩
  · obtain ⟨x1, x2, x3⟩ := si j hj
    obtain ⟨z1, z2, z3⟩ := s3 j fun z => hj (hE j z)
    exact ⟨z1.trans x1, z2.trans x2, fun a ha o eo => z3 a (by rw [x2]; exact ha) o (x3 a ha o eo)⟩
  · rcases List.mem_cons.mp hh with rfl | hh
    · refine ⟨rc, oc.rebase (p1.trans R pi), fun a ha e => ?_⟩
      subst e
      rcases oc.new a ha with ⟨j, hj⟩ | h
      · exact oa.dj j (fun z => nomatch z) a DA hj
      · exact mut_ne (hca a DA) h
    · exact ⟨RpL.held Ri (hd h hh).1 (hd h hh).2.1 p3 s3 (d h hh), (hd h hh).2.1.held Ri R3 (RpL.cells _ _ _ (hd h hh).1) p3 s3 (d h hh), (hd h hh).2.2⟩
theorem yes_of {σ : L2.St} {H : Hp} {Q : Bool → Hp → Prop} (h : Q true H) : tYes σ H Q := h
theorem drop_at {α : Type} {l : List α} {i : Nat} {t : α} (h : l[i]? = some t) : l.drop i = t :: l.drop (i + 1) := by
  obtain ⟨h1, h2⟩ := List.getElem?_eq_some_iff.mp h
  rw [← h2]; exact List.drop_eq_getElem_cons h1
theorem wipe_wipe {σ2 σ : L2.St} {vs vs1 : List Nat} (hv : ∀ j ∈ vs1, j ∈ vs) (e : wipe σ2 vs = wipe σ vs) : wipe (wipe σ2 vs1) vs = wipe σ vs := by
  have hl : σ2.length = σ.length := by rw [← wipe_length σ2 vs, e, wipe_length]
  refine List.ext_getElem? fun j => ?_
  by_cases hj : j ∈ vs
  · by_cases hl2 : j < σ.length
    · rw [wipe_in (by rw [wipe_length]; omega) hj, wipe_in hl2 hj]
    · rw [List.getElem?_eq_none_iff.mpr (by rw [wipe_length, wipe_length]; omega), List.getElem?_eq_none_iff.mpr (by rw [wipe_length]; omega)]
  · rw [wipe_out hj, wipe_out (fun z => hj (hv j z)), ← e, wipe_out hj]
theorem lc2_r {tt1 : M Bool} {e4 : List Nat} (dv : ∀ j ∈ a1, j ∈ vs) (dv1 : ∀ j ∈ a2, j ∈ vs1) (hv1 : ∀ j ∈ vs1, j ∈ vs) (d : ∀ j ∈ b1, j ∉ a1 ++ (e2 ++ (a2 ++ (e3 ++ e4)))) (d2 : ∀ j ∈ b2, j ∉ a2 ++ (e3 ++ e4)) (dh : ∀ j ∈ vs, j ∉ e2 ++ (e3 ++ e4))
    (σ : L2.St) (H : Hp) (Q : VK) (h : TM g (mLc2 mi m mi1 m1 tt1 te vs vs1) (e1 ++ (e2 ++ (e3 ++ e4))) [] σ H Q) : tLc2 (TIm g mi e1 b1) (TGm g m a1) tYes (TIm g mi1 e2 b2) (TGm g m1 a2) (TMt g tt1 e3) (TM g te e4 []) vs vs1 σ H Q := by
  obtain ⟨S, Ts, A, t, Ts', R, q, k⟩ := h
  obtain ⟨items, Ts1, q1, q2⟩ := bnd_some q
  split at q2
  · rename_i hh
    have hh : ∀ i ∈ vs, hidOk (slot Ts1 i) = true := fun i hi => List.all_eq_true.mp hh i hi
    cases q3 : lc2M m mi1 m1 tt1 te vs vs1 items [] (wipeT Ts1 vs) with
    | none => rw [q3] at q2; cases q2
    | some pr =>
      obtain ⟨accF, TsF⟩ := pr
      rw [q3] at q2
      have q2 : some (T.nd (.lst true) accF, rest Ts1 TsF vs) = some (t, Ts') := q2
      injection q2 with q2
      injection q2 with h1 h2
      subst h1; subst h2
      refine ⟨S, Ts, A, items, Ts1, R, q1, fun J H1 S1 A1 R1 it p1 s1 Da hDa => ?_⟩
      obtain ⟨cs, cx, Ax, rc, oc, wk⟩ := it
      have ex0 := upd_ext (o := .lst []) hDa
      have fr := R1.fresh hDa
      have bkD : (∃ j, Da ∈ A j) ∨ H Da = none := by
        cases e : H Da with
        | none => exact .inr rfl
        | some ob =>
          by_cases hj : ∃ j, Da ∈ A j
          · exact .inl hj
          · rw [p1.keep Da ob e fun i hi => hj ⟨i, hi⟩] at hDa; cases hDa
      have hE : ∀ j ∈ vs, j ∈ vs ++ (e2 ++ (e3 ++ e4)) := fun j hj => List.mem_append_left _ hj
      refine ⟨fun i n H' => n = items.length - i ∧ i ≤ items.length ∧ LI g H A S1 H1 A1 Ts1 (vs ++ (e2 ++ (e3 ++ e4))) [⟨cs, cx, Ax, b1⟩] Da vs (wipe σ vs) (fun acc Ti => lc2M m mi1 m1 tt1 te vs vs1 (items.drop i) acc Ti = some (accF, TsF)) H', ⟨items.length, rfl, Nat.zero_le _, S1, wipeT Ts1 vs, A1, [], [Da], (R1.ext ex0).wiped vs hh, fun j hj => hid_nil R1 (hh j hj), q3, Po.ext ex0, ?_, ?_, ⟨Da, [], [], rfl, upd_same, rfl, .inl rfl, rfl, rfl⟩, ⟨?_, ?_, fun _ => List.nodup_cons.mpr ⟨(fun z => nomatch z), List.nodup_nil⟩, ?_⟩⟩, ?_⟩
      · exact fun j hj => ⟨wipeT_out vs Ts1 j fun z => hj (List.mem_append_left _ z), rfl, fun a _ o eo => ex0 a o eo⟩
      · intro h hh2
        rw [List.mem_singleton.mp hh2]
        refine ⟨rc.ext ex0, oc, fun a ha e => ?_⟩
        subst e
        exact mut_ne (RpL.cells _ _ _ rc a ha) hDa
      · intro a ha
        rw [List.mem_singleton.mp ha]; exact fr.1
      · intro i _ a ha
        rw [List.mem_singleton.mp ha]; exact fr.2 i
      · intro a ha
        rw [List.mem_singleton.mp ha]; exact bkD
      · rintro i n H' ⟨rfl, hi, li⟩
        have hG : ∃ S2, RpL g S2 H' cs cx Ax := by
          obtain ⟨S', _, _, _, _, _, _, _, _, _, hd, _⟩ := id li
          exact ⟨S', (hd _ (List.mem_singleton.mpr rfl)).1⟩
        by_cases hlt : i < items.length
        · refine .inr ⟨wk.goes i H' hlt hG, fun H2 => LI g H A S1 H1 A1 Ts1 (vs ++ (e2 ++ (e3 ++ e4))) [⟨cs, cx, Ax, b1⟩] Da vs (wipe σ vs) (fun acc Ti => lc2M m mi1 m1 tt1 te vs vs1 (items.drop (i + 1)) acc Ti = some (accF, TsF)) H2, fun H2 l2 => ⟨_, by omega, rfl, hlt, l2⟩, fun x H2 yl => ?_⟩
          obtain ⟨ex, hy⟩ := wk.yields i H' x H2 hlt hG yl
          have ti : ∃ t, items[i]? = some t := ⟨items[i], by simp [hlt]⟩
          obtain ⟨t, ht⟩ := ti
          refine LI.put (t := t) (P := fun acc Ta => ∃ its Tb, mi1 Ta = some (its, Tb) ∧ ∃ a' T', lcM m1 tt1 te vs1 its acc (wipeT Tb vs1) = some (a', T') ∧ lc2M m mi1 m1 tt1 te vs vs1 (items.drop (i + 1)) a' (wipeT T' vs) = some (accF, TsF)) R dv (fun j hj => hj) hE (fun h hh2 j hj z => ?_) R1 (li.imp fun acc Ti qq => ?_) ex (fun S2 hS2 => ?_) fun σ2 ew l2 => ⟨ew, yes_of (iteT ?_)⟩
          · rw [List.mem_singleton.mp hh2] at hj
            exact d j hj (List.mem_append_left _ z)
          · rw [drop_at ht] at qq
            obtain ⟨_, Ta, qa, qb⟩ := bnd_some qq
            obtain ⟨its, Tb, qc, qd⟩ := bnd_some qb
            cases ql : lcM m1 tt1 te vs1 its acc (wipeT Tb vs1) with
            | none => rw [ql] at qd; cases qd
            | some pr =>
              obtain ⟨a', T'⟩ := pr
              rw [ql] at qd
              exact ⟨Ta, qa, its, Tb, qc, a', T', ql, qd⟩
          · obtain ⟨t', ht', rt⟩ := hy S2 (hS2 _ (List.mem_singleton.mpr rfl))
            rw [ht] at ht'
            injection ht' with ht'
            subst ht'
            exact rt
          refine LI.open1 (P := fun acc Ta => ∀ its Tb, mi1 Ta = some (its, Tb) → ∃ a' T', lcM m1 tt1 te vs1 its acc (wipeT Tb vs1) = some (a', T') ∧ lc2M m mi1 m1 tt1 te vs vs1 (items.drop (i + 1)) a' (wipeT T' vs) = some (accF, TsF)) R p1 (fun j hj z => dh j hj (List.mem_append_left _ z)) (fun j hj => List.mem_append_right _ (List.mem_append_left _ hj)) (fun h hh2 j hj z => ?_) R1 (l2.imp fun acc Ta qq => ?_) (fun H' S' acc Aa r z => ?_) fun J1 H3 its cs1 cx1 Ax1 wk1 l3 => ?_
          · rw [List.mem_singleton.mp hh2] at hj
            exact d j hj (List.mem_append_right _ (List.mem_append_left _ z))
          · obtain ⟨its, Tb, w1, w2⟩ := qq
            exact ⟨its, Tb, w1, fun its' Tb' w1' => by rw [w1] at w1'; injection w1' with w1'; injection w1' with u1 u2; subst u1; subst u2; exact w2⟩
          · obtain ⟨a, xs, B, e, at_, _⟩ := r
            injection e with e
            subst e
            have at_ : H' Da = some (.lst xs) := at_
            rw [at_] at z; cases z
          -- the inner walk, its result fixed
          have key : ∃ F : List T × List T, LI g H A S1 H1 A1 Ts1 (vs ++ (e2 ++ (e3 ++ e4))) (⟨cs1, cx1, Ax1, b2⟩ :: [⟨cs, cx, Ax, b1⟩]) Da vs σ2 (fun acc Ta => lcM m1 tt1 te vs1 its acc (wipeT Ta vs1) = some F) H3 ∧ lc2M m mi1 m1 tt1 te vs vs1 (items.drop (i + 1)) F.1 (wipeT F.2 vs) = some (accF, TsF) := by
            obtain ⟨S', Tsi, A', acc, Aa, Ri, hA, ⟨Ti, qa, qP⟩, w⟩ := l3
            obtain ⟨a', T', qb, qc⟩ := qP its Tsi qa
            exact ⟨(a', T'), ⟨S', Tsi, A', acc, Aa, Ri, hA, qb, w⟩, qc⟩
          obtain ⟨F, l4, qF⟩ := key
          have l5 := LI.wiped (vs := vs1) (σ := σ2) (P := fun acc Ti => lcM m1 tt1 te vs1 its acc Ti = some F) rfl hv1 hE l4
          refine ⟨fun j n H' => n = its.length - j ∧ j ≤ its.length ∧ LI g H A S1 H1 A1 Ts1 (vs ++ (e2 ++ (e3 ++ e4))) (⟨cs1, cx1, Ax1, b2⟩ :: [⟨cs, cx, Ax, b1⟩]) Da vs (wipe σ2 vs1) (fun acc Ti => lcM m1 tt1 te vs1 (its.drop j) acc Ti = some F) H', ⟨its.length, rfl, Nat.zero_le _, l5⟩, ?_⟩
          rintro j n H4 ⟨rfl, hj, lj⟩
          have hG1 : ∃ S2, RpL g S2 H4 cs1 cx1 Ax1 := by
            obtain ⟨S', _, _, _, _, _, _, _, _, _, hd, _⟩ := id lj
            exact ⟨S', (hd _ List.mem_cons_self).1⟩
          by_cases hjl : j < its.length
          · refine .inr ⟨wk1.goes j H4 hjl hG1, fun H5 => LI g H A S1 H1 A1 Ts1 (vs ++ (e2 ++ (e3 ++ e4))) (⟨cs1, cx1, Ax1, b2⟩ :: [⟨cs, cx, Ax, b1⟩]) Da vs (wipe σ2 vs1) (fun acc Ti => lcM m1 tt1 te vs1 (its.drop (j + 1)) acc Ti = some F) H5, fun H5 l6 => ⟨_, by omega, rfl, hjl, l6⟩, fun y H5 yl1 => ?_⟩
            obtain ⟨ex1, hy1⟩ := wk1.yields j H4 y H5 hjl hG1 yl1
            have tj : ∃ t, its[j]? = some t := ⟨its[j], by simp [hjl]⟩
            obtain ⟨u, hu⟩ := tj
            rw [drop_at hu] at lj
            refine LI.step (a1 := a2) (e2 := e3) (e3 := e4) (m := m1) (tt := tt1) R p1 hDa dv1 hv1 hE (fun j hj => List.mem_append_right _ (List.mem_append_right _ hj)) (fun h hh2 j hj z => ?_) (fun j hj z => dh j hj (List.mem_append_right _ z)) R1 lj ex1 fun S2 hS2 => ?_
            · rcases List.mem_cons.mp hh2 with rfl | hh2
              · exact d2 j hj z
              · rw [List.mem_singleton.mp hh2] at hj
                exact d j hj (List.mem_append_right _ (List.mem_append_right _ z))
            · obtain ⟨t', ht', rt⟩ := hy1 S2 (hS2 _ List.mem_cons_self)
              rw [hu] at ht'
              injection ht' with ht'
              subst ht'
              exact rt
          · have ej : j = its.length := by omega
            subst ej
            refine .inl ⟨wk1.stops H4 hG1, ?_⟩
            obtain ⟨S', Tsi, A', acc, Aa, Ri, hA, qP, pi, si, hd, ra, oa⟩ := lj
            rw [List.drop_length] at qP
            have qP : some (acc, Tsi) = some F := qP
            injection qP with qP
            subst qP
            refine LI.wiped (wipe_wipe hv1 ew) (fun j hj => hj) hE ⟨S', Tsi, A', acc, Aa, Ri, hA, qF, pi, si, fun h hh2 => hd h (List.mem_cons_of_mem _ hh2), ra, oa⟩
        · have ei : i = items.length := by omega
          subst ei
          refine .inl ⟨wk.stops H' hG, ?_⟩
          obtain ⟨S', Tsi, A', acc, Aa, Ri, hv, qi, pi, si, hd, ra, oa⟩ := li
          rw [List.drop_length] at qi
          have qi : some (acc, Tsi) = some (accF, TsF) := qi
          injection qi with qi
          injection qi with h1 h2
          subst h1; subst h2
          refine k (.ref Da) H' S' A' Aa (R1.rested pi Ri hh hv) ra oa (p1.trans R pi) fun j hj => ?_
          obtain ⟨x1, x2, x3⟩ := s1 j fun z => hj (List.mem_append_left _ z)
          by_cases hjv : j ∈ vs
          · have hl : Ts1.length = Tsi.length := by rw [R1.len, Ri.len, wipe_length]
            refine ⟨(rest_in vs Tsi j hjv hl).trans x1, ?_, fun a ha o eo => ?_⟩
            · rw [hv j hjv, ← x2, hid_nil R1 (hh j hjv)]
            · rw [← x2, hid_nil R1 (hh j hjv)] at ha
              exact nomatch ha
          · obtain ⟨y1, y2, y3⟩ := si j fun z => (List.mem_append.mp z).elim hjv fun z => hj (List.mem_append_right _ z)
            exact ⟨(rest_out vs Tsi j hjv).trans (y1.trans x1), y2.trans x2, fun a ha o eo => y3 a (by rw [x2]; exact ha) o (x3 a ha o eo)⟩
  · cases q2
end
end MI
/-! Mj: zip, the rule for two sources. -/
namespace MI
open PySem PySem.Spec PyProof.Rows L2
section
variable {g : Gc} {X : Cx} {e e' tg iter tg1 iter1 elt : Expr} {ifs1 : List Expr} {fs : M (List T)} {m m1 : T → M Unit} {tt : M Bool} {te : M T} {mi mi1 : M (List T)} {a1 a2 e1 e2 e3 e4 b1 b2 : List Nat} {pos p2 tpos spos py : Pos} {elts : List Expr} {kk : Nat}
def zipT (xs ys : List T) : List T := (xs.zip ys).map fun p => .nd .tup [p.1, p.2]
def zipF (ts : List T) : Option (List T) := match ts with
  | [.nd .tup xs, .nd .tup ys] => if immL xs && immL ys then some (zipT xs ys) else none
  | [.nd (.lst _) xs, .nd (.lst _) ys] => if immL xs && immL ys then some (zipT xs ys) else none
  | _ => none
theorem zipT_at {xs ys : List T} {i : Nat} {x y : T} (hx : xs[i]? = some x) (hy : ys[i]? = some y) : (zipT xs ys)[i]? = some (.nd .tup [x, y]) := by
  unfold zipT
  have h : (xs.zip ys)[i]? = some (x, y) := List.getElem?_zip_eq_some.mpr ⟨hx, hy⟩
  rw [List.getElem?_map, h]; rfl
theorem zipT_len {xs ys : List T} : (zipT xs ys).length = min xs.length ys.length := by
  unfold zipT
  rw [List.length_map, List.length_zip]
theorem it_zip (hK : g.K = X.K) (hg : Gl X "zip") (hm : X.mg "zip" = none) (ha : PAm g X [e, e'] fs e1 b1) (hs : starEach [e, e'] X.env = (false, eval e X.env) :: starEach [e'] X.env := by rfl) (hpl : (backTo pos (starEach [e'] X.env)).any (·.1) = false := by rfl) :
    PIm g X (.Tuple elts kk tpos) (.Call (.Name "zip" p2) [e, e'] [] pos) (mRng zipF fs) e1 b1 :=
  PI.imp (RZ.pi_zipA hg hm ha hs hpl) fun σ H Rr ⟨S, Ts, A, items, Ts', R, q, k⟩ => by
    obtain ⟨ts, Ts1, q1, q2⟩ := bnd_some q
    obtain ⟨q3, q4⟩ := lft_some q2
    subst q4
    unfold zipF at q3
    split at q3
    · rename_i xs ys
      split at q3
      · rename_i hi
        obtain ⟨hi1, hi2⟩ := Bool.and_eq_true_iff.mp hi
        injection q3 with q3
        subst q3
        refine ⟨S, Ts, A, _, Ts', R, q1, fun vs H1 S1 A1 Ax R1 rx ox p s => ?_⟩
        have look : ∀ H2 S2 (u v : Addr), RpL g S2 H2 [.nd .tup xs, .nd .tup ys] [.ref u, .ref v] Ax → ∃ us ws, SqT X.K H2 u us ∧ SqT X.K H2 v ws ∧ us.length = xs.length ∧ ws.length = ys.length ∧ RpL g S2 H2 xs us [] ∧ RpL g S2 H2 ys ws [] := fun H2 S2 u v h => by
          obtain ⟨y, y', B, C, w1, w2, w3⟩ := h.get2
          injection w1 with w1 w4
          injection w4 with w4 _
          subst w1; subst w4
          obtain ⟨a, us, B1, ex, at1, _, _, rl1⟩ := w2
          injection ex with ex
          subst ex
          obtain ⟨b, ws, B2, ex2, at2, _, _, rl2⟩ := w3
          injection ex2 with ex2
          subst ex2
          exact ⟨us, ws, hK ▸ At.sqT at1, hK ▸ At.sqT at2, (RpL.length _ _ _ rl1).symm, (RpL.length _ _ _ rl2).symm, rl1.imm_one hi1, rl2.imm_one hi2⟩
        obtain ⟨y, y', B, C, w1, w2, w3⟩ := rx.get2
        obtain ⟨u, us0, _, ex1, _⟩ := w2
        obtain ⟨v, ws0, _, ex2, _⟩ := w3
        subst ex1; subst ex2
        subst w1
        obtain ⟨us, ws, s1, s2, l1, l2, r1, r2⟩ := look H1 S1 u v rx
        refine ⟨u, v, us, ws, rfl, .inr ⟨s1, s2, k _ H1 S1 A1 R1 ⟨_, _, Ax, rx, ox, fun i H2 hlt ⟨S2, hG⟩ => ?_, fun H2 ⟨S2, hG⟩ => ?_, fun i H2 x H3 hlt ⟨S2, hG⟩ yd => ?_⟩ p s⟩⟩
        · obtain ⟨us, ws, s1, s2, l1, l2, r1, r2⟩ := look H2 S2 u v hG
          rw [zipT_len] at hlt
          exact ⟨us, ws, us[i]'(by omega), ws[i]'(by omega), s1, s2, by simp, by simp⟩
        · obtain ⟨us, ws, s1, s2, l1, l2, r1, r2⟩ := look H2 S2 u v hG
          exact ⟨us, ws, s1, s2, by rw [zipT_len]; omega⟩
        · obtain ⟨P, x1, y1, ex, hT, eH, hx, hy⟩ := yd
          subst ex
          refine ⟨by rw [eH]; exact upd_ext hT, fun S3 hG3 => ?_⟩
          obtain ⟨us, ws, s1, s2, l1, l2, r1, r2⟩ := look H2 S3 u v hG3
          obtain ⟨t1, ht1, rt1⟩ := RpL.atI r1 (hx us s1)
          obtain ⟨t2, ht2, rt2⟩ := RpL.atI r2 (hy ws s2)
          exact ⟨_, zipT_at ht1 ht2, (pair_rep hT eH rt1 rt2).2⟩
      · cases q3
    · rename_i o1 xs o2 ys
      split at q3
      · rename_i hi
        obtain ⟨hi1, hi2⟩ := Bool.and_eq_true_iff.mp hi
        injection q3 with q3
        subst q3
        refine ⟨S, Ts, A, _, Ts', R, q1, fun vs H1 S1 A1 Ax R1 rx ox p s => ?_⟩
        have look : ∀ H2 S2 (u v : Addr), RpL g S2 H2 [.nd (.lst o1) xs, .nd (.lst o2) ys] [.ref u, .ref v] Ax → ∃ us ws, SqL X.K H2 u us ∧ SqL X.K H2 v ws ∧ us.length = xs.length ∧ ws.length = ys.length ∧ RpL g S2 H2 xs us [] ∧ RpL g S2 H2 ys ws [] := fun H2 S2 u v h => by
          obtain ⟨y, y', B, C, w1, w2, w3⟩ := h.get2
          injection w1 with w1 w4
          injection w4 with w4 _
          subst w1; subst w4
          obtain ⟨a, us, B1, ex, at1, _, _, rl1⟩ := w2
          injection ex with ex
          subst ex
          obtain ⟨b, ws, B2, ex2, at2, _, _, rl2⟩ := w3
          injection ex2 with ex2
          subst ex2
          exact ⟨us, ws, hK ▸ at1.sqL, hK ▸ at2.sqL, (RpL.length _ _ _ rl1).symm, (RpL.length _ _ _ rl2).symm, rl1.imm_one hi1, rl2.imm_one hi2⟩
        obtain ⟨y, y', B, C, w1, w2, w3⟩ := rx.get2
        obtain ⟨u, us0, _, ex1, _⟩ := w2
        obtain ⟨v, ws0, _, ex2, _⟩ := w3
        subst ex1; subst ex2
        subst w1
        obtain ⟨us, ws, s1, s2, l1, l2, r1, r2⟩ := look H1 S1 u v rx
        refine ⟨u, v, us, ws, rfl, .inl ⟨s1, s2, k _ H1 S1 A1 R1 ⟨_, _, Ax, rx, ox, fun i H2 hlt ⟨S2, hG⟩ => ?_, fun H2 ⟨S2, hG⟩ => ?_, fun i H2 x H3 hlt ⟨S2, hG⟩ yd => ?_⟩ p s⟩⟩
        · obtain ⟨us, ws, s1, s2, l1, l2, r1, r2⟩ := look H2 S2 u v hG
          rw [zipT_len] at hlt
          exact ⟨us, ws, us[i]'(by omega), ws[i]'(by omega), s1, s2, by simp, by simp⟩
        · obtain ⟨us, ws, s1, s2, l1, l2, r1, r2⟩ := look H2 S2 u v hG
          exact ⟨us, ws, s1, s2, by rw [zipT_len]; omega⟩
        · obtain ⟨P, x1, y1, ex, hT, eH, hx, hy⟩ := yd
          subst ex
          refine ⟨by rw [eH]; exact upd_ext hT, fun S3 hG3 => ?_⟩
          obtain ⟨us, ws, s1, s2, l1, l2, r1, r2⟩ := look H2 S3 u v hG3
          obtain ⟨t1, ht1, rt1⟩ := RpL.atI r1 (hx us s1)
          obtain ⟨t2, ht2, rt2⟩ := RpL.atI r2 (hy ws s2)
          exact ⟨_, zipT_at ht1 ht2, (pair_rep hT eH rt1 rt2).2⟩
      · cases q3
    · cases q3
/-! ### the rule for two sources -/
theorem tm_lc2 {scope : Scope} {own : List (Str × Nat)} {vs1 : List Nat} (hc : X.calm = true) (hN : X.N.Nodup) (hi : PIm g X tg iter mi e1 b1) (ok : BlkOk X.N X.env.scope scope own)
    (hg : ∀ (s : Shared) (H : Hp) (C : Addr) (cl : List (Str × Addr)) (fp : List Addr), PGm g (X.blk s H scope (compEnvC scope cl C X.env) fp) tg m a1)
    (hi1 : ∀ (s : Shared) (H : Hp) (C : Addr) (cl : List (Str × Addr)) (fp : List Addr), PIm g (X.blk s H scope (compEnvC scope cl C X.env) fp) tg1 iter1 mi1 e2 b2)
    (hg1 : ∀ (s : Shared) (H : Hp) (C : Addr) (cl : List (Str × Addr)) (fp : List Addr), PGm g (X.blk s H scope (compEnvC scope cl C X.env) fp) tg1 m1 a2) (ht1 : ∀ (s : Shared) (H : Hp) (C : Addr) (cl : List (Str × Addr)) (fp : List Addr), PTsm g (X.blk s H scope (compEnvC scope cl C X.env) fp) ifs1 tt e3)
    (he : ∀ (s : Shared) (H : Hp) (C : Addr) (cl : List (Str × Addr)) (fp : List Addr), PEm g (X.blk s H scope (compEnvC scope cl C X.env) fp) elt te e4 [])
    (dv : ∀ j ∈ a1, j ∈ own.map (·.2) := by decide) (dv1 : ∀ j ∈ a2, j ∈ vs1 := by decide) (hv1 : ∀ j ∈ vs1, j ∈ own.map (·.2) := by decide) (d : ∀ j ∈ b1, j ∉ a1 ++ (e2 ++ (a2 ++ (e3 ++ e4))) := by decide) (d2 : ∀ j ∈ b2, j ∉ a2 ++ (e3 ++ e4) := by decide) (dh : ∀ j ∈ own.map (·.2), j ∉ e2 ++ (e3 ++ e4) := by decide)
    (hs : ∀ x, foldedSetIterable iter X.env x = pure x := by intro _; rfl) (hs1 : ∀ env x, foldedSetIterable iter1 env x = pure x := by intro _ _; rfl) :
    PEm g X (.ListComp elt [⟨tg, iter, [], 0⟩, ⟨tg1, iter1, ifs1, 0⟩] scope pos) (mLc2 mi m mi1 m1 tt te (own.map (·.2)) vs1) (e1 ++ (e2 ++ (e3 ++ e4))) [] :=
  PE.imp (pe_lc2 hc hN hi ok hv1 hg (fun _ _ _ _ _ => pts_nil) hi1 hg1 ht1 he hs hs1) (lc2_r dv dv1 hv1 d d2 dh)
end
end MI
/-! Mk: len(set(texts)). -/
namespace MI
open PySem PySem.Spec PyProof.Rows L2
/-- how many different ones among the first i -/
def cN (xs : List Str) : Nat → Nat
  | 0 => 0
  | i + 1 => if (xs.take i).any (· == xs.getD i Str.empty) then cN xs i else cN xs i + 1
theorem cN_le (xs : List Str) : ∀ i, cN xs i ≤ i
  | 0 => Nat.le_refl _
  | i + 1 => by
    have := cN_le xs i
    unfold cN
    split <;> omega
/-! a set is filled: what is in it, and how many -/
section
variable {K : Type} [DecidableEq K]
def addK (p : (K → Bool) × Nat) (k : K) : (K → Bool) × Nat := (fun j => p.1 j || decide (j = k), if p.1 k then p.2 else p.2 + 1)
theorem addK_le (p : (K → Bool) × Nat) (k : K) : (addK p k).2 ≤ p.2 + 1 := by
  show (if p.1 k then p.2 else p.2 + 1) ≤ p.2 + 1
  split <;> omega
end
def noneK {K : Type} : (K → Bool) × Nat := (fun _ => false, 0)
theorem addK_cN (xs : List Str) : ∀ i, i ≤ xs.length → (xs.take i).foldl addK noneK = (fun j => (xs.take i).any (· == j), cN xs i)
  | 0, _ => rfl
  | i + 1, h => by
    have lt : i < xs.length := h
    have here : xs.getD i Str.empty = xs[i] := by rw [List.getD_eq_getElem?_getD, List.getElem?_eq_getElem lt]; rfl
    have split : xs.take (i + 1) = xs.take i ++ [xs[i]] := by rw [List.take_add_one, List.getElem?_eq_getElem lt]; rfl
    rw [split, List.foldl_append, addK_cN xs i (Nat.le_of_lt lt)]
    show addK _ xs[i] = _
    unfold addK
    refine Prod.ext (funext fun j => ?_) ?_
    · show ((xs.take i).any (· == j) || decide (j = xs[i])) = (xs.take i ++ [xs[i]]).any (· == j)
      rw [List.any_append]
      congr 1
      by_cases e : j = xs[i]
      · simp [e]
      · have e2 : ¬ xs[i] = j := fun z => e z.symm
        simp [e, e2]
    · show (if (xs.take i).any (· == xs[i]) then cN xs i else cN xs i + 1) = cN xs (i + 1)
      rw [cN, here]
section
variable {prog : Program} {w : World} {A : Around} {R : Result → Shared → Prop} {I S : Addr} {fp wr : List Addr} {G : Array GenState → Array GenState → Prop} {n : Nat} {P : Nat → Value → Prop} {St : Nat → Shared → Prop} {K : Type} [DecidableEq K]
/-- another object stays the set that it was -/
theorem set_stays {knd : KeyKind prog w K} {h h' : Heap} {mem : K → Bool} {c : Nat} (x : h.SetOf knd S mem c) (k : ∀ o, h.get? S = some o → h'.get? S = some o) : h'.SetOf knd S mem c :=
  x.elim fun o r => r.elim fun es r => r.elim fun ep r => r.elim fun t r => ⟨o, es, ep, t, k o r.1, r.2⟩
/-- the loop that fills a set, over any walk: the keys that are still to come -/
theorem fillK (knd : KeyKind prog w K) (W : WalksS prog w A.in1 I fp wr G n P St) (out : S ∉ fp) : ∀ (ks : List K) (i : Nat) (p : (K → Bool) × Nat) (z : Shared), i + ks.length = n → (∀ j v, P (i + j) v → ∃ k, ks[j]? = some k ∧ knd.is k v = true ∧ v.scannable = true) →
    p.2 + ks.length + 1 < scanBound → St i z → z.heap.SetOf knd S p.1 p.2 → (∀ z', Moved (S :: wr) G z z' → z'.heap.SetOf knd S (ks.foldl addK p).1 (ks.foldl addK p).2 → R (.ok (.ret .none)) z') →
    codeAny (model prog w) A (.builtin "set.update.loop" ⟨[.ref S, .ref I], []⟩) R z := by
  have outW : S ∉ wr := fun m => out (W.sub S m)
  have wide : ∀ {z z' : Shared}, Moved wr G z z' → Moved (S :: wr) G z z' := fun m => m.mono fun _ => List.mem_cons_of_mem S
  intro ks
  induction ks with
  | nil =>
    intro i p z len _ _ st set fin
    have at_ : i = n := by simpa using len
    subst at_
    refine codeAny_builtin PyProof.Rows.F.entry_set_update_loop (Around.under_plainId PyProof.Rows.F.plain_set_update_loop _ ▸ wpAny_bind (W.done z _ _ st fun z' mv => wpAny_pure (fin z' (wide mv) ?_)))
    exact set_stays set fun o e => mv.heap S o outW e
  | cons k ks ih =>
    intro i p z len key few st set fin
    rw [List.length_cons] at len few
    refine codeAny_builtin PyProof.Rows.F.entry_set_update_loop (Around.under_plainId PyProof.Rows.F.plain_set_update_loop _ ▸ wpAny_bind (W.item i z _ _ (by omega) st fun v z1 pv st1 mv => ?_))
    obtain ⟨k', e, isK, flat⟩ := key 0 v pv
    have ek : k' = k := (Option.some.inj e).symm
    subst ek
    have set1 := set_stays set fun o e => mv.heap S o outW e
    refine wpAny_bind (wpAny_holding (wpAny_holding (wpAny_bind (knd.pyHash isK (wpAny_setAddHashed_of (s := { z1 with toks := z1.toks + 1 }) isK flat set1 (by omega) fun h2 same set2 => ?_)))))
    refine wpAny_pure ⟨plainId_quiet PyProof.Rows.F.plain_set_update_loop _, ih (i + 1) (addK p k') _ (by omega) (fun j v pv => ?_) (by have := addK_le p k'; omega) (W.frame _ z1 _ _ st1 (Nat.le_add_right _ 1) fun b m o e => ?_) set2 fun z3 mv3 set3 => fin z3 ?_ set3⟩
    · have := key (j + 1) v (by rw [show i + (j + 1) = i + 1 + j by omega]; exact pv)
      simpa using this
    · exact (same.2 b fun e => out (e ▸ m)).trans e
    · refine Moved.trans W.gtrans ((wide mv).then_heap (Nat.le_add_right _ 1) fun b o m e => ?_) mv3
      exact (same.2 b fun e => m (e ▸ List.mem_cons_self)).trans e
end
section
variable {prog : Program} {w : World} {A : Around} {E : Value → Shared → Prop} {s : Shared}
abbrev newSet (led : Bool) : Obj := { cls := .type "set", dict := none, data := .set #[] 0 (.fresh 0 0 led) }
/-- set.__init__ with a tuple of texts, on a set that was just made -/
theorem set_init_tup {R : Result → Shared → Prop} {S l : Addr} {items : Array Value} {xs : List Str} {led : Bool} (calm : A.handled = none) (new : s.heap.get? S = some (newSet led)) (tup : s.heap.IsTuple l items) (apart : S ≠ l) (txt : StrsAre items.toList xs) (few : xs.length + 1 < scanBound)
    (fin : ∀ h' tk, h'.SetOf (PySem.strKind prog w) S (xs.foldl addK noneK).1 (xs.foldl addK noneK).2 → (∀ b o, b ≠ S → s.heap.get? b = some o → h'.get? b = some o) → R (.ok (.ret .none)) { s with heap := h', toks := tk }) :
    wpAny (model prog w) A.in1 (Builtin.«set.__init__» ⟨[.ref S, .ref l], []⟩) (fun f s' => match f with
      | .done f => R (.ok f) s'
      | .again c => c.quiet = true ∧ codeAny (model prog w) A c R s') (fun e s' => R (.error e) s') s := by
  obtain ⟨hp, gs, dr, tk, os⟩ := s
  have isS : Shared.TypeIs ⟨hp, gs, dr, tk, os⟩ (.ref S) "set" := ⟨_, new, rfl⟩
  have isT : Shared.TypeIs ⟨hp, gs, dr, tk, os⟩ (.ref l) "tuple" := tup.typeIs
  have noSet := PySem.F.sub_tuple_set
  have noFro := PySem.F.sub_tuple_frozenset
  have noDct : (Value.type "tuple" == Value.type "dict") = false := by decide
  unfold Builtin.«set.__init__» noKeywords Builtin.Frozenset.updateFrom
  generalize ei : pyIter = iter
  wp_walk
  subst ei
  have lS : S < hp.objs.size := Heap.lt_size new
  have lL : l < hp.objs.size := tup.elim fun _ r => Heap.lt_size r.1
  have size : xs.length = items.size := by rw [← StrsAre.len_eq txt, Array.length_toList]
  refine wpAny_pyIter_tuple tup (wpAny_bind (wpAny_runValue (fillK (PySem.strKind prog w) (Walks.tuple (by simp [calm]) hp.objs.size l (Nat.ne_of_lt lL) items).toS ?out xs 0 noneK _ (by omega) (fun j v e => ?key) (by show 0 + xs.length + 1 < _; omega) ⟨⟨_, Heap.get?_push_size _ rfl, rfl, rfl⟩, tup.push _⟩ ?set fun z' mv set' => ?fin)))
  case out => simp only [List.mem_cons, List.not_mem_nil, or_false, not_or]; exact ⟨Nat.ne_of_lt lS, apart⟩
  case key =>
    obtain ⟨u, rfl⟩ := SS.strs_at txt j v (by rw [Array.getElem?_toList]; simpa using e)
    have lt : j < xs.length := by rw [size]; exact (Array.getElem?_eq_some_iff.mp (by simpa using e)).1
    exact ⟨xs[j], List.getElem?_eq_getElem lt, by rw [List.getD_eq_getElem?_getD, List.getElem?_eq_getElem lt]; exact strKind_is _ _ _ _, rfl⟩
  case set => exact (PyProof.Rows.SetOf_congr ((PyProof.Rows.setObjOf_fresh (knd := PySem.strKind prog w) led).setOf (Heap.get?_push_of_some _ new) (by unfold scanBound; omega)) (fun _ => rfl) rfl)
  case fin =>
    obtain ⟨h', gs', dr', tk', os'⟩ := z'
    have e1 : gs' = gs := mv.gens
    have e2 : dr' = dr := mv.drawn
    have e3 : os' = os := mv.os
    subst e1; subst e2; subst e3
    refine wpAny_pure (wpAny_pure (fin h' tk' set' fun b o ne e => mv.heap b o ?_ (Heap.get?_push_of_some _ e)))
    simp only [List.mem_cons, List.not_mem_nil, or_false, not_or]
    exact ⟨ne, Nat.ne_of_lt (Heap.lt_size e)⟩
/-- set(t), t a tuple of texts -/
theorem set_of_tupS {l : Addr} {items : Array Value} {xs : List Str} {Q : Value → Shared → Prop} (calm : A.handled = none) (tup : s.heap.IsTuple l items) (txt : StrsAre items.toList xs) (few : xs.length + 1 < scanBound)
    (fin : ∀ h' tk, h'.SetOf (PySem.strKind prog w) s.heap.objs.size (xs.foldl addK noneK).1 (xs.foldl addK noneK).2 → (∀ b o, s.heap.get? b = some o → h'.get? b = some o) → Q (.ref s.heap.objs.size) { s with heap := h', toks := tk }) :
    wpAny (model prog w) A (call (.type "set") [.ref l]) Q E s := by
  have T := PySem.F.called_set
  obtain ⟨c, tl, mro⟩ := T.mro
  have made := T.made
  have sub := T.sub
  have notType := T.notType
  have can := T.canCreate
  have chk := PySem.F.typeCall_set_1 (.ref l)
  have lL : l < s.heap.objs.size := tup.elim fun _ r => Heap.lt_size r.1
  refine wpAny_call (codeAny_of_tree (wpAny_pure ⟨Code.quiet_builtin _ (by decide +kernel), codeAny_builtin PySem.F.entry_type_call ?_⟩))
  rw [Around.under_plain (weight_type_call_type "set" [.ref l] []) rfl]
  repeat (any_goals (first | assumption | wp_step))
  refine codeAny_mono (code_set_new_1 (.ref l) (E := E) (Q₁ := fun obj z => ∃ led, obj = .ref s.heap.objs.size ∧ z = { s with heap := s.heap.push (newSet led) }) fun led => ⟨led, rfl, rfl⟩) fun r z hr => ?_
  cases r with
  | error e => exact hr
  | ok fl =>
    cases fl with
    | next => exact hr.elim
    | brk => exact hr.elim
    | cont => exact hr.elim
    | ret obj =>
      obtain ⟨led, eo, ez⟩ := hr
      subst eo; subst ez
      have here : (s.heap.push (newSet led)).get? s.heap.objs.size = some (newSet led) := Heap.get?_push_size _ rfl
      have isS : Shared.TypeIs { s with heap := s.heap.push (newSet led) } (.ref s.heap.objs.size) "set" := ⟨_, here, rfl⟩
      have look := T.init.lookup
      have bind := T.init.bind (.ref s.heap.objs.size)
      repeat (any_goals (first | assumption | wp_step))
      refine codeAny_mono (codeAny_call_builtin (R := wants (fun r z => r = .none ∧ Q (.ref s.heap.objs.size) z) E) T.init.plain PySem.F.entry_set_init (check_set_init_1 isS
        (set_init_tup (by simp [calm]) here (tup.push _) (Nat.ne_of_gt lL) txt few fun h' tk set keep => ⟨rfl, fin h' tk set fun b o e => keep b o (Nat.ne_of_lt (Heap.lt_size e)) (Heap.get?_push_of_some _ e)⟩))) fun r2 z2 hr2 => ?_
      cases r2 with
      | error e => exact hr2
      | ok fl2 =>
        cases fl2 with
        | next => exact hr2.elim
        | brk => exact hr2.elim
        | cont => exact hr2.elim
        | ret u =>
          obtain ⟨eu, q⟩ := hr2
          subst eu
          repeat (any_goals (first | assumption | wp_step))
end
section
variable {g : Gc} {X : Cx} {a : Expr} {fa : M T} {e1 b1 : List Nat} {p p2 q pos : Pos}
def tLenS (K : PySem.W.Frag) (ta : TE) : TE := fun σ H Q => ta σ H fun x H1 => ∃ l, ∃ xs : List Str, x = .ref l ∧ SqT K H1 l (xs.map V.str) ∧ xs.length ≤ 4000 ∧ Q (.int (cN xs xs.length)) H1
theorem pe_lenS (hc : X.calm = true) (hg : Gl X "len") (hm : X.mg "len" = none) (hg2 : Gl X "set") (hm2 : X.mg "set" = none) {ta : TE} (ha : PE X a ta)
    (na : starEach [a] X.env = (false, eval a X.env) :: starEach [] X.env := by rfl) : PE X (.Call (.Name "len" p) [.Call (.Name "set" p2) [a] [] q] [] pos) (tLenS X.K ta) := ⟨fun pins s σ H Q I h => by
  refine Call_ (ld_blt I hg hm boot_len ?_)
  refine PyProof.Rows.callWith_builtin1 (PyProof.Rows.args_cons ?_ rfl) rfl rfl
  refine Call_ (ld_blt I hg2 hm2 boot_set ?_)
  refine PyProof.Rows.callWith_type1 (PyProof.Rows.args_cons (thn (ha.run pins s σ H _ I h) fun v z1 ⟨x, G1, J1, r1, q1⟩ => PyProof.Rows.args_nil ?_) na) na rfl
  obtain ⟨l, xs, rfl, hq, h1, q1⟩ := q1
  cases r1
  obtain ⟨its, r, pl, hz⟩ := J1.tuple hq
  refine set_of_tupS (J1.ok.hd hc) pl (by simpa using strsAre_of r) (by unfold scanBound; omega) fun h' tk hS hk => ?_
  refine PyProof.Rows.args_nil ?_
  have all := addK_cN xs xs.length (Nat.le_refl _)
  rw [List.take_length] at all
  rw [all] at hS
  obtain ⟨o, es, ep, tb, at_, exact_, data, _, _, _, full, count⟩ := hS
  have J2 : Inv X pins σ G1 { z1 with heap := h', toks := tk } := J1.kept fun b o e => hk b o e
  have few := cN_le xs xs.length
  exact call_len_set at_ exact_ data full (by rw [count]; show ((cN xs xs.length : Nat) : Int) < 2 ^ 63; omega) ⟨.int (cN xs xs.length), G1, J2.tok _, ⟨_, by rw [count]⟩, q1⟩⟩
def fLenS (t : T) : Option T := match t with
  | .nd .tup ts => (strsOf ts).bind fun xs => if xs.length ≤ 4000 then some (.int (cN xs xs.length)) else none
  | _ => none
theorem tm_lenS (hK : g.K = X.K) (hc : X.calm = true) (hg : Gl X "len") (hm : X.mg "len" = none) (hg2 : Gl X "set") (hm2 : X.mg "set" = none) (ha : PEm g X a fa e1 b1)
    (na : starEach [a] X.env = (false, eval a X.env) :: starEach [] X.env := by rfl) : PEm g X (.Call (.Name "len" p) [.Call (.Name "set" p2) [a] [] q] [] pos) (m1 fLenS fa) e1 [] :=
  PE.imp (pe_lenS hc hg hm hg2 hm2 ha na) fun σ H Q h => by
    obtain ⟨S, Ts, A, t, Ts', R, q, k⟩ := h
    obtain ⟨ta, Ts1, ea, q1⟩ := bnd_some q
    obtain ⟨ef, eT⟩ := lft_some q1
    subst eT
    refine ⟨S, Ts, A, ta, _, R, ea, fun x H' S' A' Ax R' rx o1 p s => ?_⟩
    unfold fLenS at ef
    split at ef
    · obtain ⟨xs, h1, h2⟩ := Option.bind_eq_some_iff.mp ef
      split at h2
      · rename_i hz
        injection h2 with h2
        subst h2
        obtain ⟨l, ys, B, ex, at_, eA, c, rl⟩ := rx
        have := strsOf_ok _ _ _ _ h1 rl
        subst this
        exact ⟨l, xs, ex, hK ▸ At.sqT at_, hz, k _ H' S' A' [] R' ⟨rfl, rfl⟩ Ow.nil p s⟩
      · cases h2
    · cases ef
end
end MI
/-! Ml: calls by name. -/
namespace MI
open PySem PySem.Spec PyProof.Rows L2
/-- n arguments by place, the others by name, in the order of the parameters -/
def KwB (K : PySem.W.Frag) (fd : FuncData) (ps : List Str) (n : Nat) : Prop := ∀ (s : Shared) (us ws : List Value), K.In s.heap → us.length = n → (us ++ ws).length = ps.length → BindsTo s fd ⟨us, (ps.drop n).zip ws⟩ (ps.zip (us ++ ws))
theorem FunD.kwb {K : PySem.W.Frag} {x qual : Str} {params : Arguments} {body : List Stmt} {scope : Scope} {kws : List (Str × V)} {f : Addr} {fd : FuncData} {ps : List Str} {n : Nat} (F : FunD K x qual params body scope [] kws f fd)
    (h : ∀ (kV doc pm : Value) (an : Option Addr) (cdv ct : Value) (us ws : List Value), us.length = n → (us ++ ws).length = ps.length → bindArgs (PySem.W.fnOf x qual params body scope .none kV doc pm an cdv ct) ⟨us, (ps.drop n).zip ws⟩ = pure (ps.zip (us ++ ws))) : KwB K fd ps n := by
  obtain ⟨oc, od, dV, kV, doc, pm, an, cdv, ct, osl, rfl, lk, hcd, hD, hK⟩ := F.ex
  rcases hD with ⟨_, rfl⟩ | ⟨e, _⟩
  · exact fun s us ws _ h1 h2 => .of_eq (h kV doc pm an cdv ct us ws h1 h2)
  · exact absurd rfl e
section
variable {X : Cx} {CX : CXT} {k : Nat} {f C : Addr} {fd : FuncData} {ps ks : List Str} {sp : Sp} {E : XK} {x m : Str} {p pos apos : Pos} {o : Expr} {kws : List Keyword} {ta : TE} {tk : TA}
theorem pe_callGK (F : FnG X.prog X.w X.K X.mg X.base CX k f fd ps sp) (hG : GA X.A) (hr : Room k X.A) (hg : Gl X x) (hm : X.mg x = some (.ref f)) (hk : PySem.W.keepIn X.K (.ref f) = true) (hb : KwB X.K fd ps 0) (hx : Passes CX X E) (hkw : PK X kws tk)
    (hall : (backToKw pos (keywordEach kws X.env)).all (·.1.isSome) = true := by rfl) (hks : (backToKw pos (keywordEach kws X.env)).filterMap (·.1) = ps := by rfl) (hdb : (x == ("__debug__" : Str)) = false := by decide)
    (hpl : ((backTo pos (starEach [] X.env)).any (·.1) || (backToKw pos (keywordEach kws X.env)).any (·.1.isNone)) = false := by rfl) : PE X (.Call (.Name x p) [] kws pos) (tCall sp [] E tk) := ⟨fun pins s σ H Q I h => by
  refine wpAny_Call_Name_kw (ld_glob I hg hm ?_ hdb)
  refine PySem.W.callWith_KW0 (h₀ := X.base) I.ok.mod.kin hk hall (thn (hkw.run pos pins s σ H _ I h) fun ws z2 ⟨zs, G2, J2, rz, q2⟩ => ⟨J2.kIn, ?_⟩) hpl
  rw [hks]
  have rz' : Vals (zs ++ []) ws := by rw [List.append_nil]; exact rz
  exact run_g (us := []) F hG hr hx J2 (fun hl => hb z2 [] ws J2.kIn rfl hl) rz' q2⟩
theorem pe_makeGK (M : Mk X.K C f) (F : FnG X.prog X.w X.K X.mg X.base CX k f fd ps sp) (hG : GA X.A) (hr : Room (k + 1) X.A) (hg : Gl X x) (hm : X.mg x = some (.ref C)) (hb : KwB X.K fd ps 1) (hx : Passes CX X E) (hkw : PK X kws tk)
    (hall : (backToKw pos (keywordEach kws X.env)).all (·.1.isSome) = true := by rfl) (hks : (backToKw pos (keywordEach kws X.env)).filterMap (·.1) = ps.drop 1 := by rfl) (hdb : (x == ("__debug__" : Str)) = false := by decide)
    (hpl : ((backTo pos (starEach [] X.env)).any (·.1) || (backToKw pos (keywordEach kws X.env)).any (·.1.isNone)) = false := by rfl) : PE X (.Call (.Name x p) [] kws pos) (tMake C sp [] E tk) := ⟨fun pins s σ H Q I h => by
  refine wpAny_Call_Name_kw (ld_glob I hg hm ?_ hdb)
  refine PySem.W.callWith_KW0 (h₀ := X.base) I.ok.mod.kin M.kp hall (thn (hkw.run pos pins s σ H _ I h) fun ws z2 ⟨zs, G2, J2, rz, q2⟩ => ⟨J2.kIn, ?_⟩) hpl
  rw [hks]
  have rz' : Vals (zs ++ []) ws := by rw [List.append_nil]; exact rz
  exact run_makeG (us := []) M F hG hr (fun z a hz hl => hb z [.ref a] ws hz rfl hl) hx J2 rz' q2⟩
theorem pe_methGK {pl : Sem Bool} (he : PE X o ta) (c : Cls X.K C) (hm : Meth X.K C m f) (F : FnG X.prog X.w X.K X.mg X.base CX k f fd ps sp) (hG : GA X.A) (hr : Room k X.A) (hb : KwB X.K fd ps 1) (hx : Passes CX X E) (hkw : PK X kws tk)
    (hall : (backToKw pos (keywordEach kws X.env)).all (·.1.isSome) = true := by rfl) (hks : (backToKw pos (keywordEach kws X.env)).filterMap (·.1) = ps.drop 1 := by rfl)
    (hpl : ((backTo pos (starEach [] X.env)).any (·.1) || (backToKw pos (keywordEach kws X.env)).any (·.1.isNone)) = false := by rfl)
    (ht : eval (.Call (.Attribute o m apos) [] kws pos) X.env = (do let ov ← eval o X.env; standAt apos.atName; let (f, first) ← holding [ov] (getMethod ov m pl); callWith pos f first (backTo pos (starEach [] X.env)) (backToKw pos (keywordEach kws X.env))) := by rfl) :
    PE X (.Call (.Attribute o m apos) [] kws pos) (tMeth C m sp [] E ta tk) := ⟨fun pins s σ H Q I h => by
  refine PySem.W.methodCall_KW (pl := pl) (thn (he.run pins s σ H _ I h) fun u z1 ⟨y, G1, J1, rx, a, dx, fs, ex, ea, l, q⟩ => ?_) ht
  subst ex
  obtain rfl : u = Value.ref a := rx
  refine getmeth_ok J1 ea c hm l ?_
  refine PySem.W.callWith_KW0 (first := [.ref a]) (h₀ := X.base) I.ok.mod.kin hm.kp hall (thn (hkw.run pos pins z1 σ G1 _ J1 q) fun ws z2 ⟨zs, G2, J2, rz, q2⟩ => ⟨J2.kIn, ?_⟩) hpl
  rw [hks]
  have rz' : Vals (V.ref a :: (zs ++ [])) (Value.ref a :: ws) := by rw [List.append_nil]; exact .cons rfl rz
  exact run_g (us := [.ref a]) F hG hr hx J2 (fun hl => hb z2 [.ref a] ws J2.kIn rfl hl) rz' q2⟩
end
section
variable {g : Gc} {X : Cx} {k : Nat} {f : Str} {fd : FuncData} {fad : Addr} {ps : List Str} {x m cls : Str} {p pos apos kpos : Pos} {e o : Expr} {kws : List Keyword} {fs : M (List T)} {fa : M T} {e1 e2 b1 b2 : List Nat} {io : List Nat} {c : Cal} {ln : List (Option Nat)} {nm : Option Str}
def PKc (g : Gc) (X : Cx) (ks : List Keyword) (f : M (List T)) (eff bo : List Nat) (ln : List (Option Nat)) : Prop := PK X ks (TMc g f eff bo ln)
theorem PK.imp {X : Cx} {ks : List Keyword} {t t' : TA} (h : PK X ks t) (i : ∀ σ H Q, t' σ H Q → t σ H Q) : PK X ks t' := ⟨fun pos pins s σ H Q I q => h.run pos pins s σ H Q I (i σ H Q q)⟩
theorem tkc_nil : PKc g X [] mNil [] [] [] := PK.imp pk_nil fun σ H Q h => TMc.nil h
theorem tkc_arg (ha : PEm g X e fa e1 b1) (hs : PKc g X kws fs e2 b2 ln) (d : ∀ j ∈ b1, j ∉ e2 := by decide) : PKc g X (⟨nm, e, kpos⟩ :: kws) (mCons fa fs) (e1 ++ e2) (b1 ++ b2) (none :: ln) :=
  PK.imp (pk_cons ha hs) fun σ H Q ⟨S, Ts, A, ts, Ts', R, q, k⟩ => by
    obtain ⟨ta, Ts1, ea, q1⟩ := bnd_some q
    obtain ⟨tb, Ts2, eb, q2⟩ := bnd_some q1
    obtain ⟨h1, h2⟩ := ret_some q2
    subst h1; subst h2
    refine ⟨S, Ts, A, ta, Ts1, R, ea, fun x H1 S1 A1 Ax R1 r1 o1 p1 s1 => ⟨S1, Ts1, A1, tb, Ts2, R1, eb, fun ys H2 S2 A2 Al Ab R2 r2 ol ob dj p2 s2 => ?_⟩⟩
    have hc := Rp.cells _ _ _ r1
    have o1' := o1.held R1 R2 hc p2 s2 d
    refine k (x :: ys) H2 S2 A2 Al (Ax ++ Ab) R2 ⟨ta, tb, x, ys, Ax, Ab, rfl, rfl, rfl, r1.held R1 o1 p2 s2 d, r2⟩ (ol.rebase p1) (Ow.app p1 hc o1 o1' ob) (fun a hl hx => ?_) (p1.trans R p2) (s1.trans s2)
    rcases List.mem_append.mp hx with hx | hx
    · rcases ol.new a hl with ⟨j, hj⟩ | hn
      · have hb : j ∈ b1 := Classical.byContradiction fun z => o1.dj j z a hx hj
        have e := (s2 j (d j hb)).2.1
        exact ol.dj j (fun z => nomatch z) a hl (by rw [e]; exact hj)
      · exact mut_ne (hc a hx) hn
    · exact dj a hl hx
theorem tm_callK (F : FnG X.prog X.w X.K X.mg X.base CX0 k fad fd ps (spT g io c)) (hG : GA X.A) (hr : Room k X.A) (hg : Gl X x) (hm : X.mg x = some (.ref fad)) (hk : PySem.W.keepIn X.K (.ref fad) = true) (hb : KwB X.K fd ps 0) (ha : PKc g X kws fs e1 [] ln)
    (hio : io = lentIx 0 ln := by rfl) (hl : ∀ s ∈ ln.filterMap id, s ∈ e1 := by decide) (hall : (backToKw pos (keywordEach kws X.env)).all (·.1.isSome) = true := by rfl) (hks : (backToKw pos (keywordEach kws X.env)).filterMap (·.1) = ps := by rfl) (hdb : (x == ("__debug__" : Str)) = false := by decide)
    (hpl : ((backTo pos (starEach [] X.env)).any (·.1) || (backToKw pos (keywordEach kws X.env)).any (·.1.isNone)) = false := by rfl) :
    PEm g X (.Call (.Name x p) [] kws pos) (mCall c ln fs) e1 [] := PE.imp (pe_callGK F hG hr hg hm hk hb (E := E0) pass0 ha hall hks hdb hpl) (call_r rfl hio hl)
theorem tm_callKP (F : FnG X.prog X.w X.K X.mg X.base CX0 k fad fd ps (spT g io c)) (hG : GA X.A) (hr : Room k X.A) (hg : Gl X x) (hm : X.mg x = some (.ref fad)) (hk : PySem.W.keepIn X.K (.ref fad) = true) (hb : KwB X.K fd ps 0) (ha : PKc g X kws fs e1 b1 ln)
    (hio : io = lentIx 0 ln := by rfl) (hl : ∀ s ∈ ln.filterMap id, s ∈ e1 := by decide) (hall : (backToKw pos (keywordEach kws X.env)).all (·.1.isSome) = true := by rfl) (hks : (backToKw pos (keywordEach kws X.env)).filterMap (·.1) = ps := by rfl) (hdb : (x == ("__debug__" : Str)) = false := by decide)
    (hpl : ((backTo pos (starEach [] X.env)).any (·.1) || (backToKw pos (keywordEach kws X.env)).any (·.1.isNone)) = false := by rfl) :
    PEm g X (.Call (.Name x p) [] kws pos) (mCallP c ln fs) e1 [] := PE.imp (pe_callGK F hG hr hg hm hk hb (E := E0) pass0 ha hall hks hdb hpl) (callP_r hio hl)
theorem tm_makeK (hC : X.mg f = some (.ref (g.cl cls))) (M : Mk X.K (g.cl cls) fad) (F : FnG X.prog X.w X.K X.mg X.base CX0 k fad fd ps (spT g [0] c)) (hG : GA X.A) (hr : Room (k + 1) X.A) (hg : Gl X f) (hb : KwB X.K fd ps 1) (ha : PKc g X kws fs e1 [] ln) (hn : allN ln = true := by rfl)
    (hall : (backToKw pos (keywordEach kws X.env)).all (·.1.isSome) = true := by rfl) (hks : (backToKw pos (keywordEach kws X.env)).filterMap (·.1) = ps.drop 1 := by rfl) (hdb : (f == ("__debug__" : Str)) = false := by decide)
    (hpl : ((backTo pos (starEach [] X.env)).any (·.1) || (backToKw pos (keywordEach kws X.env)).any (·.1.isNone)) = false := by rfl) :
    PEm g X (.Call (.Name f p) [] kws pos) (mMake c cls ln fs) e1 [] := PE.imp (pe_makeGK M F hG hr hg hC hb (E := E0) pass0 ha hall hks hdb hpl) (make_r hn)
theorem tm_methK {pl : Sem Bool} (hc : Cls X.K (g.cl cls)) (hm : Meth X.K (g.cl cls) m fad) (F : FnG X.prog X.w X.K X.mg X.base CX0 k fad fd ps (spT g io c)) (hG : GA X.A) (hr : Room k X.A) (hb : KwB X.K fd ps 1) (ho : PEm g X o fa e1 []) (ha : PKc g X kws fs e2 [] ln)
    (hio : io = lentIx 0 (none :: ln) := by rfl) (hl : ∀ s ∈ (none :: ln).filterMap id, s ∈ e1 ++ e2 := by decide) (hall : (backToKw pos (keywordEach kws X.env)).all (·.1.isSome) = true := by rfl) (hks : (backToKw pos (keywordEach kws X.env)).filterMap (·.1) = ps.drop 1 := by rfl)
    (hpl : ((backTo pos (starEach [] X.env)).any (·.1) || (backToKw pos (keywordEach kws X.env)).any (·.1.isNone)) = false := by rfl)
    (ht : eval (.Call (.Attribute o m apos) [] kws pos) X.env = (do let ov ← eval o X.env; standAt apos.atName; let (f, first) ← holding [ov] (getMethod ov m pl); callWith pos f first (backTo pos (starEach [] X.env)) (backToKw pos (keywordEach kws X.env))) := by rfl) :
    PEm g X (.Call (.Attribute o m apos) [] kws pos) (mCall c (none :: ln) (mCons (mIns cls m fa) fs)) (e1 ++ e2) [] := PE.imp (pe_methGK (pl := pl) ho hc hm F hG hr hb (E := E0) pass0 ha hall hks hpl ht) (meth_r hio hl)
theorem tm_methKP {pl : Sem Bool} (hc : Cls X.K (g.cl cls)) (hm : Meth X.K (g.cl cls) m fad) (F : FnG X.prog X.w X.K X.mg X.base CX0 k fad fd ps (spT g io c)) (hG : GA X.A) (hr : Room k X.A) (hb : KwB X.K fd ps 1) (ho : PEm g X o fa e1 b1) (ha : PKc g X kws fs e2 b2 ln)
    (hio : io = lentIx 0 (none :: ln) := by rfl) (hl : ∀ s ∈ (none :: ln).filterMap id, s ∈ e1 ++ e2 := by decide) (d : ∀ j ∈ b1, j ∉ e2 := by decide) (hall : (backToKw pos (keywordEach kws X.env)).all (·.1.isSome) = true := by rfl) (hks : (backToKw pos (keywordEach kws X.env)).filterMap (·.1) = ps.drop 1 := by rfl)
    (hpl : ((backTo pos (starEach [] X.env)).any (·.1) || (backToKw pos (keywordEach kws X.env)).any (·.1.isNone)) = false := by rfl)
    (ht : eval (.Call (.Attribute o m apos) [] kws pos) X.env = (do let ov ← eval o X.env; standAt apos.atName; let (f, first) ← holding [ov] (getMethod ov m pl); callWith pos f first (backTo pos (starEach [] X.env)) (backToKw pos (keywordEach kws X.env))) := by rfl) :
    PEm g X (.Call (.Attribute o m apos) [] kws pos) (mCallP c (none :: ln) (mCons (mIns cls m fa) fs)) (e1 ++ e2) [] := PE.imp (pe_methGK (pl := pl) ho hc hm F hG hr hb (E := E0) pass0 ha hall hks hpl ht) (meth_rP hio hl d)
end
end MI
/-! Mn: sorted, isinstance of one's own classes, dicts read and stored. -/
namespace MI
open PySem PySem.Spec PyProof.Rows L2
/-! ### sorted -/
section
/-- two arrangements of the same things by an order are the same -/
theorem srt_unique {α : Type} {le : α → α → Prop} (anti : ∀ a b, le a b → le b a → a = b) : ∀ {xs ys : List α}, xs.Perm ys → xs.Pairwise le → ys.Pairwise le → xs = ys
  | [], ys, h, _, _ => by rw [List.nil_perm.mp h]
  | x :: xs, [], h, _, _ => by exact absurd h.length_eq (by simp)
  | x :: xs, y :: ys, h, hx, hy => by
    have e : x = y := by
      obtain ⟨x1, _⟩ := List.pairwise_cons.mp hx
      obtain ⟨y1, _⟩ := List.pairwise_cons.mp hy
      have mx : x ∈ y :: ys := h.mem_iff.mp List.mem_cons_self
      have my : y ∈ x :: xs := h.mem_iff.mpr List.mem_cons_self
      rcases List.mem_cons.mp mx with e | mx
      · exact e
      · rcases List.mem_cons.mp my with e | my
        · exact e.symm
        · exact anti _ _ (x1 y my) (y1 x mx)
    subst e
    rw [srt_unique anti ((List.perm_cons x).mp h) (List.pairwise_cons.mp hx).2 (List.pairwise_cons.mp hy).2]
def leS (x y : Str) : Bool := !ltS y x
def insB {α : Type} (le : α → α → Bool) (x : α) : List α → List α
  | [] => [x]
  | y :: ys => if le x y then x :: y :: ys else y :: insB le x ys
def isortB {α : Type} (le : α → α → Bool) : List α → List α
  | [] => []
  | x :: xs => insB le x (isortB le xs)
theorem insB_perm {α : Type} (le : α → α → Bool) (x : α) : ∀ ys : List α, (insB le x ys).Perm (x :: ys)
  | [] => .refl _
  | y :: ys => by
    unfold insB
    split
    · exact .refl _
    · exact ((insB_perm le x ys).cons y).trans (.swap x y ys)
theorem isortB_perm {α : Type} (le : α → α → Bool) : ∀ ys : List α, (isortB le ys).Perm ys
  | [] => .refl _
  | y :: ys => (insB_perm le y _).trans ((isortB_perm le ys).cons y)
theorem insB_srt {α : Type} {le : α → α → Bool} (tr : ∀ a b c, le a b = true → le b c = true → le a c = true) (tot : ∀ a b, le a b = true ∨ le b a = true) (x : α) : ∀ {ys : List α}, ys.Pairwise (fun a b => le a b = true) → (insB le x ys).Pairwise (fun a b => le a b = true)
  | [], _ => by simp [insB]
  | y :: ys, h => by
    obtain ⟨h1, h2⟩ := List.pairwise_cons.mp h
    unfold insB
    split
    · rename_i hle
      refine List.pairwise_cons.mpr ⟨fun z hz => ?_, h⟩
      rcases List.mem_cons.mp hz with rfl | hz
      · exact hle
      · exact tr _ _ _ hle (h1 z hz)
    · rename_i hle
      refine List.pairwise_cons.mpr ⟨fun z hz => ?_, insB_srt tr tot x h2⟩
      rcases List.mem_cons.mp ((insB_perm le x ys).mem_iff.mp hz) with rfl | hz
      · exact (tot z y).resolve_left hle
      · exact h1 z hz
theorem isortB_srt {α : Type} {le : α → α → Bool} (tr : ∀ a b c, le a b = true → le b c = true → le a c = true) (tot : ∀ a b, le a b = true ∨ le b a = true) : ∀ ys : List α, (isortB le ys).Pairwise (fun a b => le a b = true)
  | [] => by simp [isortB]
  | y :: ys => insB_srt tr tot y (isortB_srt tr tot ys)
def leI (a b : Int) : Bool := decide (a ≤ b)
theorem str_ext {a b : Str} (h : a.cps.toList = b.cps.toList) : a = b := by cases a; cases b; congr 1; exact Array.ext' h
theorem leS_iff {a b : Str} : leS a b = true ↔ a.cps.toList ≤ b.cps.toList := by
  simp only [leS, ltS, Bool.not_eq_true', decide_eq_false_iff_not]; exact List.not_lt
theorem leS_tr (a b c : Str) (h1 : leS a b = true) (h2 : leS b c = true) : leS a c = true := by
  rw [leS_iff] at *; exact List.le_trans h1 h2
theorem leS_tot (a b : Str) : leS a b = true ∨ leS b a = true := by
  rw [leS_iff, leS_iff]
  by_cases h : a.cps.toList ≤ b.cps.toList
  · exact .inl h
  · exact .inr (List.le_of_lt (List.not_le.mp h))
theorem leS_anti (a b : Str) (h1 : leS a b = true) (h2 : leS b a = true) : a = b := by
  rw [leS_iff] at *; exact str_ext (List.le_antisymm h1 h2)
theorem sortedI_eq {ns ms : List Int} (h : ms.Perm ns) (hp : ms.Pairwise (· ≤ ·)) : ms = isortB leI ns :=
  srt_unique (le := fun a b => leI a b = true) (fun a b h1 h2 => by simp only [leI, decide_eq_true_eq] at h1 h2; omega) (h.trans (isortB_perm leI ns).symm) (hp.imp fun h => by simpa [leI] using h)
    (isortB_srt (fun a b c h1 h2 => by simp only [leI, decide_eq_true_eq] at *; omega) (fun a b => by simp only [leI, decide_eq_true_eq]; omega) ns)
end
section
variable {g : Gc} {X : Cx}
def fSorted (t : T) : Option T := (kA t).bind fun ts => match intsOf ts with
  | some ns => if ns.length < 64 then some (.nd (.lst true) ((isortB leI ns).map T.int)) else none
  | none => match strsOf ts with
    | some xs => if xs.length < 64 then some (.nd (.lst true) ((isortB leS xs).map T.str)) else none
    | none => none
theorem risingS_le : ∀ (ys : List Str) (p : Str), risingS p ys = true → (p :: ys).Pairwise (fun a b => leS a b = true)
  | [], p, _ => by simp
  | x :: r, p, h => by
    have h : (!ltCps x.cps.toList p.cps.toList && risingS x r) = true := h
    obtain ⟨h1, h2⟩ := Bool.and_eq_true_iff.mp h
    have ih := risingS_le r x h2
    have hpx : leS p x = true := by
      unfold leS ltS
      rw [← ltCps_eq]
      simpa using h1
    refine List.pairwise_cons.mpr ⟨fun z hz => ?_, ih⟩
    rcases List.mem_cons.mp hz with rfl | hz
    · exact hpx
    · exact leS_tr _ _ _ hpx ((List.pairwise_cons.mp ih).1 z hz)
theorem sortedSt_eq {ns ms : List Str} (h : ms.Perm ns) (hp : sortedS ms = true) : ms = isortB leS ns := by
  refine srt_unique (le := fun a b => leS a b = true) leS_anti (h.trans (isortB_perm leS ns).symm) ?_ (isortB_srt leS_tr leS_tot ns)
  cases ms with
  | nil => exact List.Pairwise.nil
  | cons x r => exact risingS_le r x hp
theorem reps_int {S : Addr → Prop} {H : Hp} : ∀ ns : List Int, RpL g S H (ns.map T.int) (ns.map V.int) []
  | [] => ⟨rfl, rfl⟩
  | n :: ns => ⟨_, _, [], [], rfl, rfl, ⟨rfl, rfl⟩, reps_int ns⟩
theorem reps_str {S : Addr → Prop} {H : Hp} : ∀ ns : List Str, RpL g S H (ns.map T.str) (ns.map V.str) []
  | [] => ⟨rfl, rfl⟩
  | n :: ns => ⟨_, _, [], [], rfl, rfl, ⟨rfl, rfl⟩, reps_str ns⟩
theorem ct_sorted : CallT g (fun vs H Q => rSorted g.K vs H Q ∨ rSortedS g.K vs H Q) (c1 fSorted) := callT1 fun S H t x A u Q r e k => by
  unfold fSorted at e
  obtain ⟨ts, e1, e2⟩ := Option.bind_eq_some_iff.mp e
  obtain ⟨p, xs, B, ex, sq, rl⟩ := kA_rep e1 r
  split at e2
  · rename_i ns hns
    split at e2
    · rename_i h64
      injection e2 with e2; subst e2
      refine .inl ⟨p, ns, by rw [ex], intsOf_ok _ _ _ _ hns rl ▸ sq, h64, fun ms q hm hs hq => ?_⟩
      rw [sortedI_eq hm hs]
      exact k _ _ [q] (New.node hq (reps_int _))
    · cases e2
  · split at e2
    · rename_i ns hns
      split at e2
      · rename_i h64
        injection e2 with e2; subst e2
        refine .inr ⟨p, ns, by rw [ex], strsOf_ok _ _ _ _ hns rl ▸ sq, h64, fun ms q hm hs hq => ?_⟩
        rw [sortedSt_eq hm hs]
        exact k _ _ [q] (New.node hq (reps_str _))
      · cases e2
    · cases e2
theorem b_sorted {e : Expr} {es : List Expr} {fs : M (List T)} {e1 b1 : List Nat} {p2 pos : Pos} (hm : X.mg "sorted" = none) (ha : PAm g X (e :: es) fs e1 b1) (hK : g.K = X.K := by rfl) (hg : Gl X "sorted" := by rfl) (he : starEach (e :: es) X.env = (false, eval e X.env) :: starEach es X.env := by rfl) (hpl : (backTo pos (starEach es X.env)).any (·.1) = false := by rfl) : PEm g X (.Call (.Name "sorted" p2) (e :: es) [] pos) (mF (c1 fSorted) fs) e1 [] := tm_callB (cr_sorted.or cr_sortedS) (hK ▸ ct_sorted) hg hm boot_sorted ha (by decide) (by decide) he hpl
end
end MI
/-! Mo: isinstance of one's own classes, dicts read. -/
namespace MI
open PySem PySem.Spec PyProof.Rows L2
section
variable {g : Gc} {X : Cx} {a b e o : Expr} {fa fb fc : M T} {e1 e2 e3 b1 b2 b3 : List Nat} {pos p2 p3 : Pos} {k : Nat} {x : Str}
/-! ### isinstance of an own class -/
/-- the facts of a class that isinstance asks of: the built-in types, the own ones -/
structure IsiC (K : PySem.W.Frag) (cl : Str → Addr) (c : Str) (own : List Str) : Prop where
  ty : ∀ n ∈ (["NoneType", "bool", "int", "str", "tuple", "list", "dict"] : List String), PySem.W.kitOne K (.type n) (.ref (cl c)) = some false
  ow : ∀ d ∈ own, PySem.W.kitOne K (.ref (cl d)) (.ref (cl c)) = some (decide (d = c))
  cls : ∀ d ∈ own, Cls K (cl d) ∧ PySem.W.findIn K (.ref (cl d)) "__class__" = some (some (.builtin "object.__class__")) ∧ PySem.W.mroIn K (cl d) (.type "object") = some true
  hn : PySem.W.specialIn K (.builtin "object.__class__") "__get__" = some (some (.builtin "getset_descriptor.__get__"))
  htk : PySem.W.takesIn K (.builtin "object.__class__") = some true
def isC (c : Str) (own : List Str) (t : T) : Option T := match t with
  | .nd (.ins _ d _) _ => if own.any (fun z => decide (z = d)) then some (.bl (decide (d = c))) else none
  | t => match tyN t with
    | some _ => some (.bl false)
    | none => none
theorem tyN_mem {t : T} {n : String} (h : tyN t = some n) : n ∈ (["NoneType", "bool", "int", "str", "tuple", "list", "dict"] : List String) := by
  unfold tyN at h
  split at h <;> first | (cases h; done) | (injection h with h; subst h; simp)
theorem x_isC {c : Str} {own : List Str} (hm : X.mg "isinstance" = none) (hmc : X.mg c = some (.ref (g.cl c))) (F : IsiC X.K g.cl c own) (ha : PEm g X a fa e1 b1) (hK : g.K = X.K := by rfl) (hg : Gl X "isinstance" := by rfl) (hgc : Gl X c := by rfl) (hdb : (c == ("__debug__" : Str)) = false := by decide)
    (he : starEach [a, .Name c p3] X.env = (false, eval a X.env) :: starEach [.Name c p3] X.env := by rfl) (he2 : starEach [.Name c p3] X.env = (false, eval (.Name c p3) X.env) :: starEach [] X.env := by rfl) (hpl : (backTo pos (starEach [.Name c p3] X.env)).any (·.1) = false := by rfl) : PEm g X (.Call (.Name "isinstance" p2) [a, .Name c p3] [] pos) (m1 (isC c own) fa) e1 [] := by
  have h1 : PE X (.Name c p3) (tC (.ref (g.cl c))) := pe_glob hgc hmc rfl hdb
  refine PE.imp (pe_callB call_isi hg hm PyProof.Rows.boot_isinstance (pa_cons ha (pa_cons h1 pa_nil he2) he) (by decide) (by decide) he hpl) fun σ H Q h => ?_
  obtain ⟨S, Ts, A, t, Ts', R, e, kk⟩ := h
  obtain ⟨ta, Ts1, ea, e⟩ := bnd_some e
  obtain ⟨ef, rfl⟩ := lft_some e
  refine ⟨S, Ts, A, ta, Ts', R, ea, fun x' H' S' A' Ax R' rx o1 p s => ?_⟩
  have fin : ∀ b, t = .bl b → ∀ u, TyX X.K H' x' u → PySem.W.kitOne X.K u (.ref (g.cl c)) = some b → rIsi X.K ([x', V.ref (g.cl c)]) H' Q := fun b hb u hu hk => by
    subst hb
    exact ⟨x', _, u, _, b, rfl, .own _, hu, hk, kk _ H' S' A' [] R' ⟨rfl, rfl⟩ Ow.nil p s⟩
  have base : ∀ n, tyN ta = some n → t = .bl false → rIsi X.K ([x', V.ref (g.cl c)]) H' Q := fun n hn ht => fin false ht _ (hK ▸ tyN_ok rx hn) (F.ty n (tyN_mem hn))
  unfold isC at ef
  split at ef
  · rename_i o d fs ts
    split at ef
    · rename_i hd
      injection ef with ef
      obtain ⟨z, hz, ez⟩ := List.any_eq_true.mp hd
      have ez : z = d := of_decide_eq_true ez
      subst ez
      obtain ⟨a', xs, B, ex, at_, eA, cc, r⟩ := rx
      obtain ⟨⟨dx, hH⟩, _⟩ := at_
      obtain ⟨f1, f2, f3⟩ := F.cls z hz
      rw [ex]
      subst ex
      exact fin _ ef.symm _ (.base (.ins hH f1 f2 F.hn F.htk f3)) (F.ow z hz)
    · cases ef
  · split at ef
    · rename_i n hn
      injection ef with ef
      exact base n hn ef.symm
    · cases ef
/-! ### dicts -/
def keyOf (t : T) : Option Key := match t with
  | .int i => some (.inl i)
  | .str s => some (.inr s)
  | _ => none
def kT' : Key → T
  | .inl i => .int i
  | .inr s => .str s
theorem keyOf_rep {S : Addr → Prop} {H : Hp} {t : T} {q : Key} {y : V} {A : List Addr} (h : keyOf t = some q) (r : Rp g S H t y A) : y = kV q ∧ A = [] := by
  unfold keyOf at h
  split at h
  · injection h with h; subst h; exact r
  · injection h with h; subst h; exact r
  · cases h
theorem keyT_rep {S : Addr → Prop} {H : Hp} (q : Key) : Rp g S H (kT' q) (kV q) [] := by
  cases q with
  | inl i => exact ⟨rfl, rfl⟩
  | inr i => exact ⟨rfl, rfl⟩
/-- the place of a key -/
def kIx (ks : List Key) (q : Key) : Option Nat := ks.findIdx? fun z => decide (z = q)
theorem valV_ix {q : Key} : ∀ {ks : List Key} {xs : List V}, ks.length = xs.length → valV (ks.zip xs) q = (kIx ks q).bind fun j => xs[j]?
  | [], [], _ => rfl
  | [], _ :: _, h => by simp at h
  | _ :: _, [], h => by simp at h
  | z :: ks, x :: xs, h => by
    have ih := valV_ix (q := q) (ks := ks) (xs := xs) (by simpa using h)
    unfold kIx at ih ⊢
    by_cases e : z = q
    · rw [List.zip_cons_cons, valV_pos e]
      simp [List.findIdx?_cons, e]
    · have e1 : valV ((z, x) :: ks.zip xs) q = valV (ks.zip xs) q := by simp [valV, List.find?_cons, e]
      rw [List.zip_cons_cons, e1, ih]
      simp only [List.findIdx?_cons, e, decide_false, Bool.false_eq_true, if_false, Option.bind_map]
      cases ks.findIdx? (fun z => decide (z = q)) <;> simp
/-- d[k], for a dict -/
def fIxK (a b : T) : Option T := match a with
  | .nd (.dK _ ks) ts => (keyOf b).bind fun q => (kIx ks q).bind fun j => ts[j]?
  | _ => none
theorem ix_dct (hu : X.A.units + 1 < cLine) : IxR X (fun x y H Q => ∃ a v, x = .ref a ∧ DGet H a y (some v) ∧ Q v H) := by
  intro value slice pins s σ H x y v u Q I rx ry h hs
  obtain ⟨a, w, ex, g, q⟩ := h
  subst ex
  obtain rfl : v = Value.ref a := rx
  have hT := dict_typeIs I g
  unfold subscriptTail
  refine wpAny_bind ?_
  rw [getitemInPython_of_ne hT.not_modules]
  refine wpAny_bind (wpAny_specialOf hT PySem.F.slot_dict_getitem.lookup ?_)
  have fin : wpAny (model X.prog X.w) X.A (subscripted slice false (.ref a) u) (fun r s₃ => wpAny (model X.prog X.w) X.A (letTemporaryGo value (.ref a) r >>= fun _ => pure r) (EP X pins σ Q) X.xe s₃) X.xe s := by
    rw [hs]
    exact wpAny_operating (wpAny_mono (d_getItem (Q := EP X pins σ Q) hu I g ry fun w' s' I' rw' => ⟨w, H, I', rw', q⟩) (fun r s₃ h₃ => wpAny_bind (wpAny_letTemporaryGo (wpAny_pure h₃))) fun _ _ x => x)
  first
    | exact wpAny_pure (wpAny_bind fin)
    | exact wpAny_bind (wpAny_pure (wpAny_bind fin))
    | exact wpAny_bind fin
theorem RpL.part {S : Addr → Prop} {H : Hp} : ∀ (ts : List T) (xs : List V) (A : List Addr), RpL g S H ts xs A → ∀ (j : Nat) (t : T), ts[j]? = some t → ∃ x B, xs[j]? = some x ∧ Rp g S H t x B ∧ B.Sublist A
  | [], _, _, h, j, t, e => by simp at e
  | t0 :: ts, xs, A, h, j, t, e => by
    obtain ⟨y, ys, A1, A2, e1, e2, r1, r2⟩ := h
    subst e1; subst e2
    cases j with
    | zero => simp at e; subst e; exact ⟨y, A1, rfl, r1, List.sublist_append_left _ _⟩
    | succ j =>
      obtain ⟨x, B, h1, h2, h3⟩ := RpL.part ts ys A2 r2 j t (by simpa using e)
      exact ⟨x, B, by simpa using h1, h2, h3.trans (List.sublist_append_right _ _)⟩
theorem opp_ixK : OpP g (fun x y H Q => ∃ a v, x = .ref a ∧ DGet H a y (some v) ∧ Q v H) fIxK := fun S H a b x y Ax Ay t Q ra rb e q => by
  unfold fIxK at e
  split at e
  · rename_i o ks ts
    obtain ⟨qk, e1, e2⟩ := Option.bind_eq_some_iff.mp e
    obtain ⟨j, e3, e4⟩ := Option.bind_eq_some_iff.mp e2
    obtain ⟨p, xs, B, ex, at_, eA, c, r⟩ := ra
    obtain ⟨z, C, h1, h2, h3⟩ := RpL.part _ _ _ r j t e4
    obtain ⟨ey, _⟩ := keyOf_rep e1 rb
    subst ey
    have hg : DGet H p (kV qk) (some z) := by
      have := DGet.k (k := qk) at_.1
      rw [valV_ix at_.2.1, e3] at this
      simpa [h1] using this
    exact ⟨p, z, ex, hg, q z C h2 (h3.trans (by rw [eA]; split <;> first | exact List.sublist_cons_self _ _ | exact List.Sublist.refl _))⟩
  · cases e
/-- k in d -/
def fInK (neg : Bool) (a b : T) : Option T := match b with
  | .nd (.dK _ ks) _ => (keyOf a).map fun q => .bl (if neg then !(kIx ks q).isSome else (kIx ks q).isSome)
  | _ => none
def rInK (neg : Bool) : R2 := fun y x H Q => ∃ a o, x = .ref a ∧ DGet H a y o ∧ Q (.bl (if neg then !o.isSome else o.isSome)) H
theorem op_inK (hu : X.A.units + 1 < cLine) : OpR X (compareOp .In) (rInK false) := by
  intro pins s σ H x y v u Q I rx ry h
  obtain ⟨a, o, ex, g, q⟩ := h
  subst ex
  obtain rfl : u = Value.ref a := ry
  exact d_in hu I g rx fun s3 I3 => ⟨.bl o.isSome, H, I3, rfl, q⟩
theorem op_notInK (hu : X.A.units + 1 < cLine) : OpR X (compareOp .NotIn) (rInK true) := by
  intro pins s σ H x y v u Q I rx ry h
  obtain ⟨a, o, ex, g, q⟩ := h
  subst ex
  obtain rfl : u = Value.ref a := ry
  exact d_notIn hu I g rx fun s3 I3 => ⟨.bl (!o.isSome), H, I3, rfl, q⟩
theorem opt_inK {neg : Bool} : OpT g (rInK neg) (fInK neg) := fun S H a b x y Ax Ay t Q ra rb e q => by
  unfold fInK at e
  split at e
  · rename_i o ks ts
    obtain ⟨qk, e1, e2⟩ := Option.map_eq_some_iff.mp e
    subst e2
    obtain ⟨p, xs, B, ex, at_, eA, c, r⟩ := rb
    obtain ⟨ey, _⟩ := keyOf_rep e1 ra
    subst ey
    have hl := RpL.length _ _ _ r
    have hg := DGet.k (k := qk) at_.1
    rw [valV_ix at_.2.1] at hg
    have hs : ((kIx ks qk).bind fun j => xs[j]?).isSome = (kIx ks qk).isSome := by
      cases hk : kIx ks qk with
      | none => rfl
      | some j =>
        have hj : j < ks.length := by
          unfold kIx at hk
          exact (List.findIdx?_eq_some_iff_getElem.mp hk).1
        have : j < xs.length := by rw [← at_.2.1]; exact hj
        simp [this]
    refine ⟨p, _, ex, hg, ?_⟩
    rw [hs]
    exact q _ H [] (New.atom ⟨rfl, rfl⟩)
  · cases e
/-- d.get(k, v) -/
def fGet2 (a b c : T) : Option T := match a with
  | .nd (.dK _ ks) ts => (keyOf b).bind fun q => match kIx ks q with
    | some j => (ts[j]?).bind fun t => if t.imm then some t else none
    | none => if c.imm then some c else none
  | _ => none
def m3 (f : T → T → T → Option T) (fa fb fc : M T) : M T := bnd fa fun a => bnd fb fun b => bnd fc fun c => lft (f a b c)
def isDct : T → Bool
  | .nd (.dK _ _) _ => true
  | _ => false
def mGet2 (fa fb fc : M T) : M T := bnd fa fun a => if isDct a then bnd fb fun b => bnd fc fun c => lft (fGet2 a b c) else fun _ => none
theorem get2_r (d : ∀ j ∈ b1, j ∉ e2) (d2 : ∀ j ∈ b1 ++ b2, j ∉ e3) (σ : L2.St) (H : Hp) (Q : VK) (h : TM g (mGet2 fa fb fc) (e1 ++ e2 ++ e3) [] σ H Q) : tDGet2 (TM g fa e1 b1) (TM g fb e2 b2) (TM g fc e3 b3) σ H Q := by
  obtain ⟨S, Ts, A, t, Ts', R, q0, k⟩ := h
  obtain ⟨ta, Ts1, ea, q1⟩ := bnd_some q0
  split at q1
  · rename_i hd
    obtain ⟨tb, Ts2, eb, q2⟩ := bnd_some q1
    obtain ⟨tc, Ts3, ec, q3⟩ := bnd_some q2
    obtain ⟨ef, eT⟩ := lft_some q3
    subst eT
    refine ⟨S, Ts, A, ta, Ts1, R, ea, fun x H1 S1 A1 Ax R1 rx ox p1 s1 => ?_⟩
    cases ta with
    | nd kd ts =>
      cases kd with
      | dK o ks =>
        have rx0 := rx
        obtain ⟨a, xs, B, ex, at_, eA, c, r⟩ := rx
        refine ⟨a, ex, .inl ⟨_, .inl at_.1⟩, S1, Ts1, A1, tb, Ts2, R1, eb, fun y H2 S2 A2 Ay R2 ry oy p2 s2 => ⟨S2, Ts2, A2, tc, Ts', R2, ec, fun z H3 S3 A3 Az R3 rz oz p3 s3 => ?_⟩⟩
        -- what is held
        have hcx := Rp.cells _ _ _ rx0
        have rx2 := rx0.held R1 ox p2 s2 d
        have ox2 := ox.held R1 R2 hcx p2 s2 d
        have hcx2 := Rp.cells _ _ _ rx2
        have d31 : ∀ j ∈ b1, j ∉ e3 := fun j hj => d2 j (List.mem_append_left _ hj)
        have d32 : ∀ j ∈ b2, j ∉ e3 := fun j hj => d2 j (List.mem_append_right _ hj)
        have rx3 := rx2.held R2 ox2 p3 s3 d31
        have ry3 := ry.held R2 oy p3 s3 d32
        obtain ⟨a', xs3, B3, ex3, at3, eA3, c3, r3⟩ := rx3
        rw [ex] at ex3
        injection ex3 with ex3
        subst ex3
        unfold fGet2 at ef
        obtain ⟨qk, e4, e5⟩ := Option.bind_eq_some_iff.mp ef
        obtain ⟨ey, _⟩ := keyOf_rep e4 ry3
        subst ey
        have hg := DGet.k (k := qk) at3.1
        rw [valV_ix at3.2.1] at hg
        refine ⟨_, hg, ?_⟩
        have p13 := p1.trans R (p2.trans R1 p3)
        have s13 := (s1.trans s2).trans s3
        cases hk : kIx ks qk with
        | some j =>
          rw [hk] at e5
          obtain ⟨t', e6, e7⟩ := Option.bind_eq_some_iff.mp e5
          split at e7
          · rename_i hi
            injection e7 with e7; subst e7
            obtain ⟨w, C, h1, h2, h3⟩ := RpL.part _ _ _ r3 j t' e6
            have hC := Rp.imm_nil _ _ _ h2 hi
            subst hC
            simp only [Option.bind_some, h1, Option.getD_some]
            exact k w H3 S3 A3 [] R3 h2 Ow.nil p13 s13
          · cases e7
        | none =>
          rw [hk] at e5
          have e5 : (if tc.imm = true then some tc else none) = some t := e5
          simp only [Option.bind_none, Option.getD_none]
          split at e5
          · rename_i hi
            injection e5 with e5; subst e5
            have hC := Rp.imm_nil _ _ _ rz hi
            subst hC
            exact k z H3 S3 A3 [] R3 rz Ow.nil p13 s13
          · cases e5
      | _ => cases hd
    | _ => cases hd
  · cases q1
theorem x_get2 {f : Expr} {apos cpos : Pos} (hr : Room k X.A) (ho : PEm g X o fa e1 b1) (he : PEm g X e fb e2 b2) (hf : PEm g X f fc e3 b3) (m : M2 X o "get" apos e f cpos) (d : ∀ j ∈ b1, j ∉ e2 := by decide) (d2 : ∀ j ∈ b1 ++ b2, j ∉ e3 := by decide) : PEm g X (.Call (.Attribute o "get" apos) [e, f] [] cpos) (mGet2 fa fb fc) (e1 ++ e2 ++ e3) [] :=
  PE.imp (pe_dget2 (by have := hr.un; omega) ho he hf m) (get2_r d d2)
end
end MI
/-! Mp: d[k] = v. -/
namespace MI
open PySem PySem.Spec PyProof.Rows L2
section
variable {g : Gc} {X : Cx} {o b : Expr} {fa fk : M T} {mp : M (List Nat)} {e1 e2 e3 b1 b3 : List Nat} {pos p2 : Pos} {i k : Nat}
theorem putK_set {q : Key} {v : V} : ∀ {ks : List Key} {xs : List V} {j : Nat}, ks.length = xs.length → kIx ks q = some j → (ks.drop (j + 1)).all (fun z => !decide (z = q)) = true → putK (ks.zip xs) q v = ks.zip (xs.set j v)
  | [], [], j, _, h, _ => by simp [kIx] at h
  | [], _ :: _, _, h, _, _ => by simp at h
  | _ :: _, [], _, h, _, _ => by simp at h
  | z :: ks, x :: xs, j, hl, h, hn => by
    unfold kIx at h
    rw [List.findIdx?_cons] at h
    by_cases e : z = q
    · subst e
      simp at h
      subst h
      have hn' : ∀ w ∈ ks, w ≠ z := by simpa using hn
      have key : (ks.zip xs).map (fun kv => if kv.1 = z then (kv.1, v) else kv) = ks.zip xs := by
        conv => rhs; rw [← List.map_id (ks.zip xs)]
        refine List.map_congr_left fun p hp => ?_
        have := hn' p.1 (List.of_mem_zip hp).1
        simp [this]
      simp [putK, key]
    · simp only [e, decide_false, Bool.false_eq_true, if_false] at h
      obtain ⟨j', hj', rfl⟩ := Option.map_eq_some_iff.mp h
      have hany : (ks.zip xs).any (fun kv => decide (kv.1 = q)) = true := by
        obtain ⟨hlt, hq, _⟩ := List.findIdx?_eq_some_iff_getElem.mp hj'
        have hlx : j' < xs.length := by simp at hl; omega
        refine List.any_eq_true.mpr ⟨(ks[j'], xs[j']), ?_, by simpa using hq⟩
        have : (ks.zip xs)[j']'(by simp; omega) = (ks[j'], xs[j']) := by simp
        rw [← this]; exact List.getElem_mem _
      have ih := putK_set (q := q) (v := v) (ks := ks) (xs := xs) (j := j') (by simpa using hl) hj' (by simpa using hn)
      unfold putK at ih ⊢
      rw [if_pos hany] at ih
      rw [List.zip_cons_cons, if_pos (by simp [hany]), List.map_cons, ih]
      simp [e]
theorem putK_new {q : Key} {v : V} {ks : List Key} {xs : List V} (hl : ks.length = xs.length) (h : kIx ks q = none) : putK (ks.zip xs) q v = (ks ++ [q]).zip (xs ++ [v]) := by
  unfold putK
  rw [if_neg, List.zip_append hl]; rfl
  rw [Bool.not_eq_true, List.any_eq_false]
  intro p hp
  unfold kIx at h
  rw [List.findIdx?_eq_none_iff] at h
  have := h p.1 (List.of_mem_zip hp).1
  simpa using this
def fStD (n : T) (args : List T) : Option (T × T) := match n, args with
  | .nd (.dK true ks) ts, [kt, v] => (keyOf kt).bind fun q => match kIx ks q with
    | some j => if ts.length < sizeLine && (ks.drop (j + 1)).all (fun z => !decide (z = q)) then some (.non, .nd (.dK true ks) (ts.set j v)) else none
    | none => if ts.length < sizeLine then some (.non, .nd (.dK true (ks ++ [q])) (ts ++ [v])) else none
  | _, _ => none
def rStD : V → List V → Hp → VK → Prop := fun x xs H Q => ∃ iv v, xs = [iv, v] ∧ rSetD x iv v H fun H' => Q .non H'
theorem mut_stD : MutT g rStD fStD := fun S H a n B0 args xs Ag res n' Q rn ho ra nd nS ef k => by
  unfold fStD at ef
  split at ef
  · rename_i ks ts kt v
    obtain ⟨q, eq1, ef⟩ := Option.bind_eq_some_iff.mp ef
    obtain ⟨a', xs0, B, ex, at_, eA, c, rl⟩ := rn
    injection ex with ex
    subst ex
    have eA : a :: B0 = a :: B := eA
    injection eA with _ eA
    subst eA
    obtain ⟨hH, hkl, _⟩ := at_
    have hl := RpL.length _ _ _ rl
    obtain ⟨iv, ys, C1, C2, y1, y2, w1, w2⟩ := ra
    obtain ⟨eiv, eC⟩ := keyOf_rep eq1 w1
    subst eC
    rw [List.nil_append] at y2
    subst y2
    obtain ⟨vv, zs, D1, D2, d1, d2, w3, d4⟩ := w2
    obtain ⟨rfl, rfl⟩ := d4
    rw [List.append_nil] at d2
    subst d2
    subst d1
    obtain ⟨na, nd2⟩ := List.nodup_cons.mp nd
    have nB : ∀ b ∈ B0, b ≠ a := fun b hb e => na (List.mem_append_left _ (e ▸ hb))
    have nC : ∀ b ∈ Ag, b ≠ a := fun b hb e => na (List.mem_append_right _ (e ▸ hb))
    have kp : ∀ {o' : HO} {ts : List T} {xs : List V} {D : List Addr}, RpL g S H ts xs D → (∀ b ∈ D, b ≠ a) → RpL g S (upd H a o') ts xs D := fun r hD => RpL.keep (M := fun b => b = a) (fun b o e n => by rw [upd_ne n]; exact e) (fun b e => by rw [e, hH]; trivial) (fun b hb e => nS (e ▸ hb)) (fun _ h => h) _ _ _ r hD
    have kp1 : ∀ {o' : HO} {t : T} {x : V} {D : List Addr}, Rp g S H t x D → (∀ b ∈ D, b ≠ a) → Rp g S (upd H a o') t x D := fun r hD => Rp.keep (M := fun b => b = a) (fun b o e n => by rw [upd_ne n]; exact e) (fun b e => by rw [e, hH]; trivial) (fun b hb e => nS (e ▸ hb)) (fun _ h => h) _ _ _ r hD
    split at ef
    · rename_i j hj
      split at ef
      · rename_i hcond
        obtain ⟨hz, hrest⟩ := Bool.and_eq_true_iff.mp hcond
        have hz : ts.length < sizeLine := of_decide_eq_true hz
        injection ef with ef
        injection ef with h1 h2
        subst h1; subst h2
        have hjk : j < ks.length := by
          unfold kIx at hj
          exact (List.findIdx?_eq_some_iff_getElem.mp hj).1
        have hjx : j < xs0.length := by rw [← hkl]; exact hjk
        have hjl : j < ts.length := by rw [hl]; exact hjx
        obtain ⟨z, B1, B2, B3, hzz, eB, rz, r1, r3⟩ := RpL.split ts xs0 B0 rl j ts[j] (by simp [hjl])
        refine ⟨iv, vv, y1, a, upd H a (.dK (putK (ks.zip xs0) q vv)), rfl, ?_, ?_⟩
        · rw [eiv]
          exact DPut.k (k := q) hH (by simp; omega)
        · rw [putK_set hkl hj hrest]
          have rj : RpL g S (upd H a (.dK (ks.zip (xs0.set j vv)))) (ts.set j v) (xs0.set j vv) (B1 ++ (Ag ++ B3)) := by
            refine RpL.join hjl (by simp [hjx]) (by rw [List.length_set]; exact hl) ?_ (kp1 w3 nC) ?_
            · have : (xs0.set j vv).take j = xs0.take j := by rw [List.take_set_of_le (Nat.le_refl _)]
              rw [this]
              exact kp r1 fun b hb => nB b (by rw [eB]; exact List.mem_append_left _ hb)
            · have : (xs0.set j vv).drop (j + 1) = xs0.drop (j + 1) := by rw [List.drop_set_of_lt (Nat.lt_succ_self _)]
              rw [this]
              exact kp r3 fun b hb => nB b (by rw [eB]; exact List.mem_append_right _ (List.mem_append_right _ hb))
          have inB : ∀ b ∈ B1 ++ (Ag ++ B3), b ∈ B0 ∨ b ∈ Ag := fun b hb => by
            rcases List.mem_append.mp hb with h | h
            · exact .inl (by rw [eB]; exact List.mem_append_left _ h)
            · rcases List.mem_append.mp h with h | h
              · exact .inr h
              · exact .inl (by rw [eB]; exact List.mem_append_right _ (List.mem_append_right _ h))
          refine k .non (.dK (ks.zip (xs0.set j vv))) (B1 ++ (Ag ++ B3)) ⟨a, _, _, rfl, ⟨upd_same, by rw [List.length_set]; exact hkl, fun z => nomatch z⟩, rfl, .inl rfl, rj⟩ rfl ⟨rfl, rfl⟩ (List.nodup_cons.mpr ⟨fun h => ?_, ?_⟩) inB
          · rcases inB a h with h | h
            · exact nB a h rfl
            · exact nC a h rfl
          · obtain ⟨n1, n2, n3⟩ := List.nodup_append.mp nd2
            rw [eB] at n1 n3
            obtain ⟨m1, m2, m3⟩ := List.nodup_append.mp n1
            obtain ⟨_, l2, l3⟩ := List.nodup_append.mp m2
            refine List.nodup_append.mpr ⟨m1, List.nodup_append.mpr ⟨n2, l2, fun x hx y hy e => ?_⟩, fun x hx y hy e => ?_⟩
            · exact n3 y (List.mem_append_right _ (List.mem_append_right _ hy)) x hx e.symm
            · rcases List.mem_append.mp hy with h | h
              · exact n3 x (List.mem_append_left _ hx) y h e
              · exact m3 x hx y (List.mem_append_right _ h) e
      · cases ef
    · rename_i hj
      split at ef
      · rename_i hz
        injection ef with ef
        injection ef with h1 h2
        subst h1; subst h2
        refine ⟨iv, vv, y1, a, upd H a (.dK (putK (ks.zip xs0) q vv)), rfl, ?_, ?_⟩
        · rw [eiv]
          exact DPut.k (k := q) hH (by simp; omega)
        · rw [putK_new hkl hj]
          refine k .non (.dK ((ks ++ [q]).zip (xs0 ++ [vv]))) (B0 ++ Ag) ⟨a, _, _, rfl, ⟨upd_same, by simp [hkl], fun z => nomatch z⟩, rfl, .inl rfl, RpL.append _ _ _ _ _ _ (kp rl nB) (RpL.one (kp1 w3 nC))⟩ rfl ⟨rfl, rfl⟩ nd fun b hb => List.mem_append.mp hb
      · cases ef
  · cases ef
def wrD (i : Nat) (p : List Nat) (k v : T) : M Fl := fun Ts => match subT p (slot Ts i) with
  | some n => if n.ownNd then (match fStD n [k, v] with
    | some (_, n') => some (.nx, Ts.set i (setT p (slot Ts i) n'))
    | none => none) else none
  | none => none
def mSetD (i : Nat) (mp : M (List Nat)) (fk fa : M T) : M Fl := bnd fa fun v => bnd mp fun p => bnd fk fun k => wrD i p k v
theorem wrD_some {p : List Nat} {k v : T} {Ts Ts' : List T} {fl : Fl} (h : wrD i p k v Ts = some (fl, Ts')) : ∃ n r n', subT p (slot Ts i) = some n ∧ n.ownNd = true ∧ fStD n [k, v] = some (r, n') ∧ fl = .nx ∧ Ts' = Ts.set i (setT p (slot Ts i) n') := by
  unfold wrD at h
  split at h
  · rename_i n hn
    split at h
    · rename_i ho
      split at h
      · rename_i r n' hf
        injection h with h
        injection h with h1 h2
        exact ⟨n, r, n', hn, ho, hf, h1.symm, h2.symm⟩
      · cases h
    · cases h
  · cases h
theorem setD_r (d : i ∉ e3) (D : Ends) (σ : L2.St) (H : Hp) (h : TSm g (mSetD i mp fk fa) [] ((e1 ++ (e2 ++ e3)) ++ [i]) D σ H) : tAsg (TM g fa e1 []) (gSub (TL g mp e2 i) (TM g fk e3 b3) rSetD) D σ H := by
  obtain ⟨S, Ts, A, fl, Ts', R, q, k⟩ := h
  obtain ⟨v, Ts1, q1, q2⟩ := bnd_some q
  obtain ⟨p, Ts2, q3, q4⟩ := bnd_some q2
  obtain ⟨kk, Ts3, q5, q6⟩ := bnd_some q4
  obtain ⟨n, r0, n', hn, ho, hf, h1, h2⟩ := wrD_some q6
  subst h1; subst h2
  refine ⟨S, Ts, A, v, Ts1, R, q1, fun x H1 S1 A1 Ax R1 rx o1 p1 s1 => ⟨S1, Ts1, A1, p, Ts2, R1, q3, fun y H2 S2 A2 x0 u B R2 hx pl p2 s2 => ⟨S2, Ts2, A2, kk, Ts3, R2, q5, fun z H3 S3 A3 Az R3 rz oz p3 s3 => ?_⟩⟩⟩
  have pl3 := pl_held R2 pl p3 s3 d
  have hu : u = n := by
    have := (Pl.rep _ _ _ _ _ _ _ pl3).2.2
    rw [hn] at this
    injection this with this
    exact this.symm
  subst hu
  have p23 := p2.trans R1 p3
  have s23 := s2.trans s3
  have hc := Rp.cells _ _ _ rx
  have rx3 := rx.held R1 o1 p23 s23 fun j hj => nomatch hj
  have ox3 := o1.held R1 R3 hc p23 s23 fun j hj => nomatch hj
  have kk0 : Az = [] ∧ Rp g S3 H3 kk z [] := by
    unfold fStD at hf
    split at hf
    · rename_i heq
      injection heq with heq _
      subst heq
      obtain ⟨qk, hq, _⟩ := Option.bind_eq_some_iff.mp hf
      have e := (keyOf_rep hq rz).2
      subst e
      exact ⟨rfl, rz⟩
    · cases hf
  have ra : RpL g S3 H3 [kk, v] [z, x] Ax := ⟨z, [x], [], Ax, rfl, rfl, kk0.2, RpL.one rx3⟩
  have fin := mut_fin (Q := fun x' H' => D.nx σ H') mut_stD R R3 hx pl3 ra ox3 (p1.trans R p23) (s1.trans s23) ho hf fun x' H' S' A' Ax' R' rx' o' p' s' => k σ H' S' A' (fun _ _ => rfl) R' p' s'
  obtain ⟨iv, vv, e, w⟩ := fin
  injection e with e1' e2'
  injection e2' with e3' _
  subst e1'; subst e3'
  exact w
theorem ts_setD (hr : Room k X.A) (ha : PEm g X b fa e1 []) (hp : PLm g X o mp e2 i) {kx : Expr} (hk : PEm g X kx fk e3 b3) (d : i ∉ e3 := by decide)
    (hset : ∀ v, assign (.Subscript o kx p2) X.env v = (do let ov ← holding [v] (eval o X.env); let iv ← holding [v, ov] (eval kx X.env); standAt p2; holding [v, ov, iv] (setItem ov iv v); release [v, ov, iv] []) := by intro _; rfl)
    (hs : swapsWithSole [.Subscript o kx p2] b pos.line X.env = pure false := by rfl) (hw : swappedStores [.Subscript o kx p2] b X.env = pure none := by rfl) (h1 : (assignEach [.Subscript o kx p2] X.env).map (·.2) = [assign (.Subscript o kx p2) X.env] := by rfl) :
    PSm g X (.Assign [.Subscript o kx p2] b pos) (mSetD i mp fk fa) [] ((e1 ++ (e2 ++ e3)) ++ [i]) := PS.imp (ps_asg ha (pg_sub hp hk (set_dict (by have := hr.un; omega)) hset) hs hw h1) (setD_r d)
end
end MI
/-! Mq: dict comprehensions. -/
namespace MI
open PySem PySem.Spec PyProof.Rows L2
theorem dc_it {J : It} {n : Nat} {G : Hp → Prop} {Y : Nat → Hp → V → Hp → Prop} (w : Walk J n G Y) {g : TG} {tt : TT} {tk tv : TE} {vs : List Nat} {σ : L2.St} {H1 : Hp} {D : Addr} {Qd : Hp → Prop} (Pv : Nat → Hp → Prop) (h0 : Pv 0 (upd H1 D (.dK []))) (hG : ∀ i H, i ≤ n → Pv i H → G H)
    (hs : ∀ i x H H', i < n → Pv i H → Y i H x H' → g x (wipe σ vs) H' fun σ2 H2 => wipe σ2 vs = wipe σ vs ∧ tt σ2 H2 fun b H3 =>
      if b = true then tk σ2 H3 fun y H4 => tv σ2 H4 fun z H5 => ∃ kvs k, y = kV k ∧ H5 D = some (.dK kvs) ∧ kvs.length < sizeLine ∧ Pv (i + 1) (upd H5 D (.dK (putK kvs k z))) else Pv (i + 1) H3) (hd : ∀ H, Pv n H → Qd H) :
    ∃ W : Nat → Nat → Hp → Prop, (∃ m, W 0 m (upd H1 D (.dK []))) ∧ ∀ i m H, W i m H →
      (J.stop i H ∧ Qd H) ∨ (J.go i H ∧ ∃ Nx : Hp → Prop, (∀ H', Nx H' → ∃ m', m' < m ∧ W (i + 1) m' H') ∧ ∀ x H', J.yld i H x H' → g x (wipe σ vs) H' fun σ2 H2 => wipe σ2 vs = wipe σ vs ∧ tt σ2 H2 fun b H3 =>
        if b = true then tk σ2 H3 fun y H4 => tv σ2 H4 fun z H5 => ∃ kvs k, y = kV k ∧ H5 D = some (.dK kvs) ∧ kvs.length < sizeLine ∧ Nx (upd H5 D (.dK (putK kvs k z))) else Nx H3) := by
  refine ⟨fun i m H => m = n - i ∧ i ≤ n ∧ Pv i H, ⟨n, by simp, Nat.zero_le _, h0⟩, ?_⟩
  rintro i m H ⟨rfl, hi, p⟩
  have q := hG i H hi p
  by_cases hlt : i < n
  · refine .inr ⟨w.goes i H hlt q, Pv (i + 1), fun H' p' => ⟨n - (i + 1), by omega, rfl, hlt, p'⟩, fun x H' y => hs i x H H' hlt p (w.yields i H x H' hlt q y)⟩
  · have e : i = n := by omega
    subst e
    exact .inl ⟨w.stops H q, hd H p⟩
/-- the turns: acc the dict so far -/
def dcM (m : T → M Unit) (tt : M Bool) (tk tv : M T) (vs : List Nat) : List T → T → M T
  | [], acc => ret acc
  | t :: ts, acc => bnd (m t) fun _ => bnd tt fun b => if b then bnd tk fun q => bnd tv fun r => (match fStD acc [q, r] with
      | some (_, acc') => fun Ts => dcM m tt tk tv vs ts acc' (wipeT Ts vs)
      | none => fun _ => none) else fun Ts => dcM m tt tk tv vs ts acc (wipeT Ts vs)
def mDc (mi : M (List T)) (m : T → M Unit) (tt : M Bool) (tk tv : M T) (vs : List Nat) : M T := bnd mi fun items => fun Ts => if vs.all (fun i => hidOk (slot Ts i)) then (match dcM m tt tk tv vs items (.nd (.dK true []) []) (wipeT Ts vs) with
  | some (acc, Ts2) => some (acc, rest Ts Ts2 vs)
  | none => none) else none
theorem fStD_own {n q r res n' : T} (h : fStD n [q, r] = some (res, n')) : ∃ ks ts qk, n = .nd (.dK true ks) ts ∧ ts.length < sizeLine ∧ keyOf q = some qk := by
  unfold fStD at h
  split at h
  · rename_i ks ts kt v heq
    injection heq with h1 h2
    injection h2 with h2 _
    subst h1; subst h2
    obtain ⟨qk, e1, e2⟩ := Option.bind_eq_some_iff.mp h
    refine ⟨ks, ts, qk, rfl, ?_, e1⟩
    split at e2
    · split at e2
      · rename_i hc
        exact of_decide_eq_true (Bool.and_eq_true_iff.mp hc).1
      · cases e2
    · split at e2
      · rename_i hc; exact hc
      · cases e2
  · cases h
section
variable {g : Gc} {X : Cx} {tg iter : Expr} {mi : M (List T)} {m : T → M Unit} {tt : M Bool} {tk tv : M T} {a1 e1 e2 e3 e4 b1 : List Nat} {vs : List Nat} {pos : Pos}
theorem dc_core' {S S1 : Addr → Prop} {H H1 : Hp} {A A1 : Nat → List Addr} {Ts Ts1 TsF : List T} {accF : T} {σ : L2.St} {Q : VK} {J : It} {items : List T} {cs : List T} {cx : List V} {Ax : List Addr} {G : Hp → Prop} {Da : Addr}
    (d : ∀ j ∈ b1, j ∉ a1 ++ (e2 ++ (e3 ++ e4))) (dv : ∀ j ∈ a1, j ∈ vs) (dh : ∀ j ∈ vs, j ∉ e2 ++ (e3 ++ e4)) (R : SR g S H σ Ts A) (hh : ∀ i ∈ vs, hidOk (slot Ts1 i) = true) (q3 : dcM m tt tk tv vs items (.nd (.dK true []) []) (wipeT Ts1 vs) = some (accF, TsF)) (R1 : SR g S1 H1 σ Ts1 A1) (p1 : Po S H A S1 H1 A1) (s1 : Stb e1 H Ts A H1 Ts1 A1) (hDa : H1 Da = none)
    (rc : RpL g S1 H1 cs cx Ax) (oc : Ow b1 H A S1 A1 Ax) (wk : Walk J items.length G (fun i H2 x H3 => (∀ a o, H2 a = some o → H3 a = some o) ∧ ∀ S2, RpL g S2 H2 cs cx Ax → ∃ t, items[i]? = some t ∧ Rp g S2 H3 t x [])) (hG : ∀ S' H' A', Po S1 H1 A1 S' H' A' → RpL g S' H' cs cx Ax → G H')
    (k : ∀ x H' S' A' Ax, SR g S' H' σ (rest Ts1 TsF vs) A' → Rp g S' H' accF x Ax → Ow [] H A S' A' Ax → Po S H A S' H' A' → Stb (e1 ++ (e2 ++ (e3 ++ e4))) H Ts A H' (rest Ts1 TsF vs) A' → Q x H') :
    ∃ W : Nat → Nat → Hp → Prop, (∃ m, W 0 m (upd H1 Da (.dK []))) ∧ ∀ i n H, W i n H →
      (J.stop i H ∧ Q (.ref Da) H) ∨ (J.go i H ∧ ∃ Nx : Hp → Prop, (∀ H', Nx H' → ∃ m', m' < n ∧ W (i + 1) m' H') ∧ ∀ x H', J.yld i H x H' → TGm g m a1 x (wipe σ vs) H' fun σ2 H2 => wipe σ2 vs = wipe σ vs ∧ TMt g tt e2 σ2 H2 fun b H3 =>
        if b = true then TM g tk e3 [] σ2 H3 fun y H4 => TM g tv e4 [] σ2 H4 fun z H5 => ∃ kvs k, y = kV k ∧ H5 Da = some (.dK kvs) ∧ kvs.length < sizeLine ∧ Nx (upd H5 Da (.dK (putK kvs k z))) else Nx H3) := by
  have ex0 := upd_ext (o := .dK []) hDa
  have fr := R1.fresh hDa
  have bkD : (∃ j, Da ∈ A j) ∨ H Da = none := by
    cases e : H Da with
    | none => exact .inr rfl
    | some ob =>
      by_cases hj : ∃ j, Da ∈ A j
      · exact .inl hj
      · rw [p1.keep Da ob e fun i hi => hj ⟨i, hi⟩] at hDa; cases hDa
  refine dc_it wk (fun i H' => ∃ S' Tsi A' acc Aa, SR g S' H' (wipe σ vs) Tsi A' ∧ (∀ j ∈ vs, A' j = []) ∧ dcM m tt tk tv vs (items.drop i) acc Tsi = some (accF, TsF) ∧ Po S1 H1 A1 S' H' A' ∧ Stb (vs ++ (e2 ++ (e3 ++ e4))) H1 Ts1 A1 H' Tsi A' ∧ RpL g S' H' cs cx Ax ∧ Ow b1 H A S' A' Ax ∧ Rp g S' H' acc (.ref Da) Aa ∧ acc.ownNd = true ∧ Ow [] H A S' A' Aa ∧ (∀ a ∈ Ax, a ≠ Da))
    ⟨S1, wipeT Ts1 vs, A1, .nd (.dK true []) [], [Da], (R1.ext ex0).wiped vs hh, fun j hj => hid_nil R1 (hh j hj), q3, Po.ext ex0, ?_, rc.ext ex0, oc, ⟨Da, [], [], rfl, ⟨upd_same, rfl, fun z => nomatch z⟩, rfl, .inl rfl, rfl, rfl⟩, rfl, ⟨?_, ?_, fun _ => List.nodup_cons.mpr ⟨(fun z => nomatch z), List.nodup_nil⟩, ?_⟩, ?_⟩ (fun i H' _ ⟨S', _, A', _, _, _, _, _, p, _, r, _⟩ => hG S' H' A' p r) ?_ ?_
  · exact fun j hj => ⟨wipeT_out vs Ts1 j fun z => hj (List.mem_append_left _ z), rfl, fun a _ o eo => ex0 a o eo⟩
  · intro a ha
    rw [List.mem_singleton.mp ha]; exact fr.1
  · intro i _ a ha
    rw [List.mem_singleton.mp ha]; exact fr.2 i
  · intro a ha
    rw [List.mem_singleton.mp ha]; exact bkD
  · intro a ha e
    subst e
    exact mut_ne (RpL.cells _ _ _ rc a ha) hDa
  · rintro i x H' H2 hi ⟨S', Tsi, A', acc, Aa, Ri, hv, qi, pi, si, ri, oi, ra, ho, oa, nx⟩ ⟨ex, hy⟩
    obtain ⟨t, ht, rt⟩ := hy S' ri
    have ed : items.drop i = t :: items.drop (i + 1) := by
      obtain ⟨h1, h2⟩ := List.getElem?_eq_some_iff.mp ht
      rw [← h2]; exact List.drop_eq_getElem_cons h1
    rw [ed] at qi
    obtain ⟨_, Tsa, qa, qb⟩ := bnd_some qi
    obtain ⟨b, Tsb, qc, qd⟩ := bnd_some qb
    have Ri2 := Ri.ext ex
    refine ⟨S', Tsi, A', t, [], Tsa, Ri2, rt, List.nodup_nil, (fun _ h => nomatch h), qa, fun σ2 A2 hσ2 R2 n2 s2 => ?_⟩
    have ew : wipe σ2 vs = wipe σ vs := by
      have len2 : σ2.length = σ.length := by rw [hσ2.1, wipe_length]
      refine List.ext_getElem? fun j => ?_
      by_cases hj : j ∈ vs
      · by_cases hl : j < σ.length
        · rw [wipe_in (by omega) hj, wipe_in hl hj]
        · rw [List.getElem?_eq_none_iff.mpr (by rw [wipe_length]; omega), List.getElem?_eq_none_iff.mpr (by rw [wipe_length]; omega)]
      · rw [wipe_out hj, hσ2.2 j fun z => hj (dv j z)]
    have hAv : ∀ j ∈ vs, A2 j = [] := fun j hj => by
      cases e : A2 j with
      | nil => rfl
      | cons a l =>
        have ha : a ∈ A2 j := by rw [e]; exact List.mem_cons_self
        rcases n2 j a ha with ⟨j', hj'⟩ | h
        · have hjv : j' ∉ vs := fun z => by rw [hv j' z] at hj'; exact nomatch hj'
          have e2 := (s2 j' fun z => hjv (dv j' z)).2
          exact absurd (by rw [e2]; exact hj') (R2.dj j j' (by rintro rfl; exact hjv hj) a ha)
        · exact nomatch h
    have oi2 : Ow b1 H A S' A2 Ax := oi.bound (a1 := a1) R2 n2 (fun j hj => (s2 j hj).2) fun j hj z => d j hj (List.mem_append_left _ z)
    have oa2 : Ow [] H A S' A2 Aa := oa.bound (a1 := a1) R2 n2 (fun j hj => (s2 j hj).2) fun j hj => nomatch hj
    have pi2 : Po S1 H1 A1 S' H2 A2 := (pi.trans R1 (Po.ext ex)).bound (a1 := a1) n2
    have hcx : ∀ a ∈ Ax, Mut (H2 a) := RpL.cells _ _ _ (ri.ext ex)
    have hca : ∀ a ∈ Aa, Mut (H2 a) := Rp.cells _ _ _ (ra.ext ex)
    refine ⟨ew, S', Tsa, A2, b, Tsb, R2, qc, fun H3 S3 A3 R3 p3 s3 => ?_⟩
    have d2 : ∀ j ∈ b1, j ∉ e2 := fun j hj z => d j hj (List.mem_append_right _ (List.mem_append_left _ z))
    have d3 : ∀ j ∈ b1, j ∉ e3 := fun j hj z => d j hj (List.mem_append_right _ (List.mem_append_right _ (List.mem_append_left _ z)))
    have d4 : ∀ j ∈ b1, j ∉ e4 := fun j hj z => d j hj (List.mem_append_right _ (List.mem_append_right _ (List.mem_append_right _ z)))
    have hA3 : ∀ j ∈ vs, A3 j = [] := fun j hj => ((s3 j fun z => dh j hj (List.mem_append_left _ z)).2.1).trans (hAv j hj)
    have ra3 := (ra.ext ex).held R2 oa2 p3 s3 (fun _ z => nomatch z)
    have oa3 := oa2.held R2 R3 hca p3 s3 (fun _ z => nomatch z)
    have ri3 := RpL.held R2 (ri.ext ex) oi2 p3 s3 d2
    have oi3 := oi2.held R2 R3 hcx p3 s3 d2
    have p4 := pi2.trans R1 p3
    have s4 : Stb (vs ++ (e2 ++ (e3 ++ e4))) H1 Ts1 A1 H3 Tsb A3 := fun j hj => by
      have hjv : j ∉ vs := fun z => hj (List.mem_append_left _ z)
      obtain ⟨x1, x2, x3⟩ := si j hj
      obtain ⟨y1, y2⟩ := s2 j fun z => hjv (dv j z)
      obtain ⟨z1, z2, z3⟩ := s3 j fun z => hj (List.mem_append_right _ (List.mem_append_left _ z))
      exact ⟨z1.trans (y1.trans x1), z2.trans (y2.trans x2), fun a ha o eo => z3 a (by rw [y2, x2]; exact ha) o (ex a o (x3 a ha o eo))⟩
    cases b with
    | false =>
      refine iteF ⟨S3, wipeT Tsb vs, A3, acc, Aa, R3.turned ew hA3, hA3, qd, p4, fun j hj => ?_, ri3, oi3, ra3, ho, oa3, nx⟩
      obtain ⟨x1, x2, x3⟩ := s4 j hj
      exact ⟨(wipeT_out vs Tsb j fun z => hj (List.mem_append_left _ z)).trans x1, x2, x3⟩
    | true =>
      obtain ⟨kt, Tsk, qk, ql⟩ := bnd_some qd
      obtain ⟨r, Tsc, qe, qf⟩ := bnd_some ql
      cases hst : fStD acc [kt, r] with
      | none =>
        simp only [hst] at qf
        cases qf
      | some pr =>
        obtain ⟨res, acc'⟩ := pr
        simp only [hst] at qf
        refine iteT ⟨S3, Tsb, A3, kt, Tsk, R3, qk, fun yk Hk Sk Ak Ayk Rk ryk oyk pk sk => ⟨Sk, Tsk, Ak, r, Tsc, Rk, qe, fun y H4 S4 A4 Ay R4 ry oy p5 s5 => ?_⟩⟩
        obtain ⟨ks, ts, qkey, eacc, hz, hkey⟩ := fStD_own hst
        obtain ⟨eyk, eAyk⟩ := keyOf_rep hkey ryk
        -- what is held, behind the key
        have hca3 : ∀ a ∈ Aa, Mut (H3 a) := Rp.cells _ _ _ ra3
        have rak := ra3.held R3 oa3 pk sk (fun _ z => nomatch z)
        have oak := oa3.held R3 Rk hca3 pk sk (fun _ z => nomatch z)
        have rik := RpL.held R3 ri3 oi3 pk sk d3
        have oik := oi3.held R3 Rk (RpL.cells _ _ _ ri3) pk sk d3
        -- and behind the value
        have hcak : ∀ a ∈ Aa, Mut (Hk a) := Rp.cells _ _ _ rak
        have ra4 := rak.held Rk oak p5 s5 (fun _ z => nomatch z)
        have oa4 := oak.held Rk R4 hcak p5 s5 (fun _ z => nomatch z)
        have ri4 := RpL.held Rk rik oik p5 s5 d4
        have oi4 := oik.held Rk R4 (RpL.cells _ _ _ rik) p5 s5 d4
        have oap := Ow.app ((p1.trans R p4).trans R pk) hcak oak oa4 oy
        have ra4' := ra4
        subst eacc
        obtain ⟨a, accV, B, e1', at_, eA, cc, rl⟩ := ra4
        injection e1' with e1'
        subst e1'
        obtain ⟨hH4, hkl, _⟩ := at_
        have eA : Aa = Da :: B := eA
        subst eA
        have ndp : (Da :: (B ++ Ay)).Nodup := oap.nd rfl
        obtain ⟨n1, n2'⟩ := List.nodup_cons.mp ndp
        have nDB : Da ∉ B := fun z => n1 (List.mem_append_left _ z)
        have nDy : Da ∉ Ay := fun z => n1 (List.mem_append_right _ z)
        have nS : ¬ S4 Da := oa4.ns Da List.mem_cons_self
        have nA : ∀ i, Da ∉ A4 i := fun i => oa4.dj i (fun z => nomatch z) Da List.mem_cons_self
        have hA4 : ∀ j ∈ vs, A4 j = [] := fun j hj => ((s5 j fun z => dh j hj (List.mem_append_right _ (List.mem_append_right _ z))).2.1).trans (((sk j fun z => dh j hj (List.mem_append_right _ (List.mem_append_left _ z))).2.1).trans (hA3 j hj))
        have rargs : RpL g S4 H4 [kt, r] [yk, y] Ay := by
          refine ⟨yk, [y], [], Ay, rfl, rfl, ?_, RpL.one ry⟩
          have := ryk.held Rk oyk p5 s5 (fun _ z => nomatch z)
          rw [eAyk] at this
          exact this
        have fin := mut_stD S4 H4 Da (.nd (.dK true ks) ts) B [kt, r] [yk, y] Ay res acc' (fun _ H' => H' = upd H4 Da (.dK (putK (ks.zip accV) qkey y)) → ∃ S' Tsi A' acc Aa, SR g S' H' (wipe σ vs) Tsi A' ∧ (∀ j ∈ vs, A' j = []) ∧ dcM m tt tk tv vs (items.drop (i + 1)) acc Tsi = some (accF, TsF) ∧ Po S1 H1 A1 S' H' A' ∧ Stb (vs ++ (e2 ++ (e3 ++ e4))) H1 Ts1 A1 H' Tsi A' ∧ RpL g S' H' cs cx Ax ∧ Ow b1 H A S' A' Ax ∧ Rp g S' H' acc (.ref Da) Aa ∧ acc.ownNd = true ∧ Ow [] H A S' A' Aa ∧ (∀ a ∈ Ax, a ≠ Da)) ra4' rfl rargs ndp nS hst fun z o' Bn rn hon _ ndn inn _ => by
          have Rg := R4.grow (o' := o') hH4 trivial nA nS
          refine ⟨S4, wipeT Tsc vs, A4, acc', Da :: Bn, Rg.turned ew hA4, hA4, qf, ((p4.trans R1 pk).trans R1 p5).grown hDa, fun j hj => ?_, RpL.grown ri4 hH4 trivial nS fun z => nx Da z rfl, oi4, rn, hon, ?_, nx⟩
          · have sg := ((s4.trans sk).trans s5).grown (o := o') hDa j fun z => hj (by
              rcases List.mem_append.mp z with z | z
              · rcases List.mem_append.mp z with z | z
                · exact z
                · exact List.mem_append_right _ (List.mem_append_right _ (List.mem_append_left _ z))
              · exact List.mem_append_right _ (List.mem_append_right _ (List.mem_append_right _ z)))
            obtain ⟨x1, x2, x3⟩ := sg
            exact ⟨(wipeT_out vs Tsc j fun z => hj (List.mem_append_left _ z)).trans x1, x2, x3⟩
          · have sub : ∀ b ∈ Da :: Bn, b ∈ Da :: (B ++ Ay) := fun b hb => by
              rcases List.mem_cons.mp hb with rfl | hb
              · exact List.mem_cons_self
              · exact List.mem_cons_of_mem _ (List.mem_append.mpr (inn b hb))
            exact ⟨fun b hb => oap.ns b (sub b hb), fun i hi b hb => oap.dj i hi b (sub b hb), fun _ => ndn, fun b hb => oap.new b (sub b hb)⟩
        obtain ⟨iv, vv, ev, a2, H'', ea2, hput, hfin⟩ := fin
        injection ev with ev1 ev2
        injection ev2 with ev2 _
        subst ev1; subst ev2
        injection ea2 with ea2
        subst ea2
        refine ⟨ks.zip accV, qkey, eyk, hH4, ?_, ?_⟩
        · have := RpL.length _ _ _ rl
          simp; omega
        · rcases hput with ⟨kvs, k', e1, e2', e3', e4'⟩ | ⟨kvs, k', b', e1, _⟩
          · rw [hH4] at e1
            injection e1 with e1
            injection e1 with e1
            subst e1
            have ek : k' = qkey := by
              rw [eyk] at e2'
              cases k' <;> cases qkey <;> first | (injection e2' with e2'; rw [e2']) | (cases e2')
            subst ek
            subst e4'
            exact hfin rfl
          · rw [hH4] at e1; cases e1
  · rintro H' ⟨S', Tsi, A', acc, Aa, Ri, hv, qi, pi, si, ri, oi, ra, ho, oa, nx⟩
    rw [List.drop_length] at qi
    have qi : some (acc, Tsi) = some (accF, TsF) := qi
    injection qi with qi
    injection qi with h1 h2
    subst h1; subst h2
    refine k (.ref Da) H' S' A' Aa (R1.rested pi Ri hh hv) ra oa (p1.trans R pi) fun j hj => ?_
    obtain ⟨x1, x2, x3⟩ := s1 j fun z => hj (List.mem_append_left _ z)
    by_cases hjv : j ∈ vs
    · have hl : Ts1.length = Tsi.length := by rw [R1.len, Ri.len, wipe_length]
      refine ⟨(rest_in vs Tsi j hjv hl).trans x1, ?_, fun a ha o eo => ?_⟩
      · rw [hv j hjv, ← x2, hid_nil R1 (hh j hjv)]
      · rw [← x2, hid_nil R1 (hh j hjv)] at ha
        exact nomatch ha
    · obtain ⟨y1, y2, y3⟩ := si j fun z => (List.mem_append.mp z).elim hjv fun z => hj (List.mem_append_right _ z)
      exact ⟨(rest_out vs Tsi j hjv).trans (y1.trans x1), y2.trans x2, fun a ha o eo => y3 a (by rw [x2]; exact ha) o (x3 a ha o eo)⟩
theorem dc_r (d : ∀ j ∈ b1, j ∉ a1 ++ (e2 ++ (e3 ++ e4))) (dv : ∀ j ∈ a1, j ∈ vs) (dh : ∀ j ∈ vs, j ∉ e2 ++ (e3 ++ e4)) (σ : L2.St) (H : Hp) (Q : VK) (h : TM g (mDc mi m tt tk tv vs) (e1 ++ (e2 ++ (e3 ++ e4))) [] σ H Q) : tDc (TIm g mi e1 b1) (TGm g m a1) (TMt g tt e2) (TM g tk e3 []) (TM g tv e4 []) vs σ H Q := by
  obtain ⟨S, Ts, A, t, Ts', R, q, k⟩ := h
  obtain ⟨items, Ts1, q1, q2⟩ := bnd_some q
  split at q2
  · rename_i hh
    have hh : ∀ i ∈ vs, hidOk (slot Ts1 i) = true := fun i hi => List.all_eq_true.mp hh i hi
    cases q3 : dcM m tt tk tv vs items (.nd (.dK true []) []) (wipeT Ts1 vs) with
    | none => rw [q3] at q2; cases q2
    | some pr =>
      obtain ⟨accF, TsF⟩ := pr
      rw [q3] at q2
      have q2 : some (accF, rest Ts1 TsF vs) = some (t, Ts') := q2
      injection q2 with q2
      injection q2 with h1 h2
      subst h1; subst h2
      refine ⟨S, Ts, A, items, Ts1, R, q1, fun J H1 S1 A1 R1 it p1 s1 Da hDa => ?_⟩
      obtain ⟨cs, cx, Ax, rc, oc, wk⟩ := it
      exact dc_core' d dv dh R hh q3 R1 p1 s1 hDa rc oc wk (fun S' H' A' _ r => ⟨S', r⟩) k
  · cases q2
theorem x_dc {kx vx : Expr} {ifs : List Expr} {scope : Scope} (own : List (Str × Nat)) (hc : X.calm = true) (hN : X.N.Nodup) (ok : BlkOk X.N X.env.scope scope own) (hi : PIm g X tg iter mi e1 b1)
    (hg : ∀ (s : Shared) (H : Hp) (C : Addr) (cl : List (Str × Addr)) (fp : List Addr), PGm g (X.blk s H scope (compEnvC scope cl C X.env) fp) tg m a1) (ht : ∀ (s : Shared) (H : Hp) (C : Addr) (cl : List (Str × Addr)) (fp : List Addr), PTsm g (X.blk s H scope (compEnvC scope cl C X.env) fp) ifs tt e2)
    (hk : ∀ (s : Shared) (H : Hp) (C : Addr) (cl : List (Str × Addr)) (fp : List Addr), PEm g (X.blk s H scope (compEnvC scope cl C X.env) fp) kx tk e3 []) (he : ∀ (s : Shared) (H : Hp) (C : Addr) (cl : List (Str × Addr)) (fp : List Addr), PEm g (X.blk s H scope (compEnvC scope cl C X.env) fp) vx tv e4 [])
    (d : ∀ j ∈ b1, j ∉ a1 ++ (e2 ++ (e3 ++ e4)) := by decide) (dv : ∀ j ∈ a1, j ∈ own.map (·.2) := by decide) (dh : ∀ j ∈ own.map (·.2), j ∉ e2 ++ (e3 ++ e4) := by decide) (hs : ∀ x, foldedSetIterable iter X.env x = pure x := by intro _; rfl) :
    PEm g X (.DictComp kx vx [⟨tg, iter, ifs, 0⟩] scope pos) (mDc mi m tt tk tv (own.map (·.2))) (e1 ++ (e2 ++ (e3 ++ e4))) [] := PE.imp (pe_dc hc hN hi ok hg ht hk he hs) (dc_r d dv dh)
end
end MI
/-! Mr: what walks a dict: the dict is locked, its slot is dead within. -/
namespace MI
open PySem PySem.Spec PyProof.Rows L2
section
variable {g : Gc} {S S' : Addr → Prop} {H H' : Hp} {M : Addr → Prop}
theorem At.keep2 {k : Kd} {a : Addr} {xs : List V} (h : At g S H k a xs) (kp : ∀ a o, H a = some o → ¬ M a → H' a = some o) (hm : ∀ a, M a → ∀ xs, ¬ Rd H a (.tup xs)) (hS : ∀ a, S a → ¬ M a) (hs : ∀ a, S a → S' a) (ho : k.own = true → ¬ M a) : At g S' H' k a xs := by
  cases k with
  | tup =>
    rcases (show H a = some (.tup xs) ∨ KTup g.K a xs from h) with h | h
    · exact Or.inl (kp a _ h fun m => hm a m xs (.inl h))
    · exact Or.inr h
  | lst o =>
    cases o with
    | true => exact kp _ _ h (ho rfl)
    | false => exact ⟨kp _ _ h.1 (hS a h.2), hs _ h.2⟩
  | scr =>
    rcases (show (Rd H a (.lst xs) ∧ S a) ∨ LW g.K a xs from h) with h | h
    · exact Or.inl ⟨rd_keep h.1 fun o e => kp a o e (hS a h.2), hs _ h.2⟩
    · exact Or.inr h
  | dK o ks =>
    refine ⟨kp _ _ h.1 ?_, h.2.1, fun e => hs _ (h.2.2 e)⟩
    cases o with
    | true => exact ho rfl
    | false => exact hS a (h.2.2 rfl)
  | dT o ks =>
    refine ⟨kp _ _ h.1 ?_, h.2.1, fun e => hs _ (h.2.2 e)⟩
    cases o with
    | true => exact ho rfl
    | false => exact hS a (h.2.2 rfl)
  | ins o c fs =>
    obtain ⟨⟨dx, e⟩, h2⟩ := h
    refine ⟨⟨dx, kp _ _ e ?_⟩, h2.1, fun e => hs _ (h2.2 e)⟩
    cases o with
    | true => exact ho rfl
    | false => exact hS a (h2.2 rfl)
mutual
theorem Rp.keep2 (kp : ∀ a o, H a = some o → ¬ M a → H' a = some o) (hm : ∀ a, M a → ∀ xs, ¬ Rd H a (.tup xs)) (hS : ∀ a, S a → ¬ M a) (hs : ∀ a, S a → S' a) :
    ∀ (t : T) (x : V) (A : List Addr), Rp g S H t x A → (∀ a ∈ A, ¬ M a) → Rp g S' H' t x A
  | .dead, _, _, h, _ => h
  | .non, _, _, h, _ => h
  | .bl _, _, _, h, _ => h
  | .int _, _, _, h, _ => h
  | .str _, _, _, h, _ => h
  | .nd k ts, x, A, h, hA => by
    obtain ⟨a, xs, B, e, at_, eA, c, r⟩ := h
    refine ⟨a, xs, B, e, at_.keep2 kp hm hS hs fun ho => hA a ?_, eA, c, RpL.keep2 kp hm hS hs ts xs B r fun b hb => hA b ?_⟩
    · rw [eA, if_pos ho]; exact List.mem_cons_self
    · rw [eA]
      split
      · exact List.mem_cons_of_mem _ hb
      · exact hb
theorem RpL.keep2 (kp : ∀ a o, H a = some o → ¬ M a → H' a = some o) (hm : ∀ a, M a → ∀ xs, ¬ Rd H a (.tup xs)) (hS : ∀ a, S a → ¬ M a) (hs : ∀ a, S a → S' a) :
    ∀ (ts : List T) (xs : List V) (A : List Addr), RpL g S H ts xs A → (∀ a ∈ A, ¬ M a) → RpL g S' H' ts xs A
  | [], _, _, h, _ => h
  | t :: ts, xs, A, h, hA => by
    obtain ⟨y, ys, A1, A2, e1, e2, r1, r2⟩ := h
    subst e2
    exact ⟨y, ys, A1, A2, e1, rfl, Rp.keep2 kp hm hS hs t y A1 r1 fun a ha => hA a (List.mem_append_left _ ha), RpL.keep2 kp hm hS hs ts ys A2 r2 fun a ha => hA a (List.mem_append_right _ ha)⟩
end
end
/-! ### the lock -/
section
variable {g : Gc} {S : Addr → Prop} {H : Hp} {σ : L2.St} {Ts : List T} {A : Nat → List Addr} {i : Nat} {d : Addr} {od : Obj} {u : HO}
def A0 (A : Nat → List Addr) (i : Nat) : Nat → List Addr := fun j => if j = i then [] else A j
theorem A0_ne {j : Nat} (h : j ≠ i) : A0 A i j = A j := if_neg h
theorem A0_eq : A0 A i i = [] := if_pos rfl
theorem A0_mem {j : Nat} {a : Addr} (h : a ∈ A0 A i j) : j ≠ i ∧ a ∈ A j := by
  by_cases e : j = i
  · subst e; rw [A0_eq] at h; exact nomatch h
  · rw [A0_ne e] at h; exact ⟨e, h⟩
theorem SR.lock (R : SR g S H σ Ts A) (hd : d ∈ A i) (hH : H d = some u) (mu : Mut (some u)) : SR g S (upd H d (.frz od u)) σ (Ts.set i .dead) (A0 A i) where
  rep := fun j => by
    by_cases hj : j = i
    · subst hj
      refine .inl ⟨?_, A0_eq⟩
      by_cases hl : j < Ts.length
      · exact slot_set_eq hl
      · unfold slot
        rw [List.getD_eq_getElem?_getD, List.getElem?_eq_none_iff.mpr (by rw [List.length_set]; omega)]; rfl
    · rw [slot_set_ne hj, A0_ne hj]
      rcases R.rep j with h | ⟨x, h1, h2⟩
      · exact .inl h
      · exact .inr ⟨x, h1, Rp.keep (M := fun a => a = d) (fun a o e n => by rw [upd_ne n]; exact e) (fun a e => by rw [e, hH]; exact mu) (fun a hs e => R.ns i d hd (e ▸ hs)) (fun _ h => h) _ _ _ h2 fun a ha e => R.dj j i hj a ha (e ▸ hd)⟩
  nd := fun j => by
    by_cases hj : j = i
    · subst hj; rw [A0_eq]; exact List.nodup_nil
    · rw [A0_ne hj]; exact R.nd j
  dj := fun j k hjk a ha hb => R.dj j k hjk a (A0_mem ha).2 (A0_mem hb).2
  ns := fun j a ha => R.ns j a (A0_mem ha).2
  len := by rw [List.length_set]; exact R.len
  st := fun a h => by
    have ne : a ≠ d := fun e => R.ns i d hd (e ▸ h)
    rw [upd_ne ne]; exact R.st a h
/-- behind the lock -/
theorem SR.unlock {S2 : Addr → Prop} {H2 : Hp} {Ts2 : List T} {A2 : Nat → List Addr} {x0 : V} {u0 : T} (R : SR g S H σ Ts A) (hx : σ[i]? = some (some x0)) (r0 : Rp g S H u0 x0 (A i)) (hd : d ∈ A i) (hH : H d = some u) (mu : Mut (some u))
    (R2 : SR g S2 H2 σ Ts2 A2) (p : Po S (upd H d (.frz od u)) (A0 A i) S2 H2 A2) (hi : A2 i = []) (ht : ∀ xs, u ≠ .tup xs) :
    SR g S2 (upd H2 d u) σ (Ts2.set i u0) (fun j => if j = i then A i else A2 j) ∧ H2 d = some (.frz od u) ∧ (∀ a o, H a = some o → (∀ j, j ≠ i → a ∉ A j) → upd H2 d u a = some o) := by
  have hd0 : ∀ j, d ∉ A0 A i j := fun j h => R.dj j i (A0_mem h).1 d (A0_mem h).2 hd
  have e2 : H2 d = some (.frz od u) := p.keep d _ upd_same hd0
  have kp : ∀ a o, H a = some o → (∀ j, j ≠ i → a ∉ A j) → upd H2 d u a = some o := fun a o e n => by
    by_cases ea : a = d
    · subst ea; rw [upd_same, ← e, hH]
    · rw [upd_ne ea]
      exact p.keep a o (by rw [upd_ne ea]; exact e) fun j hj => n j (A0_mem hj).1 (A0_mem hj).2
  have hfz : ∀ xs, ¬ Rd H2 d (.tup xs) := fun xs h => by
    rcases h with h | ⟨o, h⟩
    · rw [e2] at h; cases h
    · rw [e2] at h; injection h with h; injection h with _ h; exact ht xs h
  have live : ∀ a, a ∈ A i → ∃ o, upd H d (.frz od u) a = some o := fun a ha => by
    by_cases ea : a = d
    · subst ea; exact ⟨_, upd_same⟩
    · rw [upd_ne ea]
      have := R.cells i a ha
      cases q : H a with
      | none => rw [q] at this; exact this.elim
      | some o => exact ⟨o, rfl⟩
  have dj2 : ∀ j, ∀ a ∈ A2 j, a ∉ A i := fun j a ha hai => by
    rcases p.anew j a ha with ⟨k, hk⟩ | hn
    · exact R.dj k i (A0_mem hk).1 a (A0_mem hk).2 hai
    · obtain ⟨o, ho⟩ := live a hai; rw [hn] at ho; cases ho
  have ns2 : ∀ a ∈ A i, ¬ S2 a := fun a ha h => by
    rcases p.snew a h with h | ⟨k, hk⟩ | hn
    · exact R.ns i a ha h
    · exact R.dj k i (A0_mem hk).1 a (A0_mem hk).2 ha
    · obtain ⟨o, ho⟩ := live a ha; rw [hn] at ho; cases ho
  have hdS : ¬ S2 d := ns2 d hd
  have il : i < Ts2.length := by rw [R2.len]; exact (List.getElem?_eq_some_iff.mp hx).1
  refine ⟨⟨fun j => ?_, fun j => ?_, fun j k hjk a ha hb => ?_, fun j a ha => ?_, by rw [List.length_set]; exact R2.len, fun a h => ?_⟩, e2, kp⟩
  · by_cases hj : j = i
    · subst hj
      rw [slot_set_eq il, if_pos rfl]
      refine .inr ⟨x0, by rw [List.getD_eq_getElem?_getD, hx]; rfl, ?_⟩
      refine Rp.keep (M := fun a => ∃ k, k ≠ j ∧ a ∈ A k) (fun a o e n => kp a o e fun k hk hm => n ⟨k, hk, hm⟩) (fun a ⟨k, _, hk⟩ => R.cells k a hk) (fun a hs ⟨k, _, hk⟩ => R.ns k a hk hs) p.sub _ _ _ r0 fun a ha ⟨k, hk, hm⟩ => R.dj k j hk a hm ha
    · rw [slot_set_ne hj, if_neg hj]
      rcases R2.rep j with h | ⟨x, h1, h2⟩
      · exact .inl h
      · exact .inr ⟨x, h1, Rp.keep2 (M := fun a => a = d) (fun a o e n => by rw [upd_ne n]; exact e) (fun a e xs => by rw [e]; exact hfz xs) (fun a hs e => hdS (e ▸ hs)) (fun _ h => h) _ _ _ h2 fun a ha e => dj2 j a ha (e ▸ hd)⟩
  · by_cases hj : j = i
    · subst hj; rw [if_pos rfl]; exact R.nd j
    · rw [if_neg hj]; exact R2.nd j
  · by_cases hj : j = i
    · subst hj
      rw [if_pos rfl] at ha
      rw [if_neg (Ne.symm hjk)] at hb
      exact dj2 k a hb ha
    · rw [if_neg hj] at ha
      by_cases hk : k = i
      · subst hk
        rw [if_pos rfl] at hb
        exact dj2 j a ha hb
      · rw [if_neg hk] at hb
        exact R2.dj j k hjk a ha hb
  · by_cases hj : j = i
    · subst hj; rw [if_pos rfl] at ha; exact ns2 a ha
    · rw [if_neg hj] at ha; exact R2.ns j a ha
  · have ne : a ≠ d := fun e => hdS (e ▸ h)
    rw [upd_ne ne]; exact R2.st a h
end
end MI
/-! Ms: comprehensions and loops over a dict that is one's own. -/
namespace MI
open PySem PySem.Spec PyProof.Rows L2
inductive Wd where
  | keys | vals | items
def itemsT (w : Wd) (ks : List Key) (ts : List T) : List T := match w with
  | .keys => ks.map kT'
  | .vals => ts
  | .items => (ks.zip ts).map fun p => .nd .tup [kT' p.1, p.2]
def Jt (w : Wd) (d : Addr) (od : Obj) (kvs : List (Key × V)) : It := match w with
  | .keys => Itk d od kvs
  | .vals => Itd d od kvs
  | .items => Iti d od kvs
section
variable {g : Gc}
theorem walkW {w : Wd} {d : Addr} {od : Obj} {ks : List Key} {ts : List T} {xs : List V} (hl : ks.length = xs.length) (ht : ts.length = xs.length) :
    Walk (Jt w d od (ks.zip xs)) (itemsT w ks ts).length (fun H => H d = some (.frz od (.dK (ks.zip xs)))) (fun i H2 x H3 => (∀ a o, H2 a = some o → H3 a = some o) ∧ ∀ S2, RpL g S2 H2 ts xs [] → ∃ t, (itemsT w ks ts)[i]? = some t ∧ Rp g S2 H3 t x []) := by
  have hz : (ks.zip xs).length = xs.length := by simp [hl]
  have hn : (itemsT w ks ts).length = xs.length := by cases w <;> simp [itemsT, hl, ht]
  have part : ∀ {S2 : Addr → Prop} {H2 : Hp} {i : Nat} {k : Key} {v : V}, (ks.zip xs)[i]? = some (k, v) → RpL g S2 H2 ts xs [] → ks[i]? = some k ∧ ∃ t, ts[i]? = some t ∧ Rp g S2 H2 t v [] := fun {S2 H2 i k v} e r => by
    obtain ⟨h1, h2⟩ := List.getElem?_zip_eq_some.mp e
    refine ⟨h1, ?_⟩
    have hlt : i < ts.length := by rw [ht]; exact (List.getElem?_eq_some_iff.mp h2).1
    obtain ⟨x, B, h3, h4, h5⟩ := RpL.part _ _ _ r i ts[i] (by simp [hlt])
    rw [h2] at h3
    injection h3 with h3
    subst h3
    rw [List.sublist_nil.mp h5] at h4
    exact ⟨ts[i], by simp [hlt], h4⟩
  cases w with
  | keys =>
    refine ⟨fun i H2 hlt hG => ⟨hG, by rw [hz, ← hn]; exact hlt⟩, fun H2 hG => ⟨hG, by rw [hz, ← hn]; exact Nat.le_refl _⟩, fun i H2 x H3 hlt hG y => ?_⟩
    obtain ⟨e1, k, v, e2, e3⟩ := y
    subst e1
    refine ⟨fun _ _ e => e, fun S2 r => ?_⟩
    obtain ⟨h1, _⟩ := part e2 r
    exact ⟨kT' k, by simp [itemsT, h1], by rw [e3]; exact keyT_rep k⟩
  | vals =>
    refine ⟨fun i H2 hlt hG => ⟨hG, by rw [hz, ← hn]; exact hlt⟩, fun H2 hG => ⟨hG, by rw [hz, ← hn]; exact Nat.le_refl _⟩, fun i H2 x H3 hlt hG y => ?_⟩
    obtain ⟨e1, k, e2⟩ := y
    subst e1
    refine ⟨fun _ _ e => e, fun S2 r => ?_⟩
    obtain ⟨_, t, h1, h2⟩ := part e2 r
    exact ⟨t, h1, h2⟩
  | items =>
    refine ⟨fun i H2 hlt hG => ⟨hG, by rw [hz, ← hn]; exact hlt⟩, fun H2 hG => ⟨hG, by rw [hz, ← hn]; exact Nat.le_refl _⟩, fun i H2 x H3 hlt hG y => ?_⟩
    obtain ⟨Tn, k, v, e2, e3, e4, e5⟩ := y
    subst e5
    have ex := upd_ext (o := .tup [kV k, v]) e4
    refine ⟨ex, fun S2 r => ?_⟩
    obtain ⟨h0, t, h1, h2⟩ := part e2 r
    refine ⟨.nd .tup [kT' k, t], by simp [itemsT, List.getElem?_zip_eq_some, h0, h1], ?_⟩
    refine ⟨Tn, [kV k, v], [], e3, .inl upd_same, rfl, .inr (.inl rfl), ?_⟩
    exact ⟨kV k, [v], [], [], rfl, rfl, keyT_rep k, RpL.one (h2.ext ex)⟩
/-- the dict in a slot: it itself, or a field of the object there -/
def dAt (fld : Option (Str × Str)) (t : T) : Option (List Key × List T) := match fld with
  | none => (match t with
    | .nd (.dK true ks) ts => if immL ts then some (ks, ts) else none
    | _ => none)
  | some (c, f) => (match t with
    | .nd (.ins true c' fs) us => if c' = c then ((fs.findIdx? fun x => x = f).bind fun j => match us[j]? with
        | some (.nd (.dK true ks) ts) => if immL ts then some (ks, ts) else none
        | _ => none) else none
    | _ => none)
def Pth (g : Gc) (fld : Option (Str × Str)) (H : Hp) (x0 : V) (d : Addr) : Prop := match fld with
  | none => x0 = .ref d
  | some (c, f) => ∃ a dx fs, x0 = .ref a ∧ a ≠ d ∧ H a = some (.ins (g.cl c) dx fs) ∧ fs.lookup f = some (.ref d)
theorem dAt_rep {S : Addr → Prop} {H : Hp} {fld : Option (Str × Str)} {t : T} {x0 : V} {Ai : List Addr} {ks : List Key} {ts : List T} (r : Rp g S H t x0 Ai) (nd : Ai.Nodup) (h : dAt fld t = some (ks, ts)) :
    ∃ d xs, d ∈ Ai ∧ H d = some (.dK (ks.zip xs)) ∧ ks.length = xs.length ∧ RpL g S H ts xs [] ∧ Pth g fld H x0 d := by
  cases fld with
  | none =>
    unfold dAt at h
    simp only at h
    split at h
    · rename_i ks' ts'
      split at h
      · rename_i hi
        injection h with h
        injection h with h1 h2
        subst h1; subst h2
        obtain ⟨a, xs, B, e, at_, eA, c, rl⟩ := r
        have eB := RpL.imm_nil _ _ _ rl hi
        subst eB
        exact ⟨a, xs, by rw [eA]; exact List.mem_cons_self, at_.1, at_.2.1, rl, e⟩
      · cases h
    · cases h
  | some cf =>
    obtain ⟨c, f⟩ := cf
    unfold dAt at h
    simp only at h
    split at h
    · rename_i c' fs us
      split at h
      · rename_i hc
        subst hc
        obtain ⟨j, hj, h⟩ := Option.bind_eq_some_iff.mp h
        split at h
        · rename_i ks' ts' hu
          split at h
          · rename_i hi
            injection h with h
            injection h with h1 h2
            subst h1; subst h2
            obtain ⟨a, ys, B, e, at_, eA, cc, rl⟩ := r
            obtain ⟨⟨dx, hH⟩, hfl, _⟩ := at_
            have eA : Ai = a :: B := eA
            obtain ⟨z, C, z1, z2, z3⟩ := RpL.part _ _ _ rl j _ hu
            obtain ⟨d, xs, B2, e2, at2, eC, _, rl2⟩ := z2
            have eB := RpL.imm_nil _ _ _ rl2 hi
            subst eB
            have hdB : d ∈ B := z3.subset (by rw [eC]; exact List.mem_cons_self)
            have hne : a ≠ d := fun z => by
              rw [eA] at nd
              exact (List.nodup_cons.mp nd).1 (z ▸ hdB)
            refine ⟨d, xs, by rw [eA]; exact List.mem_cons_of_mem _ hdB, at2.1, at2.2.1, rl2, a, dx, _, e, hne, hH, ?_⟩
            rw [← e2]
            exact lookup_findIdx hj hfl z1
          · cases h
        · cases h
      · cases h
    · cases h
end
section
variable {g : Gc} {X : Cx} {tg iter : Expr} {m : T → M Unit} {tt : M Bool} {tk tv : M T} {a1 e2 e3 e4 : List Nat} {vs : List Nat} {pos : Pos} {i : Nat} {fld : Option (Str × Str)} {w : Wd}
def mLkDc (i : Nat) (fld : Option (Str × Str)) (w : Wd) (m : T → M Unit) (tt : M Bool) (tk tv : M T) (vs : List Nat) : M T := fun Ts => match dAt fld (slot Ts i) with
  | some (ks, ts) => if vs.all (fun i => hidOk (slot Ts i)) then (match dcM m tt tk tv vs (itemsT w ks ts) (.nd (.dK true []) []) (wipeT (Ts.set i .dead) vs) with
    | some (acc, Ts2) => some (acc, (rest (Ts.set i .dead) Ts2 vs).set i (slot Ts i))
    | none => none) else none
  | none => none
/-- the reading of what is walked, while it is locked -/
def WiOk (g : Gc) (i : Nat) (fld : Option (Str × Str)) (w : Wd) (wi : TI) : Prop := ∀ (σ : L2.St) (H : Hp) (R : It → Hp → Prop) (x0 : V) (d : Addr) (od : Obj) (kvs : List (Key × V)), σ[i]? = some (some x0) → Pth g fld H x0 d → H d = some (.frz od (.dK kvs)) → R (Jt w d od kvs) H → wi σ H R
theorem lkdc_r {wi : TI} (hwi : WiOk g i fld w wi) (dv : ∀ j ∈ a1, j ∈ vs) (dh : ∀ j ∈ vs, j ∉ e2 ++ (e3 ++ e4)) (di : i ∉ vs ++ (e2 ++ (e3 ++ e4))) (σ : L2.St) (H : Hp) (Q : VK) (h : TM g (mLkDc i fld w m tt tk tv vs) (e2 ++ (e3 ++ e4)) [] σ H Q) : tLockE (tDc wi (TGm g m a1) (TMt g tt e2) (TM g tk e3 []) (TM g tv e4 []) vs) σ H Q := by
  obtain ⟨S, Ts, A, t, Ts', R, q, k⟩ := h
  unfold mLkDc at q
  cases hda : dAt fld (slot Ts i) with
  | none => rw [hda] at q; cases q
  | some pr =>
    obtain ⟨ks, ts⟩ := pr
    rw [hda] at q
    simp only at q
    split at q
    · rename_i hh
      have hh : ∀ j ∈ vs, hidOk (slot Ts j) = true := fun j hj => List.all_eq_true.mp hh j hj
      cases q3 : dcM m tt tk tv vs (itemsT w ks ts) (.nd (.dK true []) []) (wipeT (Ts.set i .dead) vs) with
      | none => rw [q3] at q; cases q
      | some pr =>
        obtain ⟨accF, TsF⟩ := pr
        rw [q3] at q
        simp only at q
        injection q with q
        injection q with h1 h2
        subst h1; subst h2
        have hlive : slot Ts i ≠ .dead := fun z => by
          rw [z] at hda
          cases fld with
          | none => cases hda
          | some cf => cases hda
        obtain ⟨x0, hx, r0⟩ := R.at rfl hlive
        obtain ⟨d, xs, hd, hH, hkl, rl, pth⟩ := dAt_rep r0 (R.nd i) hda
        have htl := RpL.length _ _ _ rl
        refine ⟨d, _, hH, trivial, fun od => ?_⟩
        have RL := R.lock (od := od) hd hH trivial
        have hdA : ∀ j, d ∉ A0 A i j := fun j h => R.dj j i (A0_mem h).1 d (A0_mem h).2 hd
        have pth' : Pth g fld (upd H d (.frz od (.dK (ks.zip xs)))) x0 d := by
          cases fld with
          | none => exact pth
          | some cf =>
            obtain ⟨a, dx, fs, p1, p2, p3, p4⟩ := pth
            exact ⟨a, dx, fs, p1, p2, by rw [upd_ne p2]; exact p3, p4⟩
        have hiv : i ∉ vs := fun z => di (List.mem_append_left _ z)
        have hie : i ∉ e2 ++ (e3 ++ e4) := fun z => di (List.mem_append_right _ z)
        have rl' : RpL g S (upd H d (.frz od (.dK (ks.zip xs)))) ts xs [] := RpL.keep (M := fun a => a = d) (fun a o e n => by rw [upd_ne n]; exact e) (fun a e => by rw [e, hH]; trivial) (fun a hs e => R.ns i d hd (e ▸ hs)) (fun _ h => h) _ _ _ rl fun _ z => nomatch z
        refine hwi σ _ _ x0 d od (ks.zip xs) hx pth' upd_same fun Da hDa => ?_
        refine dc_core' (Q := fun v H' => H' d = some (.frz od (.dK (ks.zip xs))) ∧ Q v (upd H' d (.dK (ks.zip xs)))) (b1 := []) (e1 := []) (Ts := Ts.set i .dead) (A := A0 A i) (S := S) (cs := ts) (cx := xs) (Ax := []) (fun _ z => nomatch z) dv dh RL (fun j hj => by have hji : j ≠ i := (fun z => hiv (by rw [← z]; exact hj)); rw [slot_set_ne hji]; exact hh j hj) q3 RL Po.refl Stb.refl hDa rl' Ow.nil (walkW hkl htl) (fun S' H' A' p _ => p.keep d _ upd_same hdA) fun x H2 S2 A2 Ax R2 rx ox p s => ?_
        have si := s i (by rw [List.nil_append]; exact hie)
        have hA2 : A2 i = [] := si.2.1.trans A0_eq
        obtain ⟨R3, e3', kp⟩ := R.unlock hx r0 hd hH trivial R2 p hA2 (fun _ z => nomatch z)
        refine ⟨e3', ?_⟩
        have hfz : ∀ zs, ¬ Rd H2 d (.tup zs) := fun zs h => by
          rcases h with h | ⟨o, h⟩
          · rw [e3'] at h; cases h
          · rw [e3'] at h; injection h with h; injection h with _ h; cases h
        have ndA : d ∉ Ax := fun z => by
          rcases ox.new d z with ⟨j, hj⟩ | hn
          · exact hdA j hj
          · rw [upd_same] at hn; cases hn
        have live : ∀ a, a ∈ A i → ∃ o, upd H d (.frz od (.dK (ks.zip xs))) a = some o := fun a ha => by
          by_cases ea : a = d
          · subst ea; exact ⟨_, upd_same⟩
          · rw [upd_ne ea]
            have := R.cells i a ha
            cases q : H a with
            | none => rw [q] at this; exact this.elim
            | some o => exact ⟨o, rfl⟩
        have back : ∀ a, upd H d (.frz od (.dK (ks.zip xs))) a = none → H a = none := fun a hn => by
          by_cases ea : a = d
          · subst ea; rw [upd_same] at hn; cases hn
          · rw [upd_ne ea] at hn; exact hn
        have hdS2 : ¬ S2 d := fun h => R3.ns i d (by rw [if_pos rfl]; exact hd) h
        refine k x _ S2 _ Ax R3 (Rp.keep2 (M := fun a => a = d) (fun a o e n => by rw [upd_ne n]; exact e) (fun a e zs => by rw [e]; exact hfz zs) (fun a hs e => hdS2 (e ▸ hs)) (fun _ h => h) _ _ _ rx fun a ha e => ndA (e ▸ ha)) ⟨ox.ns, fun j _ a ha => ?_, ox.nd, fun a ha => ?_⟩ ⟨fun a o e n => kp a o e fun j _ => n j, p.sub, fun a h => ?_, fun j a ha => ?_⟩ fun j hj => ?_
        · by_cases hj : j = i
          · subst hj
            rw [if_pos rfl]
            intro hai
            rcases ox.new a ha with ⟨j', hj'⟩ | hn
            · exact R.dj j' j (A0_mem hj').1 a (A0_mem hj').2 hai
            · obtain ⟨o, ho⟩ := live a hai; rw [hn] at ho; cases ho
          · rw [if_neg hj]; exact ox.dj j (fun z => nomatch z) a ha
        · rcases ox.new a ha with ⟨j, hj⟩ | hn
          · exact .inl ⟨j, (A0_mem hj).2⟩
          · exact .inr (back a hn)
        · rcases p.snew a h with h | ⟨j, hj⟩ | hn
          · exact .inl h
          · exact .inr (.inl ⟨j, (A0_mem hj).2⟩)
          · exact .inr (.inr (back a hn))
        · by_cases hj : j = i
          · subst hj; rw [if_pos rfl] at ha; exact .inl ⟨j, ha⟩
          · rw [if_neg hj] at ha
            rcases p.anew j a ha with ⟨j', hj'⟩ | hn
            · exact .inl ⟨j', (A0_mem hj').2⟩
            · exact .inr (back a hn)
        · by_cases hji : j = i
          · subst hji
            have il : j < (rest (Ts.set j .dead) TsF vs).length := by rw [R2.len]; exact (List.getElem?_eq_some_iff.mp hx).1
            refine ⟨slot_set_eq il, by rw [if_pos rfl], fun a ha o e => kp a o e fun j' hj' hm => R.dj j' j hj' a hm ha⟩
          · obtain ⟨y1, y2, y3⟩ := s j (by rw [List.nil_append]; exact hj)
            refine ⟨by rw [slot_set_ne hji, y1, slot_set_ne hji], by rw [if_neg hji, y2, A0_ne hji], fun a ha o e => ?_⟩
            have ne : a ≠ d := fun z => R.dj j i hji a ha (z ▸ hd)
            rw [upd_ne ne]
            exact y3 a (by rw [A0_ne hji]; exact ha) o (by rw [upd_ne ne]; exact e)
    · cases q
end
end MI
/-! Mt: dicts made; list methods; the rules in short. -/
namespace MI
open PySem PySem.Spec PyProof.Rows L2
section
variable {g : Gc} {X : Cx} {tg iter e o a : Expr} {m : T → M Unit} {tt : M Bool} {tk tv fa fb : M T} {a1 e1 e2 e3 e4 b1 b2 : List Nat} {vs : List Nat} {pos p2 p3 apos cpos : Pos} {i k : Nat} {fld : Option (Str × Str)} {w : Wd} {x : Str}
/-! ### a dict's place -/
def DPl (g : Gc) (X : Cx) (e : Expr) (i : Nat) (fld : Option (Str × Str)) : Prop := ∃ td, PE X e td ∧ ∀ (σ : L2.St) (H : Hp) (Q : VK) (x0 : V) (d : Addr), σ[i]? = some (some x0) → Pth g fld H x0 d → Q (.ref d) H → td σ H Q
theorem dpl_name (i : Nat) (hN : X.N[i]? = some x := by rfl) (hv : Vis X.env.scope x := by first | exact .inl rfl | exact .inr (.inl rfl) | exact .inr (.inr rfl)) (hd : (x == ("__debug__" : Str)) = false := by decide) (hcd : (x == ("__classdict__" : Str)) = false := by decide) : DPl g X (.Name x pos) i none :=
  ⟨_, pe_var hN hv hd hcd, fun σ H Q x0 d hx hp q => ⟨x0, hx, by rw [show x0 = V.ref d from hp]; exact q⟩⟩
theorem dpl_fld (i : Nat) {c f : Str} (hc : Cls X.K (g.cl c)) (hn : NoAttr X.K (g.cl c) f) (hN : X.N[i]? = some x := by rfl) (hv : Vis X.env.scope x := by first | exact .inl rfl | exact .inr (.inl rfl) | exact .inr (.inr rfl)) (hd : (x == ("__debug__" : Str)) = false := by decide) (hcd : (x == ("__classdict__" : Str)) = false := by decide)
    (hbase : attributeBase (.Name x p2) f X.env (eval (.Name x p2) X.env) = eval (.Name x p2) X.env := by rfl) : DPl g X (.Attribute (.Name x p2) f pos) i (some (c, f)) :=
  ⟨_, pe_fld (pe_var hN hv hd hcd) hbase, fun σ H Q x0 d hx ⟨a, dx, fs, e1, _, e3, e4⟩ q => ⟨x0, hx, a, _, dx, fs, _, e1, e3, hc, hn, e4, q⟩⟩
def PIk (g : Gc) (X : Cx) (tg iter : Expr) (i : Nat) (fld : Option (Str × Str)) (w : Wd) : Prop := ∃ wi, PI X tg iter wi ∧ WiOk g i fld w wi
theorem pik_items {elts : List Expr} {kk : Nat} {tpos : Pos} (h : DPl g X e i fld) (hbase : attributeBase e "items" X.env (eval e X.env) = eval e X.env := by rfl) (hline : (apos.endLine == cpos.line) = true := by rfl) : PIk g X (.Tuple elts kk tpos) (.Call (.Attribute e "items" apos) [] [] cpos) i fld .items := by
  obtain ⟨td, h1, h2⟩ := h
  exact ⟨_, pi_items h1 hbase hline, fun σ H R x0 d od kvs hx hp hH hR => h2 σ H _ x0 d hx hp ⟨d, od, kvs, rfl, hH, hR⟩⟩
theorem pik_vals (h : DPl g X e i fld) (hbase : attributeBase e "values" X.env (eval e X.env) = eval e X.env := by rfl) (hline : (apos.endLine == cpos.line) = true := by rfl) : PIk g X tg (.Call (.Attribute e "values" apos) [] [] cpos) i fld .vals := by
  obtain ⟨td, h1, h2⟩ := h
  exact ⟨_, pi_values h1 hbase hline, fun σ H R x0 d od kvs hx hp hH hR => h2 σ H _ x0 d hx hp ⟨d, od, kvs, rfl, hH, hR⟩⟩
theorem pik_keys (h : DPl g X e i fld) : PIk g X tg e i fld .keys := by
  obtain ⟨td, h1, h2⟩ := h
  exact ⟨_, pi_keys h1, fun σ H R x0 d od kvs hx hp hH hR => h2 σ H _ x0 d hx hp ⟨d, od, rfl, .inl ⟨kvs, hH, hR⟩⟩⟩
theorem x_lkdc {kx vx : Expr} {ifs : List Expr} {scope : Scope} (own : List (Str × Nat)) (hc : X.calm = true) (hN : X.N.Nodup) (ok : BlkOk X.N X.env.scope scope own) (hi : PIk g X tg iter i fld w)
    (hg : ∀ (s : Shared) (H : Hp) (C : Addr) (cl : List (Str × Addr)) (fp : List Addr), PGm g (X.blk s H scope (compEnvC scope cl C X.env) fp) tg m a1) (ht : ∀ (s : Shared) (H : Hp) (C : Addr) (cl : List (Str × Addr)) (fp : List Addr), PTsm g (X.blk s H scope (compEnvC scope cl C X.env) fp) ifs tt e2)
    (hk : ∀ (s : Shared) (H : Hp) (C : Addr) (cl : List (Str × Addr)) (fp : List Addr), PEm g (X.blk s H scope (compEnvC scope cl C X.env) fp) kx tk e3 []) (he : ∀ (s : Shared) (H : Hp) (C : Addr) (cl : List (Str × Addr)) (fp : List Addr), PEm g (X.blk s H scope (compEnvC scope cl C X.env) fp) vx tv e4 [])
    (dv : ∀ j ∈ a1, j ∈ own.map (·.2) := by decide) (dh : ∀ j ∈ own.map (·.2), j ∉ e2 ++ (e3 ++ e4) := by decide) (di : i ∉ own.map (·.2) ++ (e2 ++ (e3 ++ e4)) := by decide) (hs : ∀ x, foldedSetIterable iter X.env x = pure x := by intro _; rfl) :
    PEm g X (.DictComp kx vx [⟨tg, iter, ifs, 0⟩] scope pos) (mLkDc i fld w m tt tk tv (own.map (·.2))) (e2 ++ (e3 ++ e4)) [] := by
  obtain ⟨wi, h1, h2⟩ := hi
  exact PE.imp (pe_lock (pe_dc hc hN h1 ok hg ht hk he hs)) (lkdc_r h2 dv dh di)
/-! ### {} and {k: v} -/
theorem tm_dct0 : PEm g X (.Dict [] [] pos) (mC (.nd (.dK true []) [])) [] [] := PE.imp pe_dnewK fun σ H Q ⟨S, Ts, A, t, Ts', R, q, k⟩ => by
  obtain ⟨rfl, rfl⟩ := ret_some q
  intro p hp
  have ex := upd_ext (o := .dK []) hp
  have fr := R.fresh hp
  exact k (.ref p) _ S A [p] (R.ext ex) ⟨p, [], [], rfl, ⟨upd_same, rfl, fun z => nomatch z⟩, rfl, .inl rfl, rfl, rfl⟩ ⟨fun a ha => by rw [List.mem_singleton.mp ha]; exact fr.1, fun j _ a ha => by rw [List.mem_singleton.mp ha]; exact fr.2 j, fun _ => List.nodup_cons.mpr ⟨(fun z => nomatch z), List.nodup_nil⟩, fun a ha => by rw [List.mem_singleton.mp ha]; exact .inr hp⟩ (Po.ext ex) (Stb.ext ex)
def mDisp1 (fk fv : M T) : M T := bnd fk fun k => bnd fv fun v => lft ((keyOf k).bind fun q => if v.imm then some (.nd (.dK true [q]) [v]) else none)
theorem x_disp1 {kx vx : Expr} (hk : PEm g X kx fa e1 b1) (hv : PEm g X vx fb e2 b2) (d : ∀ j ∈ b1, j ∉ e2 := by decide) : PEm g X (.Dict [some kx] [vx] pos) (mDisp1 fa fb) (e1 ++ e2) [] := PE.imp (pe_disp (pps_cons hk hv pps_nil) rfl rfl (by simp) (by simp)) fun σ H Q ⟨S, Ts, A, t, Ts', R, q, k⟩ => by
  obtain ⟨kt, Ts1, q1, q2⟩ := bnd_some q
  obtain ⟨vt, Ts2, q3, q4⟩ := bnd_some q2
  obtain ⟨q5, eT⟩ := lft_some q4
  subst eT
  obtain ⟨qk, e3, e4⟩ := Option.bind_eq_some_iff.mp q5
  split at e4
  · rename_i hi
    injection e4 with e4
    subst e4
    intro p hp
    have ex := upd_ext (o := .dK []) hp
    have fr := R.fresh hp
    refine ⟨S, Ts, A, kt, Ts1, R.ext ex, q1, fun x H1 S1 A1 Ax R1 rx ox p1 s1 => ⟨S1, Ts1, A1, vt, Ts', R1, q3, fun y H2 S2 A2 Ay R2 ry oy p2 s2 => ?_⟩⟩
    have p12 := p1.trans (R.ext ex) p2
    have eH2 : H2 p = some (.dK []) := p12.keep p _ upd_same fr.2
    obtain ⟨ek, _⟩ := keyOf_rep e3 rx
    have eA := Rp.imm_nil _ _ _ ry hi
    subst eA
    have nS : ¬ S2 p := fun h => by
      rcases p12.snew p h with h | ⟨j, hj⟩ | hn
      · exact fr.1 h
      · exact fr.2 j hj
      · rw [upd_same] at hn; cases hn
    have nA : ∀ j, p ∉ A2 j := fun j h => by
      rcases p12.anew j p h with ⟨j', hj'⟩ | hn
      · exact fr.2 j' hj'
      · rw [upd_same] at hn; cases hn
    refine ⟨eH2, [(qk, y)], by rw [ek]; rfl, by simp, ?_⟩
    have em : mergeK [] [(qk, y)] = ([qk].zip [y]) := rfl
    rw [em]
    have Rg := R2.grow (o' := .dK ([qk].zip [y])) eH2 trivial nA nS
    have ry2 : RpL g S2 (upd H2 p (.dK ([qk].zip [y]))) [vt] [y] [] := RpL.grown (RpL.one ry) eH2 trivial nS (fun z => nomatch z)
    have back : ∀ a, upd H p (.dK []) a = none → H a = none := fun a hn => by
      by_cases ea : a = p
      · subst ea; rw [upd_same] at hn; cases hn
      · rw [upd_ne ea] at hn; exact hn
    refine k (.ref p) _ S2 A2 [p] Rg ⟨p, [y], [], rfl, ⟨upd_same, rfl, fun z => nomatch z⟩, rfl, .inl rfl, ry2⟩ ⟨fun a ha => by rw [List.mem_singleton.mp ha]; exact nS, fun j _ a ha => by rw [List.mem_singleton.mp ha]; exact nA j, fun _ => List.nodup_cons.mpr ⟨(fun z => nomatch z), List.nodup_nil⟩, fun a ha => by rw [List.mem_singleton.mp ha]; exact .inr hp⟩ ⟨fun a ob e n => ?_, p12.sub, fun a h => ?_, fun j a h => ?_⟩ fun j hj => ?_
    · rw [upd_ne (ne_of_none e hp)]; exact p12.keep a ob (ex a ob e) n
    · rcases p12.snew a h with h | h | hn
      · exact .inl h
      · exact .inr (.inl h)
      · exact .inr (.inr (back a hn))
    · rcases p12.anew j a h with h | hn
      · exact .inl h
      · exact .inr (back a hn)
    · obtain ⟨y1, y2, y3⟩ := (s1.trans s2) j hj
      exact ⟨y1, y2, fun a ha ob e => by rw [upd_ne (ne_of_none e hp)]; exact y3 a ha ob (ex a ob e)⟩
  · cases e4
/-! ### list(d), dict(d), len(d) -/
def fListK (t : T) : Option T := match t with
  | .nd (.dK _ ks) _ => some (.nd (.lst true) (ks.map kT'))
  | _ => none
theorem reps_key {S : Addr → Prop} {H : Hp} : ∀ ks : List Key, RpL g S H (ks.map kT') (ks.map kV) []
  | [] => ⟨rfl, rfl⟩
  | q :: ks => ⟨_, _, [], [], rfl, rfl, keyT_rep q, reps_key ks⟩
theorem zip_keys : ∀ {ks : List Key} {xs : List V}, ks.length = xs.length → (ks.zip xs).map (fun kv => kV kv.1) = ks.map kV
  | [], [], _ => rfl
  | [], _ :: _, h => by simp at h
  | _ :: _, [], h => by simp at h
  | q :: ks, x :: xs, h => by simp [zip_keys (ks := ks) (xs := xs) (by simpa using h)]
theorem ct_listK : CallT g (fun xs H Q => ∃ (a : Addr) (kvs : List (Key × V)), xs = [.ref a] ∧ Rd H a (.dK kvs) ∧ ∀ p, H p = none → Q (.ref p) (upd H p (.lst (kvs.map fun kv => kV kv.1)))) (c1 fListK) := callT1 fun S H t x A u Q r e k => by
  unfold fListK at e
  split at e
  · rename_i o ks ts
    injection e with e; subst e
    obtain ⟨p, xs, B, ex, at_, eA, c, rl⟩ := r
    refine ⟨p, _, by rw [ex], .inl at_.1, fun q hq => ?_⟩
    rw [zip_keys at_.2.1]
    exact k _ _ [q] (New.node hq (reps_key ks))
  · cases e
def fDictK (t : T) : Option T := match t with
  | .nd (.dK _ ks) ts => if immL ts then some (.nd (.dK true ks) ts) else none
  | _ => none
theorem ct_dictK : CallT g (fun xs H Q => ∃ (a : Addr) (kvs : List (Key × V)), xs = [.ref a] ∧ Rd H a (.dK kvs) ∧ ∀ p, H p = none → Q (.ref p) (upd H p (.dK kvs))) (c1 fDictK) := callT1 fun S H t x A u Q r e k => by
  unfold fDictK at e
  split at e
  · rename_i o ks ts
    split at e
    · rename_i hi
      injection e with e; subst e
      obtain ⟨p, xs, B, ex, at_, eA, c, rl⟩ := r
      have eB := RpL.imm_nil _ _ _ rl hi
      subst eB
      refine ⟨p, _, by rw [ex], .inl at_.1, fun q hq => ?_⟩
      have ext := upd_ext (o := .dK (ks.zip xs)) hq
      exact k _ _ [q] ⟨ext, ⟨q, xs, [], rfl, ⟨upd_same, at_.2.1, fun z => nomatch z⟩, rfl, .inl rfl, rl.ext ext⟩, List.nodup_cons.mpr ⟨(fun z => nomatch z), List.nodup_nil⟩, fun a ha => by rw [List.mem_singleton.mp ha]; exact hq⟩
    · cases e
  · cases e
/-! ### the slot is frozen first: nothing is done -/
def mFzS {α : Type} (i : Nat) (f : M α) : M α := fun Ts => match slot Ts i with
  | .dead => none
  | t => f (Ts.set i t.fz)
theorem tm_fzs (i : Nat) (h : PEm g X e fa e1 b1) : PEm g X e (mFzS i fa) (e1 ++ [i]) b1 := PE.imp h fun σ H Q ⟨S, Ts, A, t, Ts', R, q, k⟩ => by
  have key : slot Ts i ≠ .dead ∧ fa (Ts.set i (slot Ts i).fz) = some (t, Ts') := by
    unfold mFzS at q
    cases e : slot Ts i <;> rw [e] at q <;> first | (cases q; done) | exact ⟨(fun z => nomatch z), q⟩
  obtain ⟨hl, q⟩ := key
  obtain ⟨R', p, s⟩ := R.frz rfl hl
  refine ⟨_, _, _, t, Ts', R', q, fun x H' S' A' Ax R2 rx ox p2 s2 => k x H' S' A' Ax R2 rx ⟨ox.ns, ox.dj, ox.nd, ox.back p⟩ (p.trans R p2) ?_⟩
  intro j hj
  obtain ⟨x1, x2, x3⟩ := s j fun z => hj (List.mem_append_right _ z)
  obtain ⟨y1, y2, y3⟩ := s2 j fun z => hj (List.mem_append_left _ z)
  exact ⟨y1.trans x1, y2.trans x2, fun a ha o eo => y3 a (by rw [x2]; exact ha) o (x3 a ha o eo)⟩
end
end MI
/-! Mu: x in a tuple of any depth; list.remove, list.index. -/
namespace MI
open PySem PySem.Spec PyProof.Rows L2
section
variable {g : Gc} {X : Cx}
def fInE (neg : Bool) (a b : T) : Option T := match b with
  | .nd .tup ts => if okD 50 a && okDL 50 ts then some (.bl (if neg then !(ts.any fun t => eqT t a) else ts.any fun t => eqT t a)) else none
  | _ => none
def rInE (K : PySem.W.Frag) (neg : Bool) : R2 := fun x y H Q => ∃ d ds, Dp K H x d ∧ Dp K H y (.tuple ds) ∧ SeqAt.shaped d = true ∧ SeqAt.shaped (.tuple ds) = true ∧ Q (.bl (if neg then !(ds.any fun z => PyData.eqv z d) else ds.any fun z => PyData.eqv z d)) H
theorem op_inE (hu : X.A.units + 65 < cLine) : OpR X (compareOp .In) (rInE X.K false) := by
  intro pins s σ H x y v u Q I rx ry h
  obtain ⟨d, ds, hd, he, sd, se, q⟩ := h
  obtain ⟨as, r1⟩ := Dp.reads I d x v hd rx
  obtain ⟨bs, r2⟩ := Dp.reads I (.tuple ds) y u he ry
  exact SeqAt.in_tuple_reads r2 r1 (SeqAt.canLay_of_shaped se) (SeqAt.canLay_of_shaped sd) (room_in_shaped sd hu) ⟨.bl _, H, I, rfl, q⟩
theorem op_notInE (hu : X.A.units + 65 < cLine) : OpR X (compareOp .NotIn) (rInE X.K true) := by
  intro pins s σ H x y v u Q I rx ry h
  obtain ⟨d, ds, hd, he, sd, se, q⟩ := h
  obtain ⟨as, r1⟩ := Dp.reads I d x v hd rx
  obtain ⟨bs, r2⟩ := Dp.reads I (.tuple ds) y u he ry
  exact SeqAt.notIn_tuple_reads r2 r1 (SeqAt.canLay_of_shaped se) (SeqAt.canLay_of_shaped sd) (room_in_shaped sd hu) ⟨.bl _, H, I, rfl, q⟩
theorem opt_inE {neg : Bool} : OpT g (rInE g.K neg) (fInE neg) := fun S H a b x y Ax Ay t Q ra rb e q => by
  unfold fInE at e
  split at e
  · rename_i ts
    split at e
    · rename_i h
      obtain ⟨h1, h2⟩ := Bool.and_eq_true_iff.mp h
      injection e with e; subst e
      obtain ⟨p, xs, B, e1, at_, eA, c, r⟩ := rb
      obtain ⟨a1, a2, a3⟩ := okD_ok a 50 x Ax h1 ra
      obtain ⟨b1, b2, b3⟩ := okDL_ok ts 50 xs B h2 r
      refine ⟨toD a, toDL ts, a1, e1 ▸ Dp.tup (At.sqT at_) b1, by unfold SeqAt.shaped; rw [a2, decide_eq_true (by omega)]; rfl, by unfold SeqAt.shaped PyData.canLay0 PyData.depth; rw [b2, decide_eq_true (by omega)]; rfl, ?_⟩
      rw [toDL_eq, List.any_map]
      exact q _ H [] (New.atom ⟨rfl, rfl⟩)
    · cases e
  · cases e
/-! ### list.remove of an int -/
def fRemI : T → List T → Option (T × T)
  | .nd (.lst true) ts, [.int k] => (intsOf ts).bind fun ns => match ns.findIdx? (fun z => decide (z = k)) with
    | some j => some (.non, .nd (.lst true) (ts.eraseIdx j))
    | none => none
  | _, _ => none
theorem intsOf_len : ∀ {ts : List T} {ns : List Int}, intsOf ts = some ns → ts.length = ns.length
  | [], ns, h => by injection h with h; subst h; rfl
  | t :: ts, ns, h => by
    cases t with
    | int b =>
      have h : (intsOf ts).map (b :: ·) = some ns := h
      obtain ⟨cs, h1, h2⟩ := Option.map_eq_some_iff.mp h
      rw [← h2, List.length_cons, List.length_cons, intsOf_len h1]
    | _ => cases h
theorem erase_map {α β : Type} (f : α → β) : ∀ (l : List α) (j : Nat), (l.eraseIdx j).map f = (l.map f).eraseIdx j
  | [], j => by simp
  | x :: l, 0 => by simp
  | x :: l, j + 1 => by simp [erase_map f l j]
theorem mut_remI : MutT g rRemI fRemI := by
  intro S H a n B0 args xs Ag res n' Q rn ho ra nd ns ef k
  unfold fRemI at ef
  split at ef
  · rename_i ts kk
    obtain ⟨is, e1, e2⟩ := Option.bind_eq_some_iff.mp ef
    split at e2
    · rename_i j hj
      injection e2 with e2
      injection e2 with h1 h2
      subst h1; subst h2
      obtain ⟨ys, hH, rl⟩ := own_lst rn
      obtain ⟨y, zs, A1, A2, f1, f2, r1, r2⟩ := ra
      obtain ⟨rfl, rfl⟩ := r2
      subst f1
      obtain ⟨e3, e4⟩ := r1
      subst e3
      obtain ⟨n1, n2⟩ := List.nodup_cons.mp nd
      have nB : a ∉ B0 := fun z => n1 (List.mem_append_left _ z)
      have eys := intsOf_ok _ _ _ _ e1 rl
      obtain ⟨hjl, hq, hb⟩ := List.findIdx?_eq_some_iff_getElem.mp hj
      have hq : is[j] = kk := of_decide_eq_true hq
      obtain ⟨Be, re1, re2⟩ := RpL.erase j _ _ _ (rl.off (o' := .lst (ys.eraseIdx j)) hH ns nB)
      have eer : (is.eraseIdx j).map V.int = ys.eraseIdx j := by rw [eys, erase_map]
      refine ⟨a, is, kk, j, rfl, rfl, eys ▸ hH, by rw [List.getElem?_eq_getElem hjl, hq], fun m hm z => ?_, ?_⟩
      · have hml : m < is.length := by omega
        rw [List.getElem?_eq_getElem hml] at z
        injection z with z
        have := hb m hm
        simp [z] at this
      · rw [eer]
        exact k .non _ Be (new_lst re1) rfl ⟨rfl, rfl⟩ (nd.sublist (List.Sublist.cons_cons _ (re2.trans (List.sublist_append_left _ _)))) fun b hb => .inl (re2.subset hb)
    · cases e2
  · cases ef
end
end MI
/-! Mv: a tuple taken so many times, once or never. -/
namespace MI
open PySem PySem.Spec PyProof.Rows L2
/-- t * k where nothing is put together: once it is the tuple itself, never the empty one -/
def fewTimes (l : Addr) (k : Int) (s : Shared) (R : Value → Shared → Prop) : Prop := if k = 1 then R (.ref l) s else R (.ref s.heap.objs.size) { s with heap := s.heap.push { cls := .type "tuple", data := .seq #[] } }
theorem few_times {l : Addr} {its : Array Value} {n : Nat} {dd : Option Addr} {sl : Array (Option Value)} {k : Int} {u : Tok} (some_ : its.isEmpty = false) (low : -1000 ≤ k) (high : k ≤ 1) :
    Meets (Builtin.«tuple.__mul__» ⟨[.ref l, .int k u], []⟩) (fun _ R s => s.heap.get? l = some { cls := .type "tuple", dict := dd, data := .seq its n, slots := sl } ∧ fewTimes l k s fun v z => R (.ok (.ret v)) z) :=
  .of_wp fun prog w A R s ⟨at_, r⟩ => by
    obtain ⟨hp, gs, dr, tk, os⟩ := s
    have index := AutoSeq1.idx_int
    have fits : (decide (k < -(2 ^ 63)) || decide (k ≥ 2 ^ 63)) = false := by simp; omega
    by_cases one : k = 1
    · subst one
      have same : (its.isEmpty || (1 : Int) == 1) = true := by simp
      rw [fewTimes, if_pos rfl] at r
      wp_walk using wpAny_loadPart' at_
      exact ⟨_, rfl, r⟩
    · have other : (its.isEmpty || k == 1) = false := by simp [some_, one]
      have never : (decide (k ≤ 0) || its.isEmpty) = true := by simp; omega
      rw [fewTimes, if_neg one] at r
      wp_walk using wpAny_loadPart' at_
      simp only [fits, other, never, Bool.false_eq_true, if_false, if_true]
      wp_walk using wpAny_loadPart' at_
      simp only [fits, other, never, Bool.false_eq_true, if_false, if_true]
      wp_walk using wpAny_loadPart' at_
      exact ⟨_, rfl, r⟩
section
variable {g : Gc} {X : Cx}
def rRepU (K : PySem.W.Frag) : R2 := fun x y H Q => ∃ l k xs, x = .ref l ∧ y = .int k ∧ SqT K H l xs ∧ xs ≠ [] ∧ xs.length ≤ 1000 ∧ ((k = 1 ∧ Q (.ref l) H) ∨ (k ≤ 0 ∧ -1000 ≤ k ∧ ∀ p, H p = none → Q (.ref p) (upd H p (.tup []))))
theorem op_repU : OpR X (binaryOp .Mult) (rRepU X.K) := fun pins s σ H x y v u Q I rx ry h => by
  obtain ⟨l, k, xs, rfl, rfl, sq, some_, _, q⟩ := h
  have ev : v = Value.ref l := rx
  subst ev
  obtain ⟨t, rfl⟩ := ry
  obtain ⟨its, rel, tup, _⟩ := I.tuple sq
  obtain ⟨o, at_, cls, n, data⟩ := tup
  obtain ⟨c, dd, dt, sl⟩ := o
  have cls : c = .type "tuple" := cls
  have data : dt = .seq its.toArray n := data
  subst cls; subst data
  have isT : s.TypeIs (.ref l) "tuple" := ⟨_, at_, rfl⟩
  have isI : ∀ z : Shared, z.TypeIs (.int k t) "int" := fun z => typeIs_int z k t
  have full : its.toArray.isEmpty = false := by
    cases its with
    | nil => exact absurd (List.eq_nil_of_length_eq_zero rel.length) some_
    | cons _ _ => rfl
  have bounds : -1000 ≤ k ∧ k ≤ 1 := by rcases q with ⟨e, _⟩ | ⟨a, b, _⟩ <;> omega
  have done : fewTimes l k s (EP X pins σ Q) := by
    unfold fewTimes
    rcases q with ⟨e, q⟩ | ⟨a, _, q⟩
    · rw [if_pos e]; exact ⟨.ref l, H, I, rfl, q⟩
    · rw [if_neg (by omega)]
      exact ⟨.ref _, _, I.laid (t' := s.toks) (o := .tup []) (fun _ _ g => Heap.get?_push_of_some _ g) Nat.le.refl ⟨by simp, [], .nil, IsTup.new _ _⟩, rfl, q _ (I.hok.fresh Nat.le.refl)⟩
  exact wpAny_binaryOp_repeat_ref (by decide) isT isI noFill_tuple_mul F.fills_int_mul F.slot_int_rmul repeat_tuple F.slot_int_index.lookup (call_meets F.slot_int_rmul (isI s) F.entry_int_rmul (F.args_int_rmul_2 _ _) (int_rmul_tuple k t l its.toArray n dd sl)
    ⟨at_, rfl, isT, call_meets F.slot_tuple_mul isT F.entry_tuple_mul (F.args_tuple_mul_2 _ _) (few_times full bounds.1 bounds.2) ⟨at_, done⟩⟩)
def fMulT (a b : T) : Option T := match a, b with
  | .nd .tup ts, .int k => if immL ts && (decide (-1000 ≤ k) && (decide (k ≤ 1000) && (decide (ts.length ≤ 1000) && !ts.isEmpty))) then some (.nd .tup (List.replicate k.toNat ts).flatten) else none
  | _, _ => none
theorem opt_mulT : OpT g (fun x y H Q => rRepT g.K x y H Q ∨ rRepU g.K x y H Q) fMulT := fun S H a b x y Ax Ay t Q ra rb e q => by
  unfold fMulT at e
  split at e
  · rename_i ts k
    split at e
    · rename_i h
      injection e with e; subst e
      simp only [Bool.and_eq_true, decide_eq_true_eq, Bool.not_eq_true', List.isEmpty_eq_false_iff] at h
      obtain ⟨hi, h1, h2, h3, h4⟩ := h
      obtain ⟨p, xs, B, e1, at_, eA, c, r⟩ := ra
      have eB := RpL.imm_nil _ _ _ r hi
      subst eB
      have hl := RpL.length _ _ _ r
      have hne : xs ≠ [] := fun z => h4 (by
        rw [z] at hl
        exact List.eq_nil_of_length_eq_zero hl)
      by_cases hk : 2 ≤ k
      · exact .inl ⟨p, k, xs, e1, rb.1, At.sqT at_, hne, hk, h2, by omega, fun l hl => q _ _ [] (New.tupl hl (r.rep _))⟩
      · refine .inr ⟨p, k, xs, e1, rb.1, At.sqT at_, hne, by omega, ?_⟩
        by_cases hk1 : k = 1
        · subst hk1
          refine .inl ⟨rfl, q _ H [] (New.atom ?_)⟩
          have ef : (List.replicate (1 : Int).toNat ts).flatten = ts := by simp
          rw [ef]
          exact ⟨p, xs, [], rfl, at_, rfl, .inr (.inl rfl), r⟩
        · have ek : k.toNat = 0 := by omega
          refine .inr ⟨by omega, h1, fun l hl => ?_⟩
          have ef : (List.replicate k.toNat ts).flatten = [] := by rw [ek]; rfl
          rw [ef] at q
          exact q _ _ [] (New.tupl hl ⟨rfl, rfl⟩)
    · cases e
  · cases e
end
end MI
/-! M3: zip of three tuples. -/
namespace MI
open PySem PySem.Spec PyProof.Rows L2
/-- the tuples at a, b, c as they stand at each turn, the items in new triples -/
def It3 (K : PySem.W.Frag) (a b c : Addr) : It :=
  ⟨fun i H => ∃ (xs ys zs : List V), SqT K H a xs ∧ SqT K H b ys ∧ SqT K H c zs ∧ i < min (min xs.length ys.length) zs.length,
    fun i H v H' => ∃ T x y z, v = .ref T ∧ H T = none ∧ H' = upd H T (.tup [x, y, z]) ∧ (∀ xs, SqT K H a xs → xs[i]? = some x) ∧ (∀ ys, SqT K H b ys → ys[i]? = some y) ∧ ∀ zs, SqT K H c zs → zs[i]? = some z,
    fun i H => ∃ xs ys zs : List V, SqT K H a xs ∧ SqT K H b ys ∧ SqT K H c zs ∧ i = min (min xs.length ys.length) zs.length⟩
theorem turn_zip3 {P : Program} {w : World} {K : PySem.W.Frag} {elts : List Expr} {kk : Nat} {tpos : Pos} {a b c z TI TO i1 i2 i3 : Addr} (D : ZipSep3 z TI TO i1 i2 i3 [i1, a] [i2, b] [i3, c]) (na : a ≠ i1) (nb : b ≠ i2) (nc : c ≠ i3) :
    Turn P w K (.Tuple elts kk tpos) (It3 K a b c) [z, TI, TO, i1, i2, i3] z (fun i h => IsZip h z TI TO .none ∧ IsTupOf3 h TI (.ref i1) (.ref i2) (.ref i3) ∧ (∃ x y u, IsTupOf3 h TO x y u) ∧ h.IsTupleIter i1 a i ∧ h.IsTupleIter i2 b i ∧ h.IsTupleIter i3 c i) where
  mem := by simp
  obj := fun i h st d hd => by
    obtain ⟨hz, hTI, ⟨x, y, u, hTO⟩, ⟨o1, e1, _, d1⟩, ⟨o2, e2, _, d2⟩, ⟨o3, e3, _, d3⟩⟩ := st
    have e' : d = z ∨ d = TI ∨ d = TO ∨ d = i1 ∨ d = i2 ∨ d = i3 := by simpa using hd
    rcases e' with q | q | q | q | q | q
    · rw [q]; exact ⟨_, hz, fun v q => nomatch q⟩
    · rw [q]; exact ⟨_, hTI, fun v q => nomatch q⟩
    · rw [q]; exact ⟨_, hTO, fun v q => nomatch q⟩
    · rw [q]; exact ⟨o1, e1, fun v q => by rw [d1] at q; cases q⟩
    · rw [q]; exact ⟨o2, e2, fun v q => by rw [d2] at q; cases q⟩
    · rw [q]; exact ⟨o3, e3, fun v q => by rw [d3] at q; cases q⟩
  keep := fun i h h' st k => by
    obtain ⟨hz, hTI, ⟨x, y, u, hTO⟩, h1, h2, h3⟩ := st
    exact ⟨k z (by simp) _ hz, k TI (by simp) _ hTI, ⟨x, y, u, k TO (by simp) _ hTO⟩, h1.at fun o q => k i1 (by simp) o q, h2.at fun o q => k i2 (by simp) o q, h3.at fun o q => k i3 (by simp) o q⟩
  item := by
    intro X hP hw hK hc i pins s σ H E I hf st hg
    subst hP hw hK
    obtain ⟨hz, hTI, hTO, h1, h2, h3⟩ := st
    obtain ⟨xs, ys, zs, hqx, hqy, hqz, hi⟩ := hg
    obtain ⟨its, rv, p, _⟩ := I.tuple hqx
    obtain ⟨its2, rv2, p2, _⟩ := I.tuple hqy
    obtain ⟨its3, rv3, p3, _⟩ := I.tuple hqz
    have l1 := rv.length
    have l2 := rv2.length
    have l3 := rv3.length
    have hh : X.A.in1.handled = none := I.ok.hd hc
    have W := WalksT.zipD3 (A := X.A) D (Draws.tuple (prog := X.prog) (w := X.w) hh i1 a na its.toArray) (Draws.tuple hh i2 b nb its2.toArray) (Draws.tuple hh i3 c nc its3.toArray)
    refine W.item i s _ _ (by simp only [List.size_toArray]; omega) ⟨hz, hTI, hTO, ⟨h1, p⟩, ⟨h2, p2⟩, ⟨h3, p3⟩⟩ fun T vals h' tk hP hnew hT hm hk => ?_
    refine ⟨.ref T, rfl, W.go elts kk tpos i T { s with heap := h', toks := tk } _ _ hm fun h2' st2 hk2 => ?_⟩
    obtain ⟨u1, u2, u3, hu1, hu2, hu3, ev⟩ := hP
    subst ev
    obtain ⟨jz, jTI, jTO, ⟨j1, _⟩, ⟨j2, _⟩, ⟨j3, _⟩⟩ := st2
    have hT2 := hT.at fun o e => hk2 T o (W.apart i T h' hm) e
    have g1 : ∀ {us : List V} {is : List Value} {u : Value} (r : Vals us is), i < us.length → is.toArray[i]? = some u → ∃ x, us[i]? = some x ∧ RelV x u := fun {us is u} r hl e => by
      obtain ⟨v, e1, r1⟩ := Vals.get r (List.getElem?_eq_getElem hl)
      have e2 : is[i]? = some u := by simpa using e
      rw [e1] at e2; injection e2 with e2; subst e2
      exact ⟨_, List.getElem?_eq_getElem hl, r1⟩
    obtain ⟨x, hx, rx⟩ := g1 rv (by omega) hu1
    obtain ⟨y, hy, ry⟩ := g1 rv2 (by omega) hu2
    obtain ⟨v, hv, rv'⟩ := g1 rv3 (by omega) hu3
    have new : ObjOk X.prog X.w (upd H T (.tup [x, y, v])) h2' T (.tup [x, y, v]) :=
      ⟨by show 3 ≤ sizeLine; decide, [u1, u2, u3], .cons rx (.cons ry (.cons rv' .nil)), hT2⟩
    have I1 : Inv X pins σ (upd H T (.tup [x, y, v])) { s with heap := h2', toks := tk } :=
      I.turnedNew (t' := tk) (ch := [z, TI, TO, i1, i2, i3]) (fun d o hb q => hk2 d o (fun q' => hb (by simp at q' ⊢; rcases q' with q' | q' | q' | q' | q' <;> simp [q'])) (hk d o (fun q' => hb (by simp at q' ⊢; rcases q' with q' | q' | q' | q' | q' <;> simp [q'])) q)) hf hnew new
    refine ⟨.ref T, _, I1, rfl, ⟨T, x, y, v, rfl, I.hok.fresh hnew, rfl, fun l hl => by rw [I.tuple_inj hl hqx]; exact hx, fun l hl => by rw [I.tuple_inj hl hqy]; exact hy, fun l hl => by rw [I.tuple_inj hl hqz]; exact hv⟩, ⟨jz, jTI, jTO, j1, j2, j3⟩, fun d hd => ?_⟩
    have hlt : d < s.heap.objs.size := by
      have e' : d = z ∨ d = TI ∨ d = TO ∨ d = i1 ∨ d = i2 ∨ d = i3 := by simpa using hd
      rcases e' with q | q | q | q | q | q
      · rw [q]; exact Heap.lt_size hz
      · rw [q]; exact Heap.lt_size hTI
      · rw [q]; obtain ⟨_, _, _, e⟩ := hTO; exact Heap.lt_size e
      · rw [q]; obtain ⟨_, e, _⟩ := h1; exact Heap.lt_size e
      · rw [q]; obtain ⟨_, e, _⟩ := h2; exact Heap.lt_size e
      · rw [q]; obtain ⟨_, e, _⟩ := h3; exact Heap.lt_size e
    rw [upd_ne (Nat.ne_of_lt (Nat.lt_of_lt_of_le hlt hnew))]
    exact (hf d hd).1
  done := by
    intro X hP hw hK hc i pins s σ H E I hf st hg
    subst hP hw hK
    obtain ⟨hz, hTI, hTO, h1, h2, h3⟩ := st
    obtain ⟨xs, ys, zs, hqx, hqy, hqz, hi⟩ := hg
    obtain ⟨its, rv, p, _⟩ := I.tuple hqx
    obtain ⟨its2, rv2, p2, _⟩ := I.tuple hqy
    obtain ⟨its3, rv3, p3, _⟩ := I.tuple hqz
    have l1 := rv.length
    have l2 := rv2.length
    have l3 := rv3.length
    have hh : X.A.in1.handled = none := I.ok.hd hc
    have W := WalksT.zipD3 (A := X.A) D (Draws.tuple (prog := X.prog) (w := X.w) hh i1 a na its.toArray) (Draws.tuple hh i2 b nb its2.toArray) (Draws.tuple hh i3 c nc its3.toArray)
    have hi' : i = min (min its.toArray.size its2.toArray.size) its3.toArray.size := by simp only [List.size_toArray]; omega
    subst hi'
    exact W.done s _ _ ⟨hz, hTI, hTO, ⟨h1, p⟩, ⟨h2, p2⟩, ⟨h3, p3⟩⟩ fun h' tk hk => ⟨rfl, I.turnedL (t' := tk) (ch := [z, TI, TO, i1, i2, i3]) (fun d o hb q => hk d o (fun q' => hb (by simp at q' ⊢; rcases q' with q' | q' | q' | q' | q' <;> simp [q'])) q) hf⟩
  self := fun A i s Q E st h => wpAny_pyIter_zip st.1 h
def iZip3 (K : PySem.W.Frag) (ta : TA) : TI := fun σ H R => ta σ H fun vs H1 => ∃ a b c xs ys zs, vs = [.ref a, .ref b, .ref c] ∧ SqT K H1 a xs ∧ SqT K H1 b ys ∧ SqT K H1 c zs ∧ R (It3 K a b c) H1
theorem pi_zip3 {X : Cx} {e e2 e3 : Expr} {ta : TA} {p pos tpos : Pos} {elts : List Expr} {kk : Nat} (hg : Gl X "zip") (hm : X.mg "zip" = none) (ha : PA X [e, e2, e3] ta)
    (hs : starEach [e, e2, e3] X.env = (false, eval e X.env) :: starEach [e2, e3] X.env := by rfl) (hpl : (backTo pos (starEach [e2, e3] X.env)).any (·.1) = false := by rfl) :
    PI X (.Tuple elts kk tpos) (.Call (.Name "zip" p) [e, e2, e3] [] pos) (iZip3 X.K ta) := by
  refine ⟨fun pins s σ H R I h => ?_⟩
  refine Call_ (ld_blt I hg hm PyProof.Rows.boot_zip (PyProof.Rows.callWith_type1 (thn (ha.run pos pins s σ H _ I h) fun us s1 ⟨vs, H1, I1, r1, q1⟩ => ?_) hs hpl))
  obtain ⟨a, b, c, xs, ys, zs, ex, hqx, hqy, hqz, q⟩ := q1
  subst ex
  cases r1 with
  | cons r rr =>
    cases rr with
    | cons r' rr =>
      cases rr with
      | cons r'' rr =>
        cases rr
        cases r
        cases r'
        cases r''
        obtain ⟨its, rv, p1, _⟩ := I1.tuple hqx
        obtain ⟨its2, rv2, p2, _⟩ := I1.tuple hqy
        obtain ⟨its3, rv3, p3, _⟩ := I1.tuple hqz
        have t1 : a < s1.heap.objs.size := by obtain ⟨o, ho, _⟩ := id p1; exact Heap.lt_size ho
        have t2 : b < s1.heap.objs.size := by obtain ⟨o, ho, _⟩ := id p2; exact Heap.lt_size ho
        have t3 : c < s1.heap.objs.size := by obtain ⟨o, ho, _⟩ := id p3; exact Heap.lt_size ho
        have fresh6 : ∀ d, d ∈ [s1.heap.objs.size + 5, s1.heap.objs.size + 3, s1.heap.objs.size + 4, s1.heap.objs.size, s1.heap.objs.size + 1, s1.heap.objs.size + 2] → FpOk X pins H1 d := fun d hd => by
          have hle : s1.heap.objs.size ≤ d := by
            simp only [List.mem_cons, List.not_mem_nil, or_false] at hd
            rcases hd with z | z | z | z | z | z <;> (rw [z]; first | exact Nat.le_add_right _ _ | exact Nat.le_refl _)
          exact I1.fpOk hle (I1.hok.fresh hle)
        refine zip_begins3 (begins_tuple a its.toArray) (begins_tuple b its2.toArray) (begins_tuple c its3.toArray) p1 p2 p3 fun h' hz hTI hTO h1 h2 h3 hsz hk => wpAny_pyIter_zip hz ?_
        have I2 : Inv X pins σ H1 { s1 with heap := h' } := I1.kept (t' := s1.toks) hk
        exact ⟨s1.heap.objs.size + 5, [s1.heap.objs.size + 5, s1.heap.objs.size + 3, s1.heap.objs.size + 4, s1.heap.objs.size, s1.heap.objs.size + 1, s1.heap.objs.size + 2], _, _, H1, rfl, I2,
          turn_zip3 (zip_sep3 (fp1 := [a]) (fp2 := [b]) (fp3 := [c]) (by simpa using t1) (by simpa using t2) (by simpa using t3)) (Nat.ne_of_lt t1) (Nat.ne_of_lt (Nat.lt_of_lt_of_le t2 (Nat.le_add_right _ _))) (Nat.ne_of_lt (Nat.lt_of_lt_of_le t3 (Nat.le_add_right _ _))),
          ⟨hz, hTI, ⟨_, _, _, hTO⟩, ⟨_, h1, rfl, rfl⟩, ⟨_, h2, rfl, rfl⟩, ⟨_, h3, rfl, rfl⟩⟩, fresh6, q⟩
section
variable {g : Gc} {X : Cx} {e e' e'' : Expr} {fs : M (List T)} {e1 b1 : List Nat} {pos p2 tpos : Pos} {elts : List Expr} {kk : Nat}
def zip3T (xs ys zs : List T) : List T := (xs.zip (ys.zip zs)).map fun p => .nd .tup [p.1, p.2.1, p.2.2]
def zip3F (ts : List T) : Option (List T) := match ts with
  | [.nd .tup xs, .nd .tup ys, .nd .tup zs] => if immL xs && (immL ys && immL zs) then some (zip3T xs ys zs) else none
  | _ => none
theorem zip3T_at {xs ys zs : List T} {i : Nat} {x y z : T} (hx : xs[i]? = some x) (hy : ys[i]? = some y) (hz : zs[i]? = some z) : (zip3T xs ys zs)[i]? = some (.nd .tup [x, y, z]) := by
  unfold zip3T
  have h2 : (ys.zip zs)[i]? = some (y, z) := List.getElem?_zip_eq_some.mpr ⟨hy, hz⟩
  have h : (xs.zip (ys.zip zs))[i]? = some (x, (y, z)) := List.getElem?_zip_eq_some.mpr ⟨hx, h2⟩
  rw [List.getElem?_map, h]; rfl
theorem zip3T_len {xs ys zs : List T} : (zip3T xs ys zs).length = min xs.length (min ys.length zs.length) := by
  unfold zip3T
  rw [List.length_map, List.length_zip, List.length_zip]
theorem RpL.get3 {S : Addr → Prop} {H : Hp} {t u v : T} {xs : List V} {A : List Addr} (r : RpL g S H [t, u, v] xs A) : ∃ x y z B C D, xs = [x, y, z] ∧ Rp g S H t x B ∧ Rp g S H u y C ∧ Rp g S H v z D := by
  obtain ⟨y, ys, A1, A2, e1, e2, r1, r2⟩ := r
  obtain ⟨z, w, B, C, e3, r3, r4⟩ := r2.get2
  exact ⟨y, z, w, A1, B, C, by rw [e1, e3], r1, r3, r4⟩
theorem triple_rep {S : Addr → Prop} {H2 H3 : Hp} {p : Addr} {x y z : V} {s t u : T} (hp : H2 p = none) (eH : H3 = upd H2 p (.tup [x, y, z])) (rx : Rp g S H2 s x []) (ry : Rp g S H2 t y []) (rz : Rp g S H2 u z []) : Rp g S H3 (.nd .tup [s, t, u]) (.ref p) [] := by
  subst eH
  have ex := upd_ext (o := .tup [x, y, z]) hp
  exact ⟨p, [x, y, z], [], rfl, .inl upd_same, rfl, .inr (.inr rfl), x, [y, z], [], [], rfl, rfl, rx.ext ex, y, [z], [], [], rfl, rfl, ry.ext ex, z, [], [], [], rfl, rfl, rz.ext ex, rfl, rfl⟩
theorem it_zip3 (hK : g.K = X.K) (hg : Gl X "zip") (hm : X.mg "zip" = none) (ha : PAm g X [e, e', e''] fs e1 b1) (hs : starEach [e, e', e''] X.env = (false, eval e X.env) :: starEach [e', e''] X.env := by rfl) (hpl : (backTo pos (starEach [e', e''] X.env)).any (·.1) = false := by rfl) :
    PIm g X (.Tuple elts kk tpos) (.Call (.Name "zip" p2) [e, e', e''] [] pos) (mRng zip3F fs) e1 b1 :=
  PI.imp (pi_zip3 hg hm ha hs hpl) fun σ H Rr ⟨S, Ts, A, items, Ts', R, q, k⟩ => by
    obtain ⟨ts, Ts1, q1, q2⟩ := bnd_some q
    obtain ⟨q3, q4⟩ := lft_some q2
    subst q4
    unfold zip3F at q3
    split at q3
    · rename_i xs ys zs
      split at q3
      · rename_i hi
        obtain ⟨hi1, hi⟩ := Bool.and_eq_true_iff.mp hi
        obtain ⟨hi2, hi3⟩ := Bool.and_eq_true_iff.mp hi
        injection q3 with q3
        subst q3
        refine ⟨S, Ts, A, _, Ts', R, q1, fun vs H1 S1 A1 Ax R1 rx ox p s => ?_⟩
        have look : ∀ H2 S2 (u v w : Addr), RpL g S2 H2 [.nd .tup xs, .nd .tup ys, .nd .tup zs] [.ref u, .ref v, .ref w] Ax → ∃ us ws qs, SqT X.K H2 u us ∧ SqT X.K H2 v ws ∧ SqT X.K H2 w qs ∧ us.length = xs.length ∧ ws.length = ys.length ∧ qs.length = zs.length ∧ RpL g S2 H2 xs us [] ∧ RpL g S2 H2 ys ws [] ∧ RpL g S2 H2 zs qs [] := fun H2 S2 u v w h => by
          obtain ⟨y, y', y'', B, C, D, w1, w2, w3, w4⟩ := h.get3
          injection w1 with w1 w5
          injection w5 with w5 w6
          injection w6 with w6 _
          subst w1; subst w5; subst w6
          obtain ⟨a, us, B1, ex, at1, _, _, rl1⟩ := w2
          injection ex with ex
          subst ex
          obtain ⟨b, ws, B2, ex2, at2, _, _, rl2⟩ := w3
          injection ex2 with ex2
          subst ex2
          obtain ⟨c, qs, B3, ex3, at3, _, _, rl3⟩ := w4
          injection ex3 with ex3
          subst ex3
          exact ⟨us, ws, qs, hK ▸ At.sqT at1, hK ▸ At.sqT at2, hK ▸ At.sqT at3, (RpL.length _ _ _ rl1).symm, (RpL.length _ _ _ rl2).symm, (RpL.length _ _ _ rl3).symm, rl1.imm_one hi1, rl2.imm_one hi2, rl3.imm_one hi3⟩
        obtain ⟨y, y', y'', B, C, D, w1, w2, w3, w4⟩ := rx.get3
        obtain ⟨u, us0, _, ex1, _⟩ := w2
        obtain ⟨v, ws0, _, ex2, _⟩ := w3
        obtain ⟨w, qs0, _, ex3, _⟩ := w4
        subst ex1; subst ex2; subst ex3
        subst w1
        obtain ⟨us, ws, qs, s1, s2, s3, l1, l2, l3, r1, r2, r3⟩ := look H1 S1 u v w rx
        refine ⟨u, v, w, us, ws, qs, rfl, s1, s2, s3, k _ H1 S1 A1 R1 ⟨_, _, Ax, rx, ox, fun i H2 hlt ⟨S2, hG⟩ => ?_, fun H2 ⟨S2, hG⟩ => ?_, fun i H2 x H3 hlt ⟨S2, hG⟩ yd => ?_⟩ p s⟩
        · obtain ⟨us, ws, qs, s1, s2, s3, l1, l2, l3, r1, r2, r3⟩ := look H2 S2 u v w hG
          rw [zip3T_len] at hlt
          exact ⟨us, ws, qs, s1, s2, s3, by omega⟩
        · obtain ⟨us, ws, qs, s1, s2, s3, l1, l2, l3, r1, r2, r3⟩ := look H2 S2 u v w hG
          exact ⟨us, ws, qs, s1, s2, s3, by rw [zip3T_len]; omega⟩
        · obtain ⟨P, x1, y1, z1, ex, hT, eH, hx, hy, hz⟩ := yd
          subst ex
          refine ⟨by rw [eH]; exact upd_ext hT, fun S3 hG3 => ?_⟩
          obtain ⟨us, ws, qs, s1, s2, s3, l1, l2, l3, r1, r2, r3⟩ := look H2 S3 u v w hG3
          obtain ⟨t1, ht1, rt1⟩ := RpL.atI r1 (hx us s1)
          obtain ⟨t2, ht2, rt2⟩ := RpL.atI r2 (hy ws s2)
          obtain ⟨t3, ht3, rt3⟩ := RpL.atI r3 (hz qs s3)
          exact ⟨_, zip3T_at ht1 ht2 ht3, triple_rep hT eH rt1 rt2 rt3⟩
      · cases q3
    · cases q3
end
end MI
/-! M4: calls by name in another order. -/
namespace MI
open PySem PySem.Spec PyProof.Rows L2
/-- some of a list, in another order -/
def pick {α : Type} (π : List Nat) (xs : List α) : List α := π.filterMap fun i => xs[i]?
theorem Vals.pick {xs : List V} {us : List Value} (r : Vals xs us) : ∀ π : List Nat, Vals (MI.pick π xs) (MI.pick π us)
  | [] => .nil
  | i :: π => by
    have ih := Vals.pick r π
    have hl := r.length
    unfold MI.pick at ih ⊢
    by_cases h : i < xs.length
    · obtain ⟨u, e, rx⟩ := Vals.get r (List.getElem?_eq_getElem h)
      rw [List.filterMap_cons, List.filterMap_cons, List.getElem?_eq_getElem h, e]
      exact .cons rx ih
    · rw [List.filterMap_cons, List.filterMap_cons, List.getElem?_eq_none (by omega), List.getElem?_eq_none (by omega)]
      exact ih
/-- n arguments by place, the others by name, in the order ks -/
def KwQ (K : PySem.W.Frag) (fd : FuncData) (ps ks : List Str) (π : List Nat) (n : Nat) : Prop := ∀ (s : Shared) (us ws : List Value), K.In s.heap → us.length = n → ws.length = ks.length → BindsTo s fd ⟨us, ks.zip ws⟩ (ps.zip (us ++ pick π ws))
theorem FunD.kwq {K : PySem.W.Frag} {x qual : Str} {params : Arguments} {body : List Stmt} {scope : Scope} {kws : List (Str × V)} {f : Addr} {fd : FuncData} {ps ks : List Str} {π : List Nat} {n : Nat} (F : FunD K x qual params body scope [] kws f fd)
    (h : ∀ (kV doc pm : Value) (an : Option Addr) (cdv ct : Value) (us ws : List Value), us.length = n → ws.length = ks.length → bindArgs (PySem.W.fnOf x qual params body scope .none kV doc pm an cdv ct) ⟨us, ks.zip ws⟩ = pure (ps.zip (us ++ pick π ws))) : KwQ K fd ps ks π n := by
  obtain ⟨oc, od, dV, kV, doc, pm, an, cdv, ct, osl, rfl, lk, hcd, hD, hK⟩ := F.ex
  rcases hD with ⟨_, rfl⟩ | ⟨e, _⟩
  · exact fun s us ws _ h1 h2 => .of_eq (h kV doc pm an cdv ct us ws h1 h2)
  · exact absurd rfl e
def tPick (π : List Nat) (n : Nat) (tk : TA) : TA := fun σ H Q => tk σ H fun zs H1 => zs.length = n ∧ Q (pick π zs) H1
section
variable {X : Cx} {CX : CXT} {k : Nat} {f C : Addr} {fd : FuncData} {ps ks : List Str} {π : List Nat} {sp : Sp} {E : XK} {x m : Str} {p pos apos : Pos} {o : Expr} {kws : List Keyword} {ta : TE} {tk : TA}
theorem pe_callGQ (F : FnG X.prog X.w X.K X.mg X.base CX k f fd ps sp) (hG : GA X.A) (hr : Room k X.A) (hg : Gl X x) (hm : X.mg x = some (.ref f)) (hk : PySem.W.keepIn X.K (.ref f) = true) (hb : KwQ X.K fd ps ks π 0) (hx : Passes CX X E) (hkw : PK X kws tk)
    (hall : (backToKw pos (keywordEach kws X.env)).all (·.1.isSome) = true := by rfl) (hks : (backToKw pos (keywordEach kws X.env)).filterMap (·.1) = ks := by rfl) (hdb : (x == ("__debug__" : Str)) = false := by decide)
    (hpl : ((backTo pos (starEach [] X.env)).any (·.1) || (backToKw pos (keywordEach kws X.env)).any (·.1.isNone)) = false := by rfl) : PE X (.Call (.Name x p) [] kws pos) (tCall sp [] E (tPick π ks.length tk)) := ⟨fun pins s σ H Q I h => by
  refine wpAny_Call_Name_kw (ld_glob I hg hm ?_ hdb)
  refine PySem.W.callWith_KW0 (h₀ := X.base) I.ok.mod.kin hk hall (thn (hkw.run pos pins s σ H _ I h) fun ws z2 ⟨zs, G2, J2, rz, hzl, q2⟩ => ⟨J2.kIn, ?_⟩) hpl
  rw [hks]
  have rz' : Vals (pick π zs ++ []) (pick π ws) := by rw [List.append_nil]; exact Vals.pick rz π
  exact run_g (us := []) F hG hr hx J2 (fun hl => hb z2 [] ws J2.kIn rfl (by rw [← rz.length]; exact hzl)) rz' q2⟩
theorem pe_makeGQ (M : Mk X.K C f) (F : FnG X.prog X.w X.K X.mg X.base CX k f fd ps sp) (hG : GA X.A) (hr : Room (k + 1) X.A) (hg : Gl X x) (hm : X.mg x = some (.ref C)) (hb : KwQ X.K fd ps ks π 1) (hx : Passes CX X E) (hkw : PK X kws tk)
    (hall : (backToKw pos (keywordEach kws X.env)).all (·.1.isSome) = true := by rfl) (hks : (backToKw pos (keywordEach kws X.env)).filterMap (·.1) = ks := by rfl) (hdb : (x == ("__debug__" : Str)) = false := by decide)
    (hpl : ((backTo pos (starEach [] X.env)).any (·.1) || (backToKw pos (keywordEach kws X.env)).any (·.1.isNone)) = false := by rfl) : PE X (.Call (.Name x p) [] kws pos) (tMake C sp [] E (tPick π ks.length tk)) := ⟨fun pins s σ H Q I h => by
  refine wpAny_Call_Name_kw (ld_glob I hg hm ?_ hdb)
  refine PySem.W.callWith_KW0 (h₀ := X.base) I.ok.mod.kin M.kp hall (thn (hkw.run pos pins s σ H _ I h) fun ws z2 ⟨zs, G2, J2, rz, hzl, q2⟩ => ⟨J2.kIn, ?_⟩) hpl
  rw [hks]
  have rz' : Vals (pick π zs ++ []) (pick π ws) := by rw [List.append_nil]; exact Vals.pick rz π
  exact run_makeG (us := []) M F hG hr (fun z a hz hl => hb z [.ref a] ws hz rfl (by rw [← rz.length]; exact hzl)) hx J2 rz' q2⟩
theorem pe_methGQ {pl : Sem Bool} (he : PE X o ta) (c : Cls X.K C) (hm : Meth X.K C m f) (F : FnG X.prog X.w X.K X.mg X.base CX k f fd ps sp) (hG : GA X.A) (hr : Room k X.A) (hb : KwQ X.K fd ps ks π 1) (hx : Passes CX X E) (hkw : PK X kws tk)
    (hall : (backToKw pos (keywordEach kws X.env)).all (·.1.isSome) = true := by rfl) (hks : (backToKw pos (keywordEach kws X.env)).filterMap (·.1) = ks := by rfl)
    (hpl : ((backTo pos (starEach [] X.env)).any (·.1) || (backToKw pos (keywordEach kws X.env)).any (·.1.isNone)) = false := by rfl)
    (ht : eval (.Call (.Attribute o m apos) [] kws pos) X.env = (do let ov ← eval o X.env; standAt apos.atName; let (f, first) ← holding [ov] (getMethod ov m pl); callWith pos f first (backTo pos (starEach [] X.env)) (backToKw pos (keywordEach kws X.env))) := by rfl) :
    PE X (.Call (.Attribute o m apos) [] kws pos) (tMeth C m sp [] E ta (tPick π ks.length tk)) := ⟨fun pins s σ H Q I h => by
  refine PySem.W.methodCall_KW (pl := pl) (thn (he.run pins s σ H _ I h) fun u z1 ⟨y, G1, J1, rx, a, dx, fs, ex, ea, l, q⟩ => ?_) ht
  subst ex
  obtain rfl : u = Value.ref a := rx
  refine getmeth_ok J1 ea c hm l ?_
  refine PySem.W.callWith_KW0 (first := [.ref a]) (h₀ := X.base) I.ok.mod.kin hm.kp hall (thn (hkw.run pos pins z1 σ G1 _ J1 q) fun ws z2 ⟨zs, G2, J2, rz, hzl, q2⟩ => ⟨J2.kIn, ?_⟩) hpl
  rw [hks]
  have rz' : Vals (V.ref a :: (pick π zs ++ [])) (Value.ref a :: pick π ws) := by rw [List.append_nil]; exact .cons rfl (Vals.pick rz π)
  exact run_g (us := [.ref a]) F hG hr hx J2 (fun hl => hb z2 [.ref a] ws J2.kIn rfl (by rw [← rz.length]; exact hzl)) rz' q2⟩
end
section
variable {g : Gc} {X : Cx} {k : Nat} {f : Str} {fd : FuncData} {fad : Addr} {ps ks : List Str} {π : List Nat} {x m cls : Str} {p pos apos kpos : Pos} {e o : Expr} {kws : List Keyword} {fs : M (List T)} {fa : M T} {e1 e2 b1 b2 : List Nat} {io : List Nat} {c : Cal} {ln : List (Option Nat)} {nm : Option Str}
def mPick (π : List Nat) (n : Nat) (fs : M (List T)) : M (List T) := bnd fs fun ts => lft (if immL ts && decide (ts.length = n) then some (pick π ts) else none)
theorem RpC.imm {S : Addr → Prop} {H : Hp} {σ : L2.St} : ∀ (ln : List (Option Nat)) (ts : List T) (xs : List V) (Al Ab : List Addr), allN ln = true → immL ts = true → RpC g S H σ ln ts xs Al Ab → Al = [] ∧ Ab = [] ∧ RpL g S H ts xs []
  | [], _, _, _, _, _, _, h => by obtain ⟨h1, h2, h3, h4⟩ := h; subst h1 h2 h3 h4; exact ⟨rfl, rfl, rfl, rfl⟩
  | Option.none :: ln, _, _, Al, _, hn, hi, h => by
    obtain ⟨t, ts', x, xs', B, Ab', e1, e2, e3, r, h⟩ := h
    subst e1 e2 e3
    rw [immL, Bool.and_eq_true] at hi
    obtain ⟨h1, h2, h3⟩ := RpC.imm ln ts' xs' Al Ab' hn hi.2 h
    have eB := Rp.imm_nil _ _ _ r hi.1
    subst h1 h2 eB
    exact ⟨rfl, rfl, x, xs', [], [], rfl, rfl, r, h3⟩
  | Option.some s :: ln, _, _, _, _, hn, _, _ => by cases hn
theorem RpC.ofL {S : Addr → Prop} {H : Hp} {σ : L2.St} : ∀ (l : List Unit) (ts : List T) (xs : List V), l.length = ts.length → RpL g S H ts xs [] → RpC g S H σ (l.map fun _ => Option.none) ts xs [] []
  | [], [], _, _, h => ⟨rfl, h.1, rfl, rfl⟩
  | u :: l, t :: ts, xs, hl, h => by
    obtain ⟨x, xs', B, C, e1, e2, r, h⟩ := h
    obtain ⟨hB, hC⟩ := List.append_eq_nil_iff.mp e2.symm
    subst hB hC
    exact ⟨t, ts, x, xs', [], [], rfl, e1, rfl, r, RpC.ofL l ts xs' (by simpa using hl) h⟩
theorem RpL.pick {S : Addr → Prop} {H : Hp} {ts : List T} {xs : List V} (r : RpL g S H ts xs []) : ∀ π : List Nat, RpL g S H (MI.pick π ts) (MI.pick π xs) []
  | [] => ⟨rfl, rfl⟩
  | i :: π => by
    have ih := RpL.pick r π
    have hl := RpL.length _ _ _ r
    unfold MI.pick at ih ⊢
    by_cases h : i < xs.length
    · obtain ⟨t, e, rx⟩ := RpL.atI r (List.getElem?_eq_getElem h)
      rw [List.filterMap_cons, List.filterMap_cons, List.getElem?_eq_getElem h, e]
      exact ⟨_, _, [], [], rfl, rfl, rx, ih⟩
    · rw [List.filterMap_cons, List.filterMap_cons, List.getElem?_eq_none (by omega), List.getElem?_eq_none (by omega)]
      exact ih
theorem pick_len {α : Type} {xs : List α} : ∀ π : List Nat, (∀ i ∈ π, i < xs.length) → (MI.pick π xs).length = π.length
  | [], _ => rfl
  | i :: π, h => by
    have ih := pick_len π fun j hj => h j (List.mem_cons_of_mem _ hj)
    unfold MI.pick at ih ⊢
    rw [List.filterMap_cons, List.getElem?_eq_getElem (h i List.mem_cons_self)]
    show _ + 1 = _
    rw [ih]; rfl
theorem pick_r {n : Nat} (hn : allN ln = true) (hπ : ∀ i ∈ π, i < n) (σ : L2.St) (H : Hp) (Q : List V → Hp → Prop) (h : TMc g (mPick π n fs) e1 [] (π.map fun _ => none) σ H Q) : tPick π n (TMc g fs e1 [] ln) σ H Q := by
  obtain ⟨S, Ts, A, ts, Ts', R, q, k⟩ := h
  obtain ⟨us, Ts1, q1, q2⟩ := bnd_some q
  obtain ⟨q3, q4⟩ := lft_some q2
  subst q4
  split at q3
  · rename_i hc
    injection q3 with q3
    subst q3
    rw [Bool.and_eq_true, decide_eq_true_eq] at hc
    refine ⟨S, Ts, A, us, Ts', R, q1, fun xs H1 S1 A1 Al Ab R1 rc ol ob dj p s => ?_⟩
    obtain ⟨h1, h2, h3⟩ := RpC.imm ln us xs Al Ab hn hc.1 rc
    subst h1 h2
    have hlen := RpL.length _ _ _ h3
    refine ⟨by omega, k (pick π xs) H1 S1 A1 [] [] R1 ?_ ol ob dj p s⟩
    have := RpC.ofL (g := g) (S := S1) (H := H1) (σ := σ) (π.map fun _ => ()) (pick π us) (pick π xs) (by rw [List.length_map, pick_len π (by rw [hc.2]; exact hπ)]) (RpL.pick h3 π)
    rw [List.map_map] at this
    exact this
  · cases q3
theorem tm_callQ (F : FnG X.prog X.w X.K X.mg X.base CX0 k fad fd ps (spT g io c)) (hG : GA X.A) (hr : Room k X.A) (hg : Gl X x) (hm : X.mg x = some (.ref fad)) (hk : PySem.W.keepIn X.K (.ref fad) = true) (hb : KwQ X.K fd ps ks π 0) (ha : PKc g X kws fs e1 [] ln)
    (hn : allN ln = true := by rfl) (hπ : ∀ i ∈ π, i < ks.length := by decide) (hio : io = lentIx 0 (π.map fun _ => none) := by rfl) (hl : ∀ s ∈ (π.map fun _ => (none : Option Nat)).filterMap id, s ∈ e1 := by decide) (hall : (backToKw pos (keywordEach kws X.env)).all (·.1.isSome) = true := by rfl) (hks : (backToKw pos (keywordEach kws X.env)).filterMap (·.1) = ks := by rfl) (hdb : (x == ("__debug__" : Str)) = false := by decide)
    (hpl : ((backTo pos (starEach [] X.env)).any (·.1) || (backToKw pos (keywordEach kws X.env)).any (·.1.isNone)) = false := by rfl) :
    PEm g X (.Call (.Name x p) [] kws pos) (mCall c (π.map fun _ => none) (mPick π ks.length fs)) e1 [] := PE.imp (pe_callGQ F hG hr hg hm hk hb (E := E0) pass0 ha hall hks hdb hpl) fun σ H Q h => pick_r hn hπ σ H _ (call_r rfl hio hl σ H Q h)
theorem tm_makeQ (hC : X.mg f = some (.ref (g.cl cls))) (M : Mk X.K (g.cl cls) fad) (F : FnG X.prog X.w X.K X.mg X.base CX0 k fad fd ps (spT g [0] c)) (hG : GA X.A) (hr : Room (k + 1) X.A) (hg : Gl X f) (hb : KwQ X.K fd ps ks π 1) (ha : PKc g X kws fs e1 [] ln) (hn : allN ln = true := by rfl)
    (hπ : ∀ i ∈ π, i < ks.length := by decide) (hn2 : allN (π.map fun _ => none) = true := by rfl) (hall : (backToKw pos (keywordEach kws X.env)).all (·.1.isSome) = true := by rfl) (hks : (backToKw pos (keywordEach kws X.env)).filterMap (·.1) = ks := by rfl) (hdb : (f == ("__debug__" : Str)) = false := by decide)
    (hpl : ((backTo pos (starEach [] X.env)).any (·.1) || (backToKw pos (keywordEach kws X.env)).any (·.1.isNone)) = false := by rfl) :
    PEm g X (.Call (.Name f p) [] kws pos) (mMake c cls (π.map fun _ => none) (mPick π ks.length fs)) e1 [] := PE.imp (pe_makeGQ M F hG hr hg hC hb (E := E0) pass0 ha hall hks hdb hpl) fun σ H Q h => pick_r hn hπ σ H _ (make_r hn2 σ H Q h)
end
end MI
/-! M5: list.insert. -/
namespace MI
open PySem PySem.Spec PyProof.Rows L2
section
variable {g : Gc} {S : Addr → Prop} {H : Hp}
theorem RpL.inTwo : ∀ (n : Nat) (ts : List T) (xs : List V) (B : List Addr), RpL g S H ts xs B → ∃ B1 B2, B = B1 ++ B2 ∧ RpL g S H (ts.take n) (xs.take n) B1 ∧ RpL g S H (ts.drop n) (xs.drop n) B2
  | 0, ts, xs, B, h => ⟨[], B, rfl, by rw [List.take_zero, List.take_zero]; exact ⟨rfl, rfl⟩, h⟩
  | n + 1, [], xs, B, h => by obtain ⟨rfl, rfl⟩ := h; exact ⟨[], [], rfl, ⟨rfl, rfl⟩, ⟨rfl, rfl⟩⟩
  | n + 1, t :: ts, xs, B, h => by
    obtain ⟨x, xs', B1, B2, rfl, rfl, r, h⟩ := h
    obtain ⟨C1, C2, rfl, h1, h2⟩ := RpL.inTwo n ts xs' B2 h
    exact ⟨B1 ++ C1, C2, (List.append_assoc ..).symm, ⟨x, xs'.take n, B1, C1, rfl, rfl, r, h1⟩, h2⟩
theorem mut_insert : MutT g (fun x vs H Q => ∃ (l : Addr) (xs : List V) (i : Int) (y : V), x = .ref l ∧ vs = [.int i, y] ∧ H l = some (.lst xs) ∧ xs.length < sizeLine ∧ 0 ≤ i ∧ i < 2 ^ 63 ∧
    Q .non (upd H l (.lst (xs.take i.toNat ++ [y] ++ xs.drop i.toNat)))) fInsert := by
  intro S H a n B0 args xs Ag res n' Q rn ho ra nd ns ef k
  unfold fInsert at ef
  split at ef
  · split at ef
    · rename_i ts i v hz
      injection ef with ef
      injection ef with h1 h2
      subst h1; subst h2
      obtain ⟨ys, hH, rl⟩ := own_lst rn
      obtain ⟨y0, zs, A1, A2, e1, e2, r1, r2⟩ := ra
      obtain ⟨y, zs', A3, A4, e3, e4, r3, r4⟩ := r2
      obtain ⟨rfl, rfl⟩ := r4
      obtain ⟨rfl, rfl⟩ : y0 = .int i ∧ A1 = [] := r1
      subst e1; subst e3
      rw [List.append_nil] at e4
      rw [List.nil_append] at e2
      subst e4; subst e2
      obtain ⟨n1, n2⟩ := List.nodup_cons.mp nd
      have nB : a ∉ B0 := fun z => n1 (List.mem_append_left _ z)
      have nG : a ∉ Ag := fun z => n1 (List.mem_append_right _ z)
      obtain ⟨B1, B2, eB, c1, c2⟩ := RpL.inTwo i.toNat _ _ _ (rl.off (o' := .lst (ys.take i.toNat ++ [y] ++ ys.drop i.toNat)) hH ns nB)
      subst eB
      have hp : (B1 ++ Ag ++ B2).Perm (B1 ++ B2 ++ Ag) := by
        rw [List.append_assoc, List.append_assoc]
        exact (List.perm_append_comm (l₁ := Ag) (l₂ := B2)).append_left B1
      refine ⟨a, ys, i, y, rfl, rfl, hH, by rw [← RpL.length _ _ _ rl]; exact hz.1, hz.2.1, hz.2.2, k .non _ (B1 ++ Ag ++ B2) ?_ rfl ⟨rfl, rfl⟩ ((hp.cons a).nodup_iff.mpr nd) fun b hb => List.mem_append.mp (hp.mem_iff.mp hb)⟩
      exact new_lst (RpL.append _ _ _ _ _ _ (RpL.append _ _ _ _ _ _ c1 (RpL.one (r3.off hH ns nG))) c2)
    · cases ef
  · cases ef
end
end MI
/-! Mw: the rules in short, for derivations that a program prints. -/
namespace MI
open PySem PySem.Spec PyProof.Rows L2
section
variable {g : Gc} {X : Cx} {a b c e o : Expr} {es rest : List Expr} {fa fb fc : M T} {fs : M (List T)} {e1 e2 e3 b1 b2 b3 a1 a2 : List Nat} {pos p2 p3 py : Pos} {x y z : Str} {k : Nat}
/-! ### names -/
theorem nv (i : Nat) (hN : X.N[i]? = some x := by rfl) (hv : Vis X.env.scope x := by first | exact .inl rfl | exact .inr (.inl rfl) | exact .inr (.inr rfl)) (hd : (x == ("__debug__" : Str)) = false := by decide) (hcd : (x == ("__classdict__" : Str)) = false := by decide) : PE X (.Name x pos) (tVar i) := pe_var hN hv hd hcd
theorem v (i : Nat) (hN : X.N[i]? = some x := by rfl) (hv : Vis X.env.scope x := by first | exact .inl rfl | exact .inr (.inl rfl) | exact .inr (.inr rfl)) (hd : (x == ("__debug__" : Str)) = false := by decide) (hcd : (x == ("__classdict__" : Str)) = false := by decide) : PEm g X (.Name x pos) (mRd i) [] [i] := tm_rd (pe_var hN hv hd hcd)
theorem vi (i : Nat) (hN : X.N[i]? = some x := by rfl) (hv : Vis X.env.scope x := by first | exact .inl rfl | exact .inr (.inl rfl) | exact .inr (.inr rfl)) (hd : (x == ("__debug__" : Str)) = false := by decide) (hcd : (x == ("__classdict__" : Str)) = false := by decide) : PEm g X (.Name x pos) (mIm (mRd i)) [] [] := tm_im (tm_rd (pe_var hN hv hd hcd))
theorem vf (i : Nat) (hN : X.N[i]? = some x := by rfl) (hv : Vis X.env.scope x := by first | exact .inl rfl | exact .inr (.inl rfl) | exact .inr (.inr rfl)) (hd : (x == ("__debug__" : Str)) = false := by decide) (hcd : (x == ("__classdict__" : Str)) = false := by decide) : PEm g X (.Name x pos) (mFz i) [i] [] := tm_fz (pe_var hN hv hd hcd)
theorem vm (i : Nat) (hN : X.N[i]? = some x := by rfl) (hv : Vis X.env.scope x := by first | exact .inl rfl | exact .inr (.inl rfl) | exact .inr (.inr rfl)) (hd : (x == ("__debug__" : Str)) = false := by decide) (hcd : (x == ("__classdict__" : Str)) = false := by decide) : PEm g X (.Name x pos) (mMv i) [i] [] := tm_mv (pe_var hN hv hd hcd)
theorem hv (i : Nat) (hN : X.N[i]? = some x := by rfl) (hv : Vis X.env.scope x := by first | exact .inl rfl | exact .inr (.inl rfl) | exact .inr (.inr rfl)) (hd : (x == ("__debug__" : Str)) = false := by decide) (hcd : (x == ("__classdict__" : Str)) = false := by decide) : PLm g X (.Name x pos) (mHere i) [] i := pl_name (pe_var hN hv hd hcd)
theorem gI {i : Int} (h : ∃ t, X.mg x = some (.int i t)) (hg : Gl X x := by rfl) (hd : (x == ("__debug__" : Str)) = false := by decide) : PEm g X (.Name x pos) (mC (.int i)) [] [] := by
  obtain ⟨t, h⟩ := h
  exact tm_glob hg h (v := .int i) ⟨t, rfl⟩ (fun _ _ => ⟨rfl, rfl⟩) hd
theorem gS {i : Str} (h : ∃ t, X.mg x = some (.str i t)) (hg : Gl X x := by rfl) (hd : (x == ("__debug__" : Str)) = false := by decide) : PEm g X (.Name x pos) (mC (.str i)) [] [] := by
  obtain ⟨t, h⟩ := h
  exact tm_glob hg h (v := .str i) ⟨t, rfl⟩ (fun _ _ => ⟨rfl, rfl⟩) hd
/-! ### operators -/
def fAdd : T → T → Option T := oe2 (fII iAdd) (oe2 fAddS (oe2 fAddL fAddT))
def fMul : T → T → Option T := oe2 (fII iMul) (oe2 fMulL fMulT)
theorem x_add (ha : PEm g X a fa e1 b1) (hb : PEm g X b fb e2 b2) (hK : g.K = X.K := by rfl) (d : ∀ j ∈ b1, j ∉ e2 := by decide) : PEm g X (.BinOp a .Add b pos) (m2 fAdd fa fb) (e1 ++ e2) [] := tm_bin (op_add.or (op_add_str.or (op_cat.or op_catA))) (opt_iAdd.or (opt_addS.or (opt_addL.or (hK ▸ opt_addT)))) ha hb d
theorem x_mul (ha : PEm g X a fa e1 b1) (hb : PEm g X b fb e2 b2) (hK : g.K = X.K := by rfl) (d : ∀ j ∈ b1, j ∉ e2 := by decide) : PEm g X (.BinOp a .Mult b pos) (m2 fMul fa fb) (e1 ++ e2) [] := tm_bin (op_mulW.or (op_rep.or (op_repT.or op_repU))) (opt_iMul.or (opt_mulL.or (hK ▸ opt_mulT))) ha hb d
theorem x_sub (ha : PEm g X a fa e1 b1) (hb : PEm g X b fb e2 b2) (d : ∀ j ∈ b1, j ∉ e2 := by decide) : PEm g X (.BinOp a .Sub b pos) (m2 (fII iSub) fa fb) (e1 ++ e2) [] := tm_bin op_sub opt_iSub ha hb d
theorem x_div (ha : PEm g X a fa e1 b1) (hb : PEm g X b fb e2 b2) (d : ∀ j ∈ b1, j ∉ e2 := by decide) : PEm g X (.BinOp a .FloorDiv b pos) (m2 (fII iDiv) fa fb) (e1 ++ e2) [] := tm_bin op_fdivW opt_iDiv ha hb d
theorem x_mod (ha : PEm g X a fa e1 b1) (hb : PEm g X b fb e2 b2) (d : ∀ j ∈ b1, j ∉ e2 := by decide) : PEm g X (.BinOp a .Mod b pos) (m2 (fII iMod) fa fb) (e1 ++ e2) [] := tm_bin op_mod opt_iMod ha hb d
theorem x_pow (ha : PEm g X a fa e1 b1) (hb : PEm g X b fb e2 b2) (d : ∀ j ∈ b1, j ∉ e2 := by decide) : PEm g X (.BinOp a .Pow b pos) (m2 (fII iPow) fa fb) (e1 ++ e2) [] := tm_bin op_pow opt_iPow ha hb d
theorem x_shl (ha : PEm g X a fa e1 b1) (hb : PEm g X b fb e2 b2) (d : ∀ j ∈ b1, j ∉ e2 := by decide) : PEm g X (.BinOp a .LShift b pos) (m2 (fII iShl) fa fb) (e1 ++ e2) [] := tm_bin op_shl opt_iShl ha hb d
theorem x_xor (ha : PEm g X a fa e1 b1) (hb : PEm g X b fb e2 b2) (d : ∀ j ∈ b1, j ∉ e2 := by decide) : PEm g X (.BinOp a .BitXor b pos) (m2 (fII iXor) fa fb) (e1 ++ e2) [] := tm_bin op_xor opt_iXor ha hb d
theorem x_neg (ha : PEm g X a fa e1 b1) : PEm g X (.UnaryOp .USub a pos) (m1 fNeg fa) e1 [] := tm_un un_neg unt_neg ha
/-! ### comparisons: what the machine does, what the tree function does -/
def iLt (i j : Int) : Bool := decide (i < j)
def iLe (i j : Int) : Bool := decide (i ≤ j)
def iGt (i j : Int) : Bool := decide (j < i)
def iGe (i j : Int) : Bool := decide (j ≤ i)
def fLt : T → T → Option T := oe2 (fIB iLt) (fSB ltS)
def fLe : T → T → Option T := oe2 (fIB iLe) (fSB fun i j => !ltS j i)
def fGt : T → T → Option T := oe2 (fIB iGt) (fSB fun i j => ltS j i)
def fGe : T → T → Option T := oe2 (fIB iGe) (fSB fun i j => !ltS i j)
def fIn : T → T → Option T := oe2 (fInF false) (oe2 (fInD false) (oe2 (fInS false) (oe2 (fInK false) (fInE false))))
def fNotIn : T → T → Option T := oe2 (fInF true) (oe2 (fInD true) (oe2 (fInS true) (oe2 (fInK true) (fInE true))))
def fIs : T → T → Option T := oe2 (fIsN false) (fIsB false)
def fIsNot : T → T → Option T := oe2 (fIsN true) (fIsB true)
/-- an operator and its function on trees -/
structure Cm (g : Gc) (X : Cx) (op : CmpOp) (f : T → T → Option T) : Prop where
  ex : ∃ r : R2, OpR X (compareOp op) r ∧ OpT g r f
theorem cLt : Cm g X .Lt fLt := ⟨_, op_lt.or op_lt_str, (opt_fIB (h := iLt)).or (opt_fSB (h := ltS))⟩
theorem cLe : Cm g X .LtE fLe := ⟨_, op_le.or op_le_str, (opt_fIB (h := iLe)).or (opt_fSB (h := fun i j => !ltS j i))⟩
theorem cGt : Cm g X .Gt fGt := ⟨_, op_gt.or op_gt_str, (opt_fIB (h := iGt)).or (opt_fSB (h := fun i j => ltS j i))⟩
theorem cGe : Cm g X .GtE fGe := ⟨_, op_ge.or op_ge_str, (opt_fIB (h := iGe)).or (opt_fSB (h := fun i j => !ltS i j))⟩
theorem cEq (hr : Room k X.A) (hK : g.K = X.K := by rfl) : Cm g X .Eq fEq := ⟨_, op_eqD (by have := hr.un; omega), hK ▸ opt_eq⟩
theorem cNe (hr : Room k X.A) (hK : g.K = X.K := by rfl) : Cm g X .NotEq fNe := ⟨_, op_neD (by have := hr.un; omega), hK ▸ opt_ne⟩
theorem cIn (hr : Room k X.A) (hK : g.K = X.K := by rfl) : Cm g X .In fIn := ⟨_, op_in_seq.or ((op_inD (by have := hr.un; omega)).or (op_inS.or ((op_inK (by have := hr.un; omega)).or (op_inE (by have := hr.un; omega))))), OpT.or (hK ▸ opt_inF) (OpT.or (hK ▸ opt_inD) (OpT.or opt_inS (OpT.or opt_inK (hK ▸ opt_inE))))⟩
theorem cNotIn (hr : Room k X.A) (hK : g.K = X.K := by rfl) : Cm g X .NotIn fNotIn := ⟨_, op_notIn_seq.or ((op_notInD (by have := hr.un; omega)).or (op_notInS.or ((op_notInK (by have := hr.un; omega)).or (op_notInE (by have := hr.un; omega))))), OpT.or (hK ▸ opt_inF) (OpT.or (hK ▸ opt_notInD) (OpT.or opt_notInS (OpT.or opt_inK (hK ▸ opt_inE))))⟩
theorem cIs : Cm g X .Is fIs := ⟨_, op_isN1.or op_isBl, opt_isN.or opt_isB⟩
theorem cIsNot : Cm g X .IsNot fIsNot := ⟨_, op_notN1.or op_notBl, opt_notN.or opt_notB⟩
theorem x_cmp {op : CmpOp} {f : T → T → Option T} (h : Cm g X op f) (ha : PEm g X a fa e1 b1) (hb : PEm g X b fb e2 b2) (d : ∀ j ∈ b1, j ∉ e2 := by decide) (hm : behindInMarks op b = false := by rfl) : PEm g X (.Compare a [op] [b] pos) (m2 f fa fb) (e1 ++ e2) [] := by
  obtain ⟨r, h1, h2⟩ := h.ex
  exact tm_cmp h1 h2 ha hb d hm
theorem t_cmp {op : CmpOp} {f : T → T → Option T} (h : Cm g X op f) (ha : PEm g X a fa e1 b1) (hb : PEm g X b fb e2 b2) (d : ∀ j ∈ b1, j ∉ e2 := by decide) (hm : behindInMarks op b = false := by rfl) : PTm g X (.Compare a [op] [b] pos) (asB (m2 f fa fb)) (e1 ++ e2) := by
  obtain ⟨r, h1, h2⟩ := h.ex
  exact tmt_cmp h1 h2 ha hb d hm
theorem x_chain {op op' : CmpOp} {f f' : T → T → Option T} (h : Cm g X op f) (h' : Cm g X op' f') (ha : PEm g X a fa e1 b1) (hb : PEm g X b fb e2 b2) (hc : PEm g X c fc e3 b3) (d : ∀ j ∈ b1, j ∉ e2 := by decide) (d' : ∀ j ∈ b1 ++ b2, j ∉ e3 := by decide) (hm : lastMarks [op, op'] [b, c] = false := by with_unfolding_all rfl) : PEm g X (.Compare a [op, op'] [b, c] pos) (mChain f f' fa fb fc) (e1 ++ e2 ++ e3) [] := by
  obtain ⟨r, h1, h2⟩ := h.ex
  obtain ⟨r', h1', h2'⟩ := h'.ex
  exact tm_chain h1 h1' h2 h2' ha hb hc d d' hm
theorem t_chain {op op' : CmpOp} {f f' : T → T → Option T} (h : Cm g X op f) (h' : Cm g X op' f') (ha : PEm g X a fa e1 b1) (hb : PEm g X b fb e2 b2) (hc : PEm g X c fc e3 b3) (d : ∀ j ∈ b1, j ∉ e2 := by decide) (d' : ∀ j ∈ b1 ++ b2, j ∉ e3 := by decide) (hm : lastMarks [op, op'] [b, c] = false := by with_unfolding_all rfl) : PTm g X (.Compare a [op, op'] [b, c] pos) (asB (mChain f f' fa fb fc)) (e1 ++ e2 ++ e3) := by
  obtain ⟨r, h1, h2⟩ := h.ex
  obtain ⟨r', h1', h2'⟩ := h'.ex
  exact tmt_chain h1 h1' h2 h2' ha hb hc d d' hm
/-! ### built-ins -/
theorem b_len (hm : X.mg "len" = none) (ha : PAm g X (e :: es) fs e1 b1) (hK : g.K = X.K := by rfl) (hg : Gl X "len" := by rfl) (he : starEach (e :: es) X.env = (false, eval e X.env) :: starEach es X.env := by rfl) (hpl : (backTo pos (starEach es X.env)).any (·.1) = false := by rfl) : PEm g X (.Call (.Name "len" p2) (e :: es) [] pos) (mF (c1 fLen) fs) e1 [] := tm_callB call_len (hK ▸ ct_len) hg hm boot_len ha (by decide) (by decide) he hpl
theorem b_abs (hm : X.mg "abs" = none) (ha : PAm g X (e :: es) fs e1 b1) (hg : Gl X "abs" := by rfl) (he : starEach (e :: es) X.env = (false, eval e X.env) :: starEach es X.env := by rfl) (hpl : (backTo pos (starEach es X.env)).any (·.1) = false := by rfl) : PEm g X (.Call (.Name "abs" p2) (e :: es) [] pos) (mF (c1 fAbs) fs) e1 [] := tm_callB call_abs ct_abs hg hm boot_abs ha (by decide) (by decide) he hpl
theorem b_min (hc : X.calm = true) (hm : X.mg "min" = none) (ha : PAm g X (e :: es) fs e1 b1) (hg : Gl X "min" := by rfl) (he : starEach (e :: es) X.env = (false, eval e X.env) :: starEach es X.env := by rfl) (hpl : (backTo pos (starEach es X.env)).any (·.1) = false := by rfl) : PEm g X (.Call (.Name "min" p2) (e :: es) [] pos) (mF (c2 fMin) fs) e1 [] := tm_callB ((call_min2 hc).or (call_min2S hc)) ct_min hg hm boot_min ha (by decide) (by decide) he hpl
theorem b_max (hc : X.calm = true) (hm : X.mg "max" = none) (ha : PAm g X (e :: es) fs e1 b1) (hg : Gl X "max" := by rfl) (he : starEach (e :: es) X.env = (false, eval e X.env) :: starEach es X.env := by rfl) (hpl : (backTo pos (starEach es X.env)).any (·.1) = false := by rfl) : PEm g X (.Call (.Name "max" p2) (e :: es) [] pos) (mF (c2 fMax) fs) e1 [] := tm_callB ((call_max2 hc).or (call_max2S hc)) ct_max hg hm boot_max ha (by decide) (by decide) he hpl
theorem b_divmod (hm : X.mg "divmod" = none) (ha : PAm g X (e :: es) fs e1 b1) (hg : Gl X "divmod" := by rfl) (he : starEach (e :: es) X.env = (false, eval e X.env) :: starEach es X.env := by rfl) (hpl : (backTo pos (starEach es X.env)).any (·.1) = false := by rfl) : PEm g X (.Call (.Name "divmod" p2) (e :: es) [] pos) (mF (c2 fDivmod) fs) e1 [] := tm_callB call_divmod ct_divmod hg hm boot_divmod ha (by decide) (by decide) he hpl
theorem b_all (hc : X.calm = true) (hm : X.mg "all" = none) (ha : PAm g X (e :: es) fs e1 b1) (hK : g.K = X.K := by rfl) (hg : Gl X "all" := by rfl) (he : starEach (e :: es) X.env = (false, eval e X.env) :: starEach es X.env := by rfl) (hpl : (backTo pos (starEach es X.env)).any (·.1) = false := by rfl) : PEm g X (.Call (.Name "all" p2) (e :: es) [] pos) (mF (c1 (fBools fun bs => bs.all id)) fs) e1 [] := tm_callB (cr_all hc) (hK ▸ ct_bools) hg hm boot_all ha (by decide) (by decide) he hpl
theorem b_any (hc : X.calm = true) (hm : X.mg "any" = none) (ha : PAm g X (e :: es) fs e1 b1) (hK : g.K = X.K := by rfl) (hg : Gl X "any" := by rfl) (he : starEach (e :: es) X.env = (false, eval e X.env) :: starEach es X.env := by rfl) (hpl : (backTo pos (starEach es X.env)).any (·.1) = false := by rfl) : PEm g X (.Call (.Name "any" p2) (e :: es) [] pos) (mF (c1 (fBools fun bs => bs.any id)) fs) e1 [] := tm_callB (cr_any hc) (hK ▸ ct_bools) hg hm boot_any ha (by decide) (by decide) he hpl
theorem b_sum (hc : X.calm = true) (hm : X.mg "sum" = none) (ha : PAm g X (e :: es) fs e1 b1) (hK : g.K = X.K := by rfl) (hg : Gl X "sum" := by rfl) (he : starEach (e :: es) X.env = (false, eval e X.env) :: starEach es X.env := by rfl) (hpl : (backTo pos (starEach es X.env)).any (·.1) = false := by rfl) : PEm g X (.Call (.Name "sum" p2) (e :: es) [] pos) (mF (c1 fSum) fs) e1 [] := tm_callB (cr_sum hc) (hK ▸ ct_sum) hg hm boot_sum ha (by decide) (by decide) he hpl
theorem b_repr (hG : GA X.A) (hr : Room k X.A) (hm : X.mg "repr" = none) (ha : PAm g X (e :: es) fs e1 b1) (hK : g.K = X.K := by rfl) (hg : Gl X "repr" := by rfl) (he : starEach (e :: es) X.env = (false, eval e X.env) :: starEach es X.env := by rfl) (hpl : (backTo pos (starEach es X.env)).any (·.1) = false := by rfl) : PEm g X (.Call (.Name "repr" p2) (e :: es) [] pos) (mF (c1 fRepr) fs) e1 [] := tm_callB (call_reprD hG (by have := hr.un; omega)) (hK ▸ ct_repr) hg hm boot_repr ha (by decide) (by decide) he hpl
theorem b_int (hm : X.mg "int" = none) (ha : PAm g X (e :: es) fs e1 b1) (hg : Gl X "int" := by rfl) (he : starEach (e :: es) X.env = (false, eval e X.env) :: starEach es X.env := by rfl) (hpl : (backTo pos (starEach es X.env)).any (·.1) = false := by rfl) : PEm g X (.Call (.Name "int" p2) (e :: es) [] pos) (mF (c1 fInt) fs) e1 [] := tm_callTy call_int1 ct_int hg hm boot_int ha (by decide) (by decide) he hpl
def fListU (t : T) : Option T := match fList t with
  | some r => some r
  | none => fListK t
theorem ct_listU : CallT g (fun vs H Q => (∃ p ys, vs = [.ref p] ∧ (SqL g.K H p ys ∨ SqT g.K H p ys) ∧ ∀ l, H l = none → Q (.ref l) (upd H l (.lst ys))) ∨ (∃ (a : Addr) (kvs : List (Key × V)), vs = [.ref a] ∧ Rd H a (.dK kvs) ∧ ∀ p, H p = none → Q (.ref p) (upd H p (.lst (kvs.map fun kv => kV kv.1))))) (c1 fListU) := fun S H ts xs Ax t Q r e k => by
  unfold c1 at e
  split at e
  · rename_i u
    unfold fListU at e
    split at e
    · rename_i r' h
      injection e with e; subst e
      exact .inl (ct_list S H [u] xs Ax r' Q r h k)
    · exact .inr (ct_listK S H [u] xs Ax t Q r e k)
  · cases e
theorem b_list (hc : X.calm = true) (hm : X.mg "list" = none) (ha : PAm g X (e :: es) fs e1 b1) (hK : g.K = X.K := by rfl) (hg : Gl X "list" := by rfl) (he : starEach (e :: es) X.env = (false, eval e X.env) :: starEach es X.env := by rfl) (hpl : (backTo pos (starEach es X.env)).any (·.1) = false := by rfl) : PEm g X (.Call (.Name "list" p2) (e :: es) [] pos) (mF (c1 fListU) fs) e1 [] := tm_callTy (CallR.or call_list_of (call_listD hc)) (hK ▸ ct_listU) hg hm boot_list ha (by decide) (by decide) he hpl
theorem b_tuple (hm : X.mg "tuple" = none) (ha : PAm g X (e :: es) fs e1 b1) (hK : g.K = X.K := by rfl) (hg : Gl X "tuple" := by rfl) (he : starEach (e :: es) X.env = (false, eval e X.env) :: starEach es X.env := by rfl) (hpl : (backTo pos (starEach es X.env)).any (·.1) = false := by rfl) : PEm g X (.Call (.Name "tuple" p2) (e :: es) [] pos) (mF (c1 fTuple) fs) e1 [] := tm_callTy call_tuple_of (hK ▸ ct_tuple) hg hm boot_tuple ha (by decide) (by decide) he hpl
theorem b_is (c : Bt) (hm : X.mg "isinstance" = none) (hmc : X.mg x = none) (ha : PEm g X a fa e1 b1) (hv : bootBuiltins x = some (.type c.nm) := by rfl) (hK : g.K = X.K := by rfl) (hg : Gl X "isinstance" := by rfl) (hgc : Gl X x := by rfl) (hn : x ≠ "__name__" := by decide) (hdb : (x == ("__debug__" : Str)) = false := by decide)
    (he : starEach [a, .Name x p3] X.env = (false, eval a X.env) :: starEach [.Name x p3] X.env := by rfl) (he2 : starEach [.Name x p3] X.env = (false, eval (.Name x p3) X.env) :: starEach [] X.env := by rfl) (hpl : (backTo pos (starEach [.Name x p3] X.env)).any (·.1) = false := by rfl) : PEm g X (.Call (.Name "isinstance" p2) [a, .Name x p3] [] pos) (m1 (isB c) fa) e1 [] := tm_isB hg hm hgc hmc hv hK ha hn hdb he he2 hpl
/-! ### places and parts -/
def fIx : T → T → Option T := oe2 fIxS (oe2 fIxT fIxK)
theorem x_ix (hr : Room k X.A) (ha : PEm g X a fa e1 b1) (hb : PEm g X b fb e2 b2) (hK : g.K = X.K := by rfl) (d : ∀ j ∈ b1, j ∉ e2 := by decide) (hs : PlainIx b := by exact fun _ _ => rfl) : PEm g X (.Subscript a b pos) (m2 fIx fa fb) (e1 ++ e2) b1 := tm_ix (ixr_seq.or (ix_str.or (ix_dct (by have := hr.un; omega)))) (OpP.or (hK ▸ opp_ix) (OpP.or opp_ixs opp_ixK)) ha hb d hs
theorem x_cut {lo hi : Option Expr} {fl fh : M (Option Int)} (ha : PEm g X a fa e1 b1) (hl : POm g X lo fl e2) (hh : POm g X hi fh e3) (hK : g.K = X.K := by rfl) (d : ∀ j ∈ b1, j ∉ e2 ++ e3 := by decide) : PEm g X (.Subscript a (.Slice lo hi none p2) pos) (mSl fCut fa fl fh) (e1 ++ (e2 ++ e3)) [] := tm_slice sl_cut (hK ▸ slt_cut) ha hl hh d
/-! ### statements -/
theorem gN (i : Nat) (hN : X.N.Nodup) (hi : X.N[i]? = some x := by rfl) (hx : Loc X.env.scope x := by first | exact .inl rfl | exact .inr rfl) (hf : X.fn x = true ∨ X.env.scope.names.lookup x = some .local := by first | exact .inl rfl | exact .inr rfl) : PGm g X (.Name x pos) (mPut i) [i] := tg_name (pg_name hN hi hx hf)
theorem s_set (i : Nat) (ha : PEm g X e fa e1 []) (hN : X.N.Nodup) (hi : X.N[i]? = some x := by rfl) (hx : Loc X.env.scope x := by first | exact .inl rfl | exact .inr rfl) (hf : X.fn x = true ∨ X.env.scope.names.lookup x = some .local := by first | exact .inl rfl | exact .inr rfl)
    (hs : swapsWithSole [.Name x p2] e pos.line X.env = pure false := by rfl) (hw : swappedStores [.Name x p2] e X.env = pure none := by rfl) (h1 : (assignEach [.Name x p2] X.env).map (·.2) = [assign (.Name x p2) X.env] := by rfl) : PSm g X (.Assign [.Name x p2] e pos) (mSet i fa) [i] (e1 ++ [i]) := ts_asg ha (gN i hN hi hx hf) hs hw h1
theorem s_par (i j : Nat) {kt k2 : Nat} {px pt pt2 : Pos} (hc : X.calm = true) (ha : PAm g X [a, b] fs e1 []) (hN : X.N.Nodup) (hi : X.N[i]? = some x := by rfl) (hj : X.N[j]? = some y := by rfl) (hij : i ≠ j := by decide) (hx : X.env.scope.names.lookup x = some .local := by rfl) (hy : X.env.scope.names.lookup y = some .local := by rfl)
    (hw : swappedStores [.Tuple [.Name x px, .Name y py] kt pt] (.Tuple [a, b] k2 pt2) X.env = pure (some [x, y]) := by rfl) (hs : swapsWithSole [.Tuple [.Name x px, .Name y py] kt pt] (.Tuple [a, b] k2 pt2) pos.line X.env = pure false := by rfl) : PSm g X (.Assign [.Tuple [.Name x px, .Name y py] kt pt] (.Tuple [a, b] k2 pt2) pos) (mPar i j fs) [i, j] (e1 ++ [i, j]) := ts_par (ps_par hc hN hi hj hij hx hy ha hw hs)
theorem s_par3 (i j l : Nat) {kt k2 : Nat} {px pz pt pt2 : Pos} (hc : X.calm = true) (ha : PAm g X [a, b, c] fs e1 []) (hN : X.N.Nodup) (hi : X.N[i]? = some x := by rfl) (hj : X.N[j]? = some y := by rfl) (hl : X.N[l]? = some z := by rfl) (hij : i ≠ j := by decide) (hil : i ≠ l := by decide) (hjl : j ≠ l := by decide) (hx : X.env.scope.names.lookup x = some .local := by rfl) (hy : X.env.scope.names.lookup y = some .local := by rfl) (hz : X.env.scope.names.lookup z = some .local := by rfl)
    (hw : swappedStores [.Tuple [.Name x px, .Name y py, .Name z pz] kt pt] (.Tuple [a, b, c] k2 pt2) X.env = pure (some [x, y, z]) := by rfl) (hs : swapsWithSole [.Tuple [.Name x px, .Name y py, .Name z pz] kt pt] (.Tuple [a, b, c] k2 pt2) pos.line X.env = pure false := by rfl) : PSm g X (.Assign [.Tuple [.Name x px, .Name y py, .Name z pz] kt pt] (.Tuple [a, b, c] k2 pt2) pos) (mPar3 i j l fs) [i, j, l] (e1 ++ [i, j, l]) := ts_par3 (ps_par3 hc hN hi hj hl hij hil hjl hx hy hz ha hw hs)
theorem s_addTo (i : Nat) (ha : PEm g X e fa e1 b1) (hN : X.N.Nodup) (hi : X.N[i]? = some x := by rfl) (hx : Loc X.env.scope x := by first | exact .inl rfl | exact .inr rfl) (hf : X.fn x = true ∨ X.env.scope.names.lookup x = some .local := by first | exact .inl rfl | exact .inr rfl) (d : i ∉ e1 := by decide) : PSm g X (.AugAssign (.Name x p2) .Add e pos) (mAug i (fII iAdd) fa) [i] (e1 ++ [i]) := ts_augAdd (ps_aug hN hi hx ha ip_add hf) d
theorem s_xorTo (i : Nat) (ha : PEm g X e fa e1 b1) (hN : X.N.Nodup) (hi : X.N[i]? = some x := by rfl) (hx : Loc X.env.scope x := by first | exact .inl rfl | exact .inr rfl) (hf : X.fn x = true ∨ X.env.scope.names.lookup x = some .local := by first | exact .inl rfl | exact .inr rfl) (d : i ∉ e1 := by decide) : PSm g X (.AugAssign (.Name x p2) .BitXor e pos) (mAug i (fII iXor) fa) [i] (e1 ++ [i]) := ts_augXor (ps_aug hN hi hx ha ip_xor hf) d
/-! ### a, b, .. = a tuple or a list; walking a list, a tuple or a text -/
theorem PG.or {tg : Expr} {t t' : TG} (h : PG X tg t) (h' : PG X tg t') : PG X tg (fun w σ H Q => t w σ H Q ∨ t' w σ H Q) := ⟨fun pins s σ H w u Q I r q => q.elim (h.run pins s σ H w u Q I r) (h'.run pins s σ H w u Q I r)⟩
def mUn (n : Nat) (ms : List T → M Unit) (t : T) : M Unit := match t with
  | .nd .tup ts => if ts.length = n then ms ts else fun _ => none
  | .nd (.lst _) ts => if ts.length = n then ms ts else fun _ => none
  | _ => fun _ => none
theorem tg_un {tgs : List Expr} {ms : List T → M Unit} {n k : Nat} (hK : g.K = X.K) (hc : X.calm = true) (h : PGsm g X tgs ms a1) (hn : (assignEach tgs X.env).length = n := by rfl) (hst : (assignEach tgs X.env).findIdx? (·.1) = none := by rfl) : PGm g X (.Tuple tgs k pos) (mUn n ms) a1 :=
  PG.imp (PG.or (tg_tup (k := k) (pos := pos) hK hc h hn hst) (tg_unl hK hc h hn hst)) fun w σ H Q ⟨S, Ts, A, t, Av, Ts', R, r, nd, dj, q, kk⟩ => by
    unfold mUn at q
    split at q
    · exact .inl ⟨S, Ts, A, _, Av, Ts', R, r, nd, dj, q, kk⟩
    · exact .inr ⟨S, Ts, A, _, Av, Ts', R, r, nd, dj, q, kk⟩
    · cases q
def mItA (fa : M T) : M (List T) := bnd fa fun t => match t with
  | .str x => lft (if x.length ≤ sizeLine then some (signsT x) else none)
  | t => lft (kidsI t)
theorem it_any {tg : Expr} (hK : g.K = X.K) (ha : PEm g X e fa e1 b1) : PIm g X tg e (mItA fa) e1 b1 := PI.imp (PI.or (it_seq (tg := tg) hK ha) (it_str (tg := tg) ha)) fun σ H Rr ⟨S, Ts, A, items, Ts', R, q, k⟩ => by
  obtain ⟨t, Ts1, q1, q2⟩ := bnd_some q
  have left : (∀ z, t ≠ .str z) → TIm g (mIter fa) e1 b1 σ H Rr := fun hn => by
    refine ⟨S, Ts, A, items, Ts', R, ?_, k⟩
    unfold mIter bnd
    rw [q1]
    cases t with
    | str z => exact absurd rfl (hn z)
    | _ => exact q2
  cases t with
  | str z =>
    right
    have q2 : lft (if z.length ≤ sizeLine then some (signsT z) else none) Ts1 = some (items, Ts') := q2
    obtain ⟨q3, q4⟩ := lft_some q2
    split at q3
    · refine ⟨S, Ts, A, items, Ts', R, ?_, fun J H1 S1 A1 R1 it p s => k J H1 S1 A1 R1 ?_ p s⟩
      · unfold mSigns bnd
        rw [q1, q4]
        show lft (some (signsT z)) Ts1 = _
        rw [q3]; rfl
      · obtain ⟨ts, xs, Ax, r, o, w⟩ := it
        exact ⟨ts, xs, Ax, r, o.mono (fun i h => nomatch h) (fun _ => rfl), w⟩
    · cases q3
  | _ => exact .inl (left fun z h => nomatch h)
/-! ### methods of lists -/
section
variable {mp : M (List Nat)} {i : Nat}
theorem l_append (ho : PLm g X o mp e1 i) (ha : PEm g X e fa e2 []) (d : i ∉ e2 := by decide) (hK : g.K = X.K := by rfl) (hbase : attributeBase o "append" X.env (eval o X.env) = eval o X.env := by rfl)
    (hfew : ((backTo pos (starEach [e] X.env)).all (fun x => !x.1) && (backToKw pos (keywordEach [] X.env)).all (fun x => x.1.isSome) && decide ([e].length + ([] : List Keyword).length + (if ([] : List Keyword).isEmpty then 0 else 1) < 30)) = true := by rfl)
    (hline : (p2.endLine == pos.line) = true := by rfl) (hs : starEach [e] X.env = (false, eval e X.env) :: starEach [] X.env := by rfl) (hplain : (backTo pos (starEach [] X.env)).any (·.1) = false := by rfl) : PEm g X (.Call (.Attribute o "append" p2) [e] [] pos) (mMut i mp isLst (mCons fa mNil) fAppend) ((e1 ++ (e2 ++ [])) ++ [i]) [] :=
  tm_mutL hK PySem.F.slot_list_append PySem.F.type_list_append mt_append mut_append ho (tms_cons ha tms_nil (by intro j hj; exact nomatch hj) hs) (by simpa using d) hbase hfew hline hs hplain
theorem l_extend (ho : PLm g X o mp e1 i) (ha : PEm g X e fa e2 []) (d : i ∉ e2 := by decide) (hK : g.K = X.K := by rfl) (hbase : attributeBase o "extend" X.env (eval o X.env) = eval o X.env := by rfl)
    (hfew : ((backTo pos (starEach [e] X.env)).all (fun x => !x.1) && (backToKw pos (keywordEach [] X.env)).all (fun x => x.1.isSome) && decide ([e].length + ([] : List Keyword).length + (if ([] : List Keyword).isEmpty then 0 else 1) < 30)) = true := by rfl)
    (hline : (p2.endLine == pos.line) = true := by rfl) (hs : starEach [e] X.env = (false, eval e X.env) :: starEach [] X.env := by rfl) (hplain : (backTo pos (starEach [] X.env)).any (·.1) = false := by rfl) : PEm g X (.Call (.Attribute o "extend" p2) [e] [] pos) (mMut i mp isLst (mCons fa mNil) fExtend) ((e1 ++ (e2 ++ [])) ++ [i]) [] :=
  tm_mutL hK PySem.F.slot_list_extend PySem.F.type_list_extend (MtR.or mt_extend mt_extT) (by rw [← hK]; exact mut_extend) ho (tms_cons ha tms_nil (by intro j hj; exact nomatch hj) hs) (by simpa using d) hbase hfew hline hs hplain
end
section
variable {mp : M (List Nat)} {i : Nat}
theorem l_remove (ho : PLm g X o mp e1 i) (ha : PEm g X e fa e2 []) (d : i ∉ e2 := by decide) (hK : g.K = X.K := by rfl) (hbase : attributeBase o "remove" X.env (eval o X.env) = eval o X.env := by rfl)
    (hfew : ((backTo pos (starEach [e] X.env)).all (fun x => !x.1) && (backToKw pos (keywordEach [] X.env)).all (fun x => x.1.isSome) && decide ([e].length + ([] : List Keyword).length + (if ([] : List Keyword).isEmpty then 0 else 1) < 30)) = true := by rfl)
    (hline : (p2.endLine == pos.line) = true := by rfl) (hs : starEach [e] X.env = (false, eval e X.env) :: starEach [] X.env := by rfl) (hplain : (backTo pos (starEach [] X.env)).any (·.1) = false := by rfl) : PEm g X (.Call (.Attribute o "remove" p2) [e] [] pos) (mMut i mp isLst (mCons fa mNil) fRemI) ((e1 ++ (e2 ++ [])) ++ [i]) [] :=
  tm_mutL hK PySem.F.slot_list_remove PySem.F.type_list_remove mt_remove mut_remI ho (tms_cons ha tms_nil (by intro j hj; exact nomatch hj) hs) (by simpa using d) hbase hfew hline hs hplain
theorem l_insert {f : Expr} (ho : PLm g X o mp e1 i) (ha : PEm g X e fa e2 []) (hb : PEm g X f fb e3 []) (d : i ∉ e2 ++ (e3 ++ []) := by decide) (hK : g.K = X.K := by rfl) (hbase : attributeBase o "insert" X.env (eval o X.env) = eval o X.env := by rfl)
    (hfew : ((backTo pos (starEach [e, f] X.env)).all (fun x => !x.1) && (backToKw pos (keywordEach [] X.env)).all (fun x => x.1.isSome) && decide (([e, f] : List Expr).length + ([] : List Keyword).length + (if ([] : List Keyword).isEmpty then 0 else 1) < 30)) = true := by rfl)
    (hline : (p2.endLine == pos.line) = true := by rfl) (hs : starEach [e, f] X.env = (false, eval e X.env) :: starEach [f] X.env := by rfl) (hs2 : starEach [f] X.env = (false, eval f X.env) :: starEach [] X.env := by rfl) (hplain : (backTo pos (starEach [f] X.env)).any (·.1) = false := by rfl) : PEm g X (.Call (.Attribute o "insert" p2) [e, f] [] pos) (mMut i mp isLst (mCons fa (mCons fb mNil)) fInsert) ((e1 ++ (e2 ++ (e3 ++ []))) ++ [i]) [] :=
  tm_mutL hK PySem.F.slot_list_insert PySem.F.type_list_insert mt_insert mut_insert ho (tms_cons ha (tms_cons hb tms_nil (by intro j hj; exact nomatch hj) hs2) (by intro j hj; exact nomatch hj) hs) d hbase hfew hline hs hplain
theorem l_popAt (ho : PLm g X o mp e1 i) (ha : PEm g X e fa e2 []) (d : i ∉ e2 := by decide) (hK : g.K = X.K := by rfl) (hbase : attributeBase o "pop" X.env (eval o X.env) = eval o X.env := by rfl)
    (hfew : ((backTo pos (starEach [e] X.env)).all (fun x => !x.1) && (backToKw pos (keywordEach [] X.env)).all (fun x => x.1.isSome) && decide ([e].length + ([] : List Keyword).length + (if ([] : List Keyword).isEmpty then 0 else 1) < 30)) = true := by rfl)
    (hline : (p2.endLine == pos.line) = true := by rfl) (hs : starEach [e] X.env = (false, eval e X.env) :: starEach [] X.env := by rfl) (hplain : (backTo pos (starEach [] X.env)).any (·.1) = false := by rfl) : PEm g X (.Call (.Attribute o "pop" p2) [e] [] pos) (mMut i mp isLst (mCons fa mNil) fPopAt) ((e1 ++ (e2 ++ [])) ++ [i]) [] :=
  tm_mutL hK PySem.F.slot_list_pop PySem.F.type_list_pop mt_popAt mut_popAt ho (tms_cons ha tms_nil (by intro j hj; exact nomatch hj) hs) (by simpa using d) hbase hfew hline hs hplain
theorem l_pop (ho : PLm g X o mp e1 i) (hK : g.K = X.K := by rfl) (hbase : attributeBase o "pop" X.env (eval o X.env) = eval o X.env := by rfl) (hline : (p2.endLine == pos.line) = true := by rfl) : PEm g X (.Call (.Attribute o "pop" p2) [] [] pos) (mMut i mp isLst mNil fPop) (e1 ++ [i]) [] :=
  tm_mutL0 hK PySem.F.slot_list_pop PySem.F.type_list_pop mt_pop mut_pop ho hbase hline
theorem d_get2 {f : Expr} (hr : Room k X.A) (ho : PEm g X o fa e1 b1) (he : PEm g X e fb e2 b2) (hf : PEm g X f fc e3 b3) (d : ∀ j ∈ b1, j ∉ e2 := by decide) (d2 : ∀ j ∈ b1 ++ b2, j ∉ e3 := by decide) (hbase : attributeBase o "get" X.env (eval o X.env) = eval o X.env := by rfl)
    (hfew : ((backTo pos (starEach [e, f] X.env)).all (fun x => !x.1) && (backToKw pos (keywordEach [] X.env)).all (fun x => x.1.isSome) && decide (([e, f] : List Expr).length + ([] : List Keyword).length + (if ([] : List Keyword).isEmpty then 0 else 1) < 30)) = true := by rfl) (hline : (p2.endLine == pos.line) = true := by rfl) (htr : backTo pos (starEach [e, f] X.env) = [(false, eval e X.env), (false, eval f X.env)] := by rfl) :
    PEm g X (.Call (.Attribute o "get" p2) [e, f] [] pos) (mGet2 fa fb fc) (e1 ++ e2 ++ e3) [] := x_get2 hr ho he hf ⟨hbase, hfew, hline, htr⟩ d d2
end
theorem b_dict (hm : X.mg "dict" = none) (ha : PAm g X (e :: es) fs e1 b1) (hK : g.K = X.K := by rfl) (hg : Gl X "dict" := by rfl) (he : starEach (e :: es) X.env = (false, eval e X.env) :: starEach es X.env := by rfl) (hpl : (backTo pos (starEach es X.env)).any (·.1) = false := by rfl) : PEm g X (.Call (.Name "dict" p2) (e :: es) [] pos) (mF (c1 fDictK) fs) e1 [] := tm_callTy call_dictD ct_dictK hg hm PyProof.Rows.boot_dict ha (by decide) (by decide) he hpl
/-! ### comprehensions -/
def blkB (N : List Str) (sc scope : Scope) (own : List (Str × Nat)) : Bool :=
  decide (scope.kind = .function) && (scope.names.all (fun y => decide (scope.names.lookup y.1 = some y.2)) && (own.all (fun p => decide (N[p.2]? = some p.1)) &&
    (scope.names.all (fun y => if y.2 = .free then (decide (sc.names.lookup y.1 = some .cell) || decide (sc.names.lookup y.1 = some .free)) else true) && scope.names.all (fun y => if y.2 = .local ∨ y.2 = .cell then (own.any (fun p => decide (p.1 = y.1)) || !(N.any fun n => decide (n = y.1))) else true))))
theorem blk_of {N : List Str} {sc scope : Scope} {own : List (Str × Nat)} (h : blkB N sc scope own = true) : BlkOk N sc scope own := by
  unfold blkB at h
  simp only [Bool.and_eq_true, decide_eq_true_eq, List.all_eq_true] at h
  obtain ⟨h1, h2, h3, h4, h5⟩ := h
  refine ⟨h1, h2, h3, fun y hy e => ?_, fun y hy e => ?_⟩
  · have := h4 y hy
    rw [if_pos e, Bool.or_eq_true, decide_eq_true_eq, decide_eq_true_eq] at this
    exact this
  · have := h5 y hy
    rw [if_pos e, Bool.or_eq_true] at this
    rcases this with h | h
    · left
      obtain ⟨p, hp, he⟩ := List.any_eq_true.mp h
      exact List.mem_map.mpr ⟨p, hp, of_decide_eq_true he⟩
    · right
      intro hm
      have : N.any (fun n => decide (n = y.1)) = true := List.any_eq_true.mpr ⟨y.1, hm, decide_eq_true rfl⟩
      rw [this] at h
      cases h
section
variable {tg iter elt tg1 iter1 : Expr} {ifs ifs1 : List Expr} {mi mi1 : M (List T)} {m m1' : T → M Unit} {tt : M Bool} {te : M T} {e4 : List Nat} {scope : Scope} {spos : Pos}
theorem x_lc (own : List (Str × Nat)) (hc : X.calm = true) (hN : X.N.Nodup) (ok : BlkOk X.N X.env.scope scope own) (hi : PIm g X tg iter mi e1 b1)
    (hg : ∀ (s : Shared) (H : Hp) (C : Addr) (cl : List (Str × Addr)) (fp : List Addr), PGm g (X.blk s H scope (compEnvC scope cl C X.env) fp) tg m a1) (ht : ∀ (s : Shared) (H : Hp) (C : Addr) (cl : List (Str × Addr)) (fp : List Addr), PTsm g (X.blk s H scope (compEnvC scope cl C X.env) fp) ifs tt e2)
    (he : ∀ (s : Shared) (H : Hp) (C : Addr) (cl : List (Str × Addr)) (fp : List Addr), PEm g (X.blk s H scope (compEnvC scope cl C X.env) fp) elt te e3 [])
    (d : ∀ j ∈ b1, j ∉ a1 ++ (e2 ++ e3) := by decide) (dv : ∀ j ∈ a1, j ∈ own.map (·.2) := by decide) (dh : ∀ j ∈ own.map (·.2), j ∉ e2 ++ e3 := by decide) (hs : ∀ x, foldedSetIterable iter X.env x = pure x := by intro _; rfl) :
    PEm g X (.ListComp elt [⟨tg, iter, ifs, 0⟩] scope pos) (mLc mi m tt te (own.map (·.2))) (e1 ++ (e2 ++ e3)) [] := tm_lc hc hN hi ok hg ht he d dv dh hs
theorem s_setLc (i : Nat) (own : List (Str × Nat)) (hc : X.calm = true) (hN : X.N.Nodup) (ok : BlkOk X.N X.env.scope scope own) (hi : PIm g X tg iter mi e1 b1)
    (hg : ∀ (s : Shared) (H : Hp) (C : Addr) (cl : List (Str × Addr)) (fp : List Addr), PGm g (X.blk s H scope (compEnvC scope cl C X.env) fp) tg m a1) (ht : ∀ (s : Shared) (H : Hp) (C : Addr) (cl : List (Str × Addr)) (fp : List Addr), PTsm g (X.blk s H scope (compEnvC scope cl C X.env) fp) ifs tt e2)
    (he : ∀ (s : Shared) (H : Hp) (C : Addr) (cl : List (Str × Addr)) (fp : List Addr), PEm g (X.blk s H scope (compEnvC scope cl C X.env) fp) elt te e3 []) (hy : X.N[i]? = some y := by rfl) (hyl : X.env.scope.names.lookup y = some .local := by rfl)
    (hsw : swapsWith (.ListComp elt [⟨tg, iter, ifs, 0⟩] scope pos) (some (.Name y py)) spos.line X.env = pure true := by rfl)
    (d : ∀ j ∈ b1, j ∉ a1 ++ (e2 ++ e3) := by decide) (dv : ∀ j ∈ a1, j ∈ own.map (·.2) := by decide) (dh : ∀ j ∈ own.map (·.2), j ∉ e2 ++ e3 := by decide) (hs : ∀ x, foldedSetIterable iter X.env x = pure x := by intro _; rfl) :
    PSm g X (.Assign [.Name y py] (.ListComp elt [⟨tg, iter, ifs, 0⟩] scope pos) spos) (mSet i (mLc mi m tt te (own.map (·.2)))) [i] ((e1 ++ (e2 ++ e3)) ++ [i]) := ts_setLc hc hN hy hyl hsw hi ok hg ht he d dv dh hs
end
theorem passNox {X : Cx} : PassesOwn (model X.nox.prog X.nox.w) X.nox.A X.nox.env X.nox.xe := fun _ _ h => h.elim
end
end MI
/-! Mx: a new thing handed to a def that changes it. -/
namespace MI
open PySem PySem.Spec PyProof.Rows L2
section
variable {g : Gc} {X : Cx} {k : Nat} {f : Addr} {fd : FuncData} {ps : List Str} {x : Str} {p pos : Pos} {e : Expr} {fa : M T} {e1 : List Nat} {c : Cal}
def mGive (c : Cal) (fa : M T) : M T := bnd fa fun t => bnd (lft (c [t])) fun p => ret p.1
theorem tm_give (F : FnG X.prog X.w X.K X.mg X.base CX0 k f fd ps (spT g [0] c)) (hG : GA X.A) (hr : Room k X.A) (hg : Gl X x) (hm : X.mg x = some (.ref f)) (hk : PySem.W.keepIn X.K (.ref f) = true) (hb : Binds X.K fd ps []) (ha : PEm g X e fa e1 [])
    (hdb : (x == ("__debug__" : Str)) = false := by decide) (he : starEach [e] X.env = (false, eval e X.env) :: starEach [] X.env := by rfl) (hpl : (backTo pos (starEach [] X.env)).any (·.1) = false := by rfl) :
    PEm g X (.Call (.Name x p) [e] [] pos) (mGive c fa) e1 [] := PE.imp (pe_callG F hG hr hg hm hk hb (E := E0) pass0 (pa_cons ha pa_nil he) hdb he hpl) fun σ H Q h => by
  obtain ⟨S, Ts, A, r, Ts', R, q, kk⟩ := h
  obtain ⟨t, Ts1, q1, q2⟩ := bnd_some q
  obtain ⟨⟨r', outs⟩, Ts2, q3, q4⟩ := bnd_some q2
  obtain ⟨q5, e5⟩ := lft_some q3
  subst e5
  obtain ⟨h1, h2⟩ := ret_some q4
  have h1 : r' = r := h1
  subst h1; subst h2
  refine ⟨S, Ts, A, t, _, R, q1, fun x' H1 S1 A1 Ax R1 rx o p s => ?_⟩
  show spT g [0] c ([x'] ++ []) H1 Q E0
  refine ⟨S1, [t], Ax, r', outs, RpL.one rx, o.nd rfl, o.ns, R1.st, q5, fun y H' S' Ar Ao ry ro nd ns st pf => ?_⟩
  have pf' : PoF (fun a => S1 a ∨ a ∈ ([] : List Addr)) H1 Ax S' H' ([] ++ Ar) := ⟨pf.keep, fun a h => h.elim (pf.sub a) fun z => (nomatch z), fun a h => (pf.snew a h).elim (fun z => .inl (.inl z)) .inr, fun a h => pf.anew a (List.mem_append_right _ h)⟩
  exact call_post (ln := []) (outs := []) (zs := []) (Ao := []) (Ab := []) (b1 := []) (S2 := S') (Ts2 := Ts2) R R1 (Rp.cells _ _ _ rx) o Ow.nil p s pf' (fun _ h => h) (fun a h => pf.sub a h) (fun _ _ z => nomatch z) ry ⟨rfl, rfl⟩ (List.nodup_append.mp nd).2.1 (fun a ha => ns a (List.mem_append_right _ ha)) st (fun k s e => by simp at e) rfl (fun s hs => by simp at hs) kk
end
section
variable {g : Gc} {X : Cx} {a b : Expr} {fa fb : M T} {e1 e2 b1 b2 : List Nat} {p p2 pos pos2 : Pos}
def fRngL2 (a b : T) : Option T := match a, b with
  | .int i, .int j => if -1000000 ≤ i ∧ i ≤ 1000000 ∧ -1000000 ≤ j ∧ j ≤ 1000000 then some (.nd (.lst true) (rangeT i j)) else none
  | _, _ => none
def fRngL1 (a : T) : Option T := fRngL2 (.int 0) a
theorem rg_rep {S : Addr → Prop} {H : Hp} {i j : Int} : RpL g S H (rangeT i j) (rgV i j) [] := by
  have key : ∀ (l : List Nat), RpL g S H (l.map fun (n : Nat) => T.int (i + (n : Nat))) (l.map fun (n : Nat) => V.int (i + (n : Nat))) [] := fun l => by
    induction l with
    | nil => exact ⟨rfl, rfl⟩
    | cons n l ih => exact ⟨_, _, [], [], rfl, rfl, ⟨rfl, rfl⟩, ih⟩
  exact key _
theorem rgok {i j : Int} (h : -1000000 ≤ i ∧ i ≤ 1000000 ∧ -1000000 ≤ j ∧ j ≤ 1000000) : RgOk i j := by
  unfold RgOk
  have := sizeLine_eq
  omega
theorem b_listRng2 (hl : X.mg "list" = none) (hr : X.mg "range" = none) (hc : X.calm = true) (ha : PEm g X a fa e1 b1) (hb : PEm g X b fb e2 b2) (d : ∀ j ∈ b1, j ∉ e2 := by decide) (hgl : Gl X "list" := by rfl) (hgr : Gl X "range" := by rfl) (na : starEach [a, b] X.env = (false, eval a X.env) :: starEach [b] X.env := by rfl)
    (nb : starEach [b] X.env = (false, eval b X.env) :: starEach [] X.env := by rfl) (hp : (backTo pos (starEach [b] X.env)).any (·.1) = false := by rfl) (nc : starEach [.Call (.Name "range" p) [a, b] [] pos] X.env = (false, eval (.Call (.Name "range" p) [a, b] [] pos) X.env) :: starEach [] X.env := by rfl) :
    PEm g X (.Call (.Name "list" p2) [.Call (.Name "range" p) [a, b] [] pos] [] pos2) (m2 fRngL2 fa fb) (e1 ++ e2) [] := PE.imp (pe_listRg hc hgl hl (prg_2 hgr hr ha hb na nb hp) nc) fun σ H Q h => by
  obtain ⟨S, Ts, A, t, Ts', R, q0, k⟩ := h
  obtain ⟨ta, Ts1, ea, q1⟩ := bnd_some q0
  obtain ⟨tb, Ts2, eb, q2⟩ := bnd_some q1
  obtain ⟨ef, eT⟩ := lft_some q2
  subst eT
  refine tm_two (bo2 := b2) d R ea eb fun x y H' S' A' Ax Ay R' rx ry ox _ p s => ?_
  unfold fRngL2 at ef
  split at ef
  · rename_i i j
    split at ef
    · rename_i hz
      injection ef with ef; subst ef
      refine ⟨i, j, rx.1, ry.1, rgok hz, fun l hl => ?_⟩
      have n : New g S' H' _ (.nd (.lst true) (rangeT i j)) (.ref l) [l] := New.node hl rg_rep
      have o : Ow [] H' A' S' A' [l] := Ow.of_new R' n
      have s2 := s.trans (Stb.ext (eff := []) (Ts := Ts') (A := A') n.ext)
      rw [List.append_nil] at s2
      exact k _ _ S' A' [l] (R'.ext n.ext) n.rep (o.rebase p) (p.trans R (Po.ext n.ext)) s2
    · cases ef
  · cases ef
end
end MI
/-! Mh: what the top leaves, by facts of one's own. -/
namespace MI
open PySem PySem.Spec PyProof.Rows L2 He
/-- a def without defaults, as the library tells it -/
abbrev dfA (a : PySem.W.Frag → Addr) (name qual : Str) (params : Arguments) (body : List Stmt) (scope : Scope) : He5.DefA := { at_ := a, name := name, qual := qual, params := params, body := body, scope := scope }
/-- what is looked at behind the top: facts of any sort, and the library's look at the defs -/
def lookM (fa : List (PySem.W.Frag → Bool)) (fn : List He5.DefA) (K : PySem.W.Frag) : Bool × AlD := (fa.all (· K), He5.obsA [] fn K)
structure SaysM (fa : List (PySem.W.Frag → Bool)) (fn : List He5.DefA) (K : PySem.W.Frag) : Prop where
  facts : fa.all (· K) = true
  defs : He5.SaysA [] fn K
def lookG (n : Nat) (fa : List (PySem.W.Frag → Bool)) (fn : List He5.DefA) (q : Addr → Option Obj) : Bool × AlD := lookM fa fn (frG q (asD q n))
def hookM (n : Nat) (fa : List (PySem.W.Frag → Bool)) (fn : List He5.DefA) : PySem.W.Hook :=
  { α := Bool × AlD, obs := fun z => lookG n fa fn z.heap.get?, val := fun _ => (true, He5.valA fn), says := fun _ h => ∃ K, K.In h ∧ SaysM fa fn K,
    of := fun _ _ e => ⟨_, frG_in, ⟨congrArg Prod.fst e, congrArg Prod.snd e⟩⟩, keeps := fun _ _ _ x more => x.imp fun _ y => ⟨y.1.keeps more, y.2⟩ }
theorem lookG_eq {n : Nat} {fa : List (PySem.W.Frag → Bool)} {fn : List He5.DefA} {q : Addr → Option Obj} {z : Shared} (h : ∀ a, q a = z.heap.get? a) : lookG n fa fn q = (hookM n fa fn).obs z := congrArg (lookG n fa fn) (funext h)
theorem SaysM.fact {fa : List (PySem.W.Frag → Bool)} {fn : List He5.DefA} {K : PySem.W.Frag} (c : SaysM fa fn K) (i : Nat) {f : PySem.W.Frag → Bool} (h : fa[i]? = some f := by rfl) : f K = true := List.all_eq_true.mp c.facts f (List.mem_of_getElem? h)
/-! ### properties -/
def pgA (K : PySem.W.Frag) (x f : Str) : Addr := match PySem.W.recIn K (ma K (ga K x) f) "property" with
  | some (.ref a :: _) => a
  | _ => 0
def prB (x f : Str) (K : PySem.W.Frag) : Bool := eqO (PySem.W.findIn K (.ref (ga K x)) f) (some (some (.ref (ma K (ga K x) f)))) && (eqO (PySem.W.specialIn K (.ref (ma K (ga K x) f)) "__get__") (some (some (.builtin "property.__get__"))) &&
  (decide (PySem.W.takesIn K (.ref (ma K (ga K x) f)) = some true) && (match PySem.W.recIn K (ma K (ga K x) f) "property" with
    | some (.ref _ :: _) => true
    | _ => false)))
theorem prB_ok {x f : Str} {K : PySem.W.Frag} (h : prB x f K = true) : PropOf K (ga K x) f (ma K (ga K x) f) (pgA K x f) := by
  obtain ⟨h1, h⟩ := ba h
  obtain ⟨h2, h⟩ := ba h
  obtain ⟨h3, h4⟩ := ba h
  refine ⟨eqO_ok h1, eqO_ok h2, of_decide_eq_true h3, ?_⟩
  unfold pgA
  split at h4
  · rename_i a rest e
    rw [e]
    exact ⟨rest, rfl⟩
  · cases h4
/-! ### isinstance of own classes -/
def isiB (c : Str) (own : List Str) (K : PySem.W.Frag) : Bool := ((["NoneType", "bool", "int", "str", "tuple", "list", "dict"] : List String).all fun n => decide (PySem.W.kitOne K (.type n) (.ref (ga K c)) = some false)) &&
  ((own.all fun d => decide (PySem.W.kitOne K (.ref (ga K d)) (.ref (ga K c)) = some (decide (d = c)))) && ((own.all fun d => (Fa.cls d).ok K && (eqO (PySem.W.findIn K (.ref (ga K d)) "__class__") (some (some (.builtin "object.__class__"))) && decide (PySem.W.mroIn K (ga K d) (.type "object") = some true))) &&
  (eqO (PySem.W.specialIn K (.builtin "object.__class__") "__get__") (some (some (.builtin "getset_descriptor.__get__"))) && decide (PySem.W.takesIn K (.builtin "object.__class__") = some true))))
theorem isi_ok {c : Str} {own : List Str} {K : PySem.W.Frag} (h : isiB c own K = true) : IsiC K (ga K) c own := by
  obtain ⟨h1, h⟩ := ba h
  obtain ⟨h2, h⟩ := ba h
  obtain ⟨h3, h⟩ := ba h
  obtain ⟨h4, h5⟩ := ba h
  refine ⟨fun n hn => of_decide_eq_true (List.all_eq_true.mp h1 n hn), fun d hd => of_decide_eq_true (List.all_eq_true.mp h2 d hd), fun d hd => ?_, eqO_ok h4, of_decide_eq_true h5⟩
  have q := List.all_eq_true.mp h3 d hd
  obtain ⟨q1, q2⟩ := ba q
  obtain ⟨q3, q4⟩ := ba q2
  exact ⟨cls_ok q1, eqO_ok q3, of_decide_eq_true q4⟩
end MI
/-! Me: from a def's promise (FnG) to the law. The script is tracked, and locked, unless the module itself has it. -/
namespace MI
open PySem PySem.Spec PyProof.Rows L2 He
/-- the tracked heap at the start: the script alone, if it is no object of the written part -/
def scrH (K : PySem.W.Frag) (a : Addr) (ob : Obj) (xs : List V) : Hp := fun b => if b = a ∧ K.lookup b = none then some (.frz ob (.lst xs)) else none
section
variable {K : PySem.W.Frag} {a b : Addr} {ob : Obj} {xs : List V}
theorem scrH_inv {u : HO} (h : scrH K a ob xs b = some u) : b = a ∧ K.lookup a = none ∧ u = .frz ob (.lst xs) := by
  by_cases c : b = a ∧ K.lookup b = none
  · rw [scrH, if_pos c] at h
    cases h
    exact ⟨c.1, c.1 ▸ c.2, rfl⟩
  · rw [scrH, if_neg c] at h; cases h
theorem scrH_only : Only (scrH K a ob xs) := fun b => by
  cases e : scrH K a ob xs b with
  | none => exact .inl rfl
  | some u => exact .inr ⟨ob, xs, by rw [(scrH_inv e).2.2]⟩
/-- what is no script is not tracked -/
theorem scrH_off {h : Heap} {o' : Obj} (ha : h.get? a = some ob) (hb : h.get? b = some o') (ne : o' ≠ ob) : scrH K a ob xs b = none := by
  cases e : scrH K a ob xs b with
  | none => rfl
  | some u =>
    obtain ⟨rfl, _⟩ := scrH_inv e
    exact absurd (Option.some.inj (hb.symm.trans ha)) ne
theorem scrH_K {h : Heap} (k : K.In h) (e : ∃ o', K.lookup b = some o') : scrH K a ob xs b = none := by
  obtain ⟨o', e⟩ := e
  exact if_neg fun c => by rw [c.2] at e; cases e
end
/-- a script as it lies in a heap -/
structure Scr (h : Heap) (a : Addr) (vs : List Value) (ns : List Int) : Prop where
  get : h.get? a = some { cls := .type "list", data := .seq vs.toArray }
  nums : IntsAre vs ns
  few : ns.length ≤ sizeLine
abbrev Scr.obj (vs : List Value) : Obj := { cls := .type "list", data := .seq vs.toArray }
section
variable {P : Program} {w : World} {K : PySem.W.Frag} {h : Heap} {a : Addr} {vs : List Value} {ns : List Int}
theorem Scr.sq (x : Scr h a vs ns) (k : K.In h) : SqL K (scrH K a (Scr.obj vs) (ns.map V.int)) a (ns.map V.int) := by
  cases e : K.lookup a with
  | none => exact Or.inl (Or.inr ⟨Scr.obj vs, if_pos ⟨rfl, e⟩⟩)
  | some o =>
    have eo : o = Scr.obj vs := Option.some.inj ((k a o e).symm.trans x.get)
    subst eo
    have r := vals_ints x.nums
    have n := x.few
    have m := r.length
    rw [List.length_map] at m
    exact Or.inr ⟨_, vs.toArray, _, e, rfl, rfl, rfl, by simp; omega, by simpa using r⟩
theorem Scr.ok (x : Scr h a vs ns) : HOk P w (scrH K a (Scr.obj vs) (ns.map V.int)) h := fun b u e => by
  obtain ⟨rfl, _, rfl⟩ := scrH_inv e
  exact ⟨x.get, by simpa using x.few, vs, _, vals_ints x.nums, x.get⟩
/-- a namespace is no script: it stays in the hidden heap -/
theorem Scr.spc (x : Scr h a vs ns) {b : Addr} {m : Str → Option Value} (n : h.Ns b m) : (hidT h (scrH K a (Scr.obj vs) (ns.map V.int))).Ns b m := by
  obtain ⟨o, es, ep, e, d, r⟩ := n
  refine ⟨o, es, ep, hidT_get e (scrH_off x.get e ?_), d, r⟩
  rintro rfl
  cases d
theorem Scr.kin (k : K.In h) : K.In (hidT h (scrH K a (Scr.obj vs) (ns.map V.int))) := fun b o e => hidT_get (k b o e) (scrH_K k ⟨o, e⟩)
end
/-- the law's def, called with a script, answers True and leaves what was there -/
theorem scr_call {P : Program} {w : World} {K : PySem.W.Frag} {mg mb : Str → Option Value} {CX : CXT} {k : Nat} {fa a : Addr} {fd : FuncData} {x : Str} {sp : Sp} {z : Shared} {vs : List Value} {ns : List Int}
    (kin : K.In z.heap) (glob : z.heap.Ns mainGlobals mg) (blt : z.heap.Ns builtinsNs mb) (bltOk : ∀ y : Str, y ≠ "__name__" → mb y = bootBuiltins y) (lim : z.heap.NoLimit) (noGen : z.gens = #[]) (scr : Scr z.heap a vs ns) (room : Room k callerA)
    (F : ∀ base : Heap, K.In base → base.Ns mainGlobals mg → FnG P w K mg base CX k fa fd [x] sp) (bind : ∀ (s : Shared) (u : Value), BindsTo s fd ⟨[u], []⟩ [(x, u)])
    (says : ∀ H : Hp, Only H → SqL K H a (ns.map V.int) → sp [.ref a] H (fun v _ => v = .bl true) fun _ _ _ => False) (calm : ∀ H e s', CX [] H z (fun _ _ _ => False) e s' → False) :
    codeAny (model P w) callerA (.call (.ref fa) ⟨[.ref a], []⟩) (fun r s' => r = .ok (.ret (.bool true)) ∧ OldK z.heap s'.heap ∧ s'.os = z.os ∧ AllBare s'.gens) z := by
  have noFr : ∀ b : Addr, b ∉ frs ([] : List Env) := fun b hb => nomatch hb
  have room0 : Env0 P w K mg (hidT z.heap (scrH K a (Scr.obj vs) (ns.map V.int))) callerA [] z (scrH K a (Scr.obj vs) (ns.map V.int)) :=
    ⟨rfl, ⟨Scr.kin kin, scr.spc glob, ⟨mb, scr.spc blt, bltOk⟩, lim.elim fun mc l => ⟨mc, scr.spc l.1, l.2⟩⟩, fun b o e => of_hidT e, Nat.le_of_eq (hidT_size _ _), trivial, fun b hb => absurd hb (noFr b), scr.ok, .of_eq noGen⟩
  refine codeAny_mono ((F _ (Scr.kin kin) (scr.spc glob)).runG callerA [] z _ ⟨[.ref a], []⟩ [.ref a] [.ref a] _ _ rfl room room0 (bind z (.ref a)) (.cons rfl .nil) (says _ scrH_only (scr.sq kin))) ?_
  intro r s' post
  match r, post with
  | .error e, post => exact (calm _ e s' post).elim
  | .ok (.ret u), ⟨v, H', os, bare, un, ok', rel, tr⟩ =>
    have tr : v = V.bl true := tr
    subst tr
    have eu : u = Value.bool true := rel
    subst eu
    refine ⟨rfl, OldK.of_keep ?_, os, bare⟩
    intro b o e
    by_cases t : scrH K a (Scr.obj vs) (ns.map V.int) b = none
    · exact un.keep b o e t (noFr b) (by simp)
    · obtain ⟨u, t⟩ := Option.ne_none_iff_exists'.mp t
      have tu := (scrH_inv t).2.2
      subst tu
      have here : o = Scr.obj vs := Option.some.inj (e.symm.trans (scr.ok (P := P) (w := w) b _ t).1)
      rw [here]
      exact (ok' b _ (un.frzs b _ _ t)).1
  | .ok .next, post => exact post.elim
  | .ok .brk, post => exact post.elim
  | .ok .cont, post => exact post.elim
/-- the end of a walk: a promise of the law's def is enough -/
theorem walk_ofG {l : PySem.W.OpenLaw} {n k : Nat} {q : Program} {loose : List Str} {XP : (Str → Option Value) → Heap → Prop} {YP : World → Heap → Prop} {d : DefRec} {CX : CXT} {x : Str}
    (most : l.most = some n) (line : n ≤ sizeLine) (nodef : d.params.defaults = []) (room : Room k callerA)
    (F : ∀ (w : World) (mg : Str → Option Value) (fa : Addr) (h : Heap), YP w h → h.Ns mainGlobals mg → mg d.name = some (.ref fa) → ∃ (K : PySem.W.Frag) (fd : FuncData) (sp : Sp), K.In h ∧ (∀ (s : Shared) (u : Value), BindsTo s fd ⟨[u], []⟩ [(x, u)]) ∧
      (∀ (H : Hp) (a : Addr) (ns : List Int), ns.length ≤ n → Only H → SqL K H a (ns.map V.int) → sp [.ref a] H (fun v _ => v = .bl true) fun _ _ _ => False) ∧ ∀ base : Heap, K.In base → base.Ns mainGlobals mg → FnG l.prog w K mg base CX k fa fd [x] sp)
    (calm : ∀ (H : Hp) (s : Shared) (e : Value) (s' : Shared), CX [] H s (fun _ _ _ => False) e s' → False) : PySem.W.WalkO q loose XP YP l.row.toRowW d [] (fun f vs => PySem.call f vs) :=
  Att.attach_call most nodef fun w _ s₁ mg _ fa _ _ _ _ a _ ns top y _ _ _ name ob nums few noGen =>
    let ⟨_, _, _, kin, bind, says, fn⟩ := F w mg fa _ y top.T.g name
    scr_call kin top.T.g top.T.b top.T.builtins top.T.nolimit noGen ⟨ob, nums, Nat.le_trans few line⟩ room fn bind (fun H only sq => says H a ns few only sq) fun H e s' => calm H s₁ e s'
theorem ints_rep {g : Gc} {S : Addr → Prop} {H : Hp} : ∀ ns : List Int, RpL g S H (ns.map T.int) (ns.map V.int) []
  | [] => ⟨rfl, rfl⟩
  | n :: ns => ⟨_, _, [], [], rfl, rfl, ⟨rfl, rfl⟩, ints_rep ns⟩
/-- the script handed to the law -/
theorem sp_start {g : Gc} {c : Cal} {ns : List Int} {a : Addr} {H : Hp} {E : XK} (h : c [.nd .scr (ns.map T.int)] = some (.bl true, [])) (hS : SqL g.K H a (ns.map V.int)) : spT g [] c [.ref a] H (fun v _ => v = .bl true) E := by
  refine ⟨fun b => b = a ∧ ∃ o, H b = some o, [.nd .scr (ns.map T.int)], [], .bl true, [], RpL.one ⟨a, _, [], rfl, ?_, rfl, .inr (.inr rfl), ints_rep ns⟩, List.nodup_nil, (fun _ z => nomatch z), fun b hb => hb.2, h, fun x H' S' Ar Ao rx _ _ _ _ _ => rx.1⟩
  rcases hS with hS | hS
  · refine .inl ⟨hS, rfl, ?_⟩
    rcases hS with e | ⟨o, e⟩
    · exact ⟨_, e⟩
    · exact ⟨_, e⟩
  · exact .inr hS
end MI
/-! M6: a lent argument that later arguments use, too. -/
namespace MI
open PySem PySem.Spec PyProof.Rows L2
def mConsL (s : Nat) (fs : M (List T)) : M (List T) := fun Ts => match slot Ts s with
  | .dead => none
  | _ => (bnd fs fun ts => bnd (mLn s) fun t => ret (t :: ts)) Ts
section
variable {g : Gc} {X : Cx} {e : Expr} {es : List Expr} {fs : M (List T)} {e2 b2 : List Nat} {ln : List (Option Nat)}
theorem tmc_lendL {s : Nat} (ha : PE X e (tVar s)) (hs : PAc g X es fs e2 b2 ln) (d : s ∉ b2 := by decide) (hst : starEach (e :: es) X.env = (false, eval e X.env) :: starEach es X.env := by rfl) : PAc g X (e :: es) (mConsL s fs) (e2 ++ [s]) b2 (some s :: ln) :=
  PA.imp (pa_cons ha hs hst) fun σ H Q ⟨S, Ts, A, ts, Ts', R, q, k⟩ => by
    have key0 : slot Ts s ≠ .dead ∧ (bnd fs fun ts => bnd (mLn s) fun t => ret (t :: ts)) Ts = some (ts, Ts') := by
      unfold mConsL at q
      cases h : slot Ts s <;> rw [h] at q <;> first | (cases q; done) | exact ⟨(fun z => nomatch z), q⟩
    obtain ⟨nd0, q⟩ := key0
    obtain ⟨tb, Ts1, eb, q1⟩ := bnd_some q
    obtain ⟨ta, Ts2, ea, q2⟩ := bnd_some q1
    have q3 : some (ta :: tb, Ts2) = some (ts, Ts') := q2
    injection q3 with q3
    injection q3 with h1 h2
    subst h1; subst h2
    have key : ∃ u, slot Ts1 s = u ∧ u ≠ .dead ∧ some (u, Ts1.set s .dead) = some (ta, Ts2) := by
      unfold mLn at ea
      cases q : slot Ts1 s <;> rw [q] at ea <;> first | (cases ea; done) | exact ⟨_, rfl, (fun z => nomatch z), ea⟩
    obtain ⟨u, e1, n, e2'⟩ := key
    injection e2' with e2'
    injection e2' with h1 h2
    subst h1; subst h2
    obtain ⟨x, hx, rx⟩ := R.at rfl nd0
    refine ⟨x, hx, S, Ts, A, tb, Ts1, R, eb, fun ys H2 S2 A2 Al Ab R2 r2 ol ob dj p2 s2 => ?_⟩
    obtain ⟨x', hx', rx'⟩ := R2.at e1 n
    have exx : x' = x := by rw [hx] at hx'; injection hx' with hx'; injection hx' with hx'; exact hx'.symm
    subst exx
    obtain ⟨R3, p3, s3, o3⟩ := R2.mv e1 n
    have sub : ∀ i, ∀ a, a ∉ A2 i → a ∉ (fun j => if j = s then [] else A2 j) i := fun i a h => by
      show a ∉ if i = s then [] else A2 i
      split
      · exact fun z => nomatch z
      · exact h
    refine k (x' :: ys) H2 S2 _ (A2 s ++ Al) Ab R3 ⟨u, tb, x', ys, A2 s, Al, rfl, rfl, rfl, rx', hx, r2⟩ ⟨fun a ha => ?_, fun i hi a ha => ?_, fun _ => ?_, fun a ha => ?_⟩ ⟨ob.ns, fun i hi a ha => sub i a (ob.dj i hi a ha), ob.nd, ob.new⟩ (fun a hl hx => ?_) (p2.trans R p3) (s2.trans s3)
    · rcases List.mem_append.mp ha with h | h
      · exact R2.ns s a h
      · exact ol.ns a h
    · rcases List.mem_append.mp ha with h | h
      · exact o3.dj i hi a h
      · exact sub i a (ol.dj i hi a h)
    · refine List.nodup_append.mpr ⟨R2.nd s, ol.nd rfl, fun a ha b hb e => ?_⟩
      subst e
      exact ol.dj s (fun z => nomatch z) a hb ha
    · rcases List.mem_append.mp ha with h | h
      · exact p2.anew s a h
      · exact ol.new a h
    · rcases List.mem_append.mp hl with h | h
      · exact ob.dj s d a hx h
      · exact dj a h hx
end
end MI
/-! N1: xs.index(x); min, max of a list; list(range(n)); xs[::-1]. -/
namespace MI
open PySem PySem.Spec PyProof.Rows L2
section
variable {g : Gc} {X : Cx} {o e : Expr} {fa fb : M T} {fs : M (List T)} {e1 e2 b1 b2 : List Nat} {apos cpos pos p p1 p2 p3 pos2 : Pos} {k : Nat}
/-- a method that reads, of one argument -/
def mMet1 (ck : T → Bool) (f : T → T → Option T) (fa fb : M T) : M T := bnd fa fun a => if ck a then bnd fb fun b => lft (f a b) else fun _ => none
theorem met1_r {ck : T → Bool} {f : T → T → Option T} {r : V → List V → Hp → VK → Prop} {ty : String} (hop : OpT g (fun x y H Q => r x [y] H Q) f) (hck : ∀ (S : Addr → Prop) (H : Hp) (n : T) (x : V) (B : List Addr), Rp g S H n x B → ck n = true → tyV X.K ty x H) (d : ∀ j ∈ b1, j ∉ e2) (σ : L2.St) (H : Hp) (Q : VK) (h : TM g (mMet1 ck f fa fb) (e1 ++ e2) [] σ H Q) : tBM X.K ty r (TM g fa e1 b1) (tCons (TM g fb e2 b2) tNil) σ H Q := by
  obtain ⟨S, Ts, A, t, Ts', R, q0, k⟩ := h
  obtain ⟨ta, Ts1, ea, q1⟩ := bnd_some q0
  split at q1
  · rename_i hc
    obtain ⟨tb, Ts2, eb, q2⟩ := bnd_some q1
    obtain ⟨ef, eT⟩ := lft_some q2
    subst eT
    refine ⟨S, Ts, A, ta, Ts1, R, ea, fun x H1 S1 A1 Ax R1 rx ox p1 s1 => ⟨hck S1 H1 ta x Ax rx hc, S1, Ts1, A1, tb, Ts', R1, eb, fun y H2 S2 A2 Ay R2 ry oy p2 s2 => ?_⟩⟩
    have rx2 := rx.held R1 ox p2 s2 d
    refine hop S2 H2 ta tb x y Ax Ay t Q rx2 ry ef fun z H3 Az n => ?_
    have o : Ow [] H2 A2 S2 A2 Az := Ow.of_new R2 n
    have pp := p1.trans R p2
    have ss := (s1.trans s2).trans (Stb.ext (eff := []) (Ts := Ts') (A := A2) n.ext)
    rw [List.append_nil] at ss
    exact k z H3 S2 A2 Az (R2.ext n.ext) n.rep ⟨o.ns, o.dj, o.nd, o.back pp⟩ (pp.trans R (Po.ext n.ext)) ss
  · cases q1
/-! ### xs.index(x) -/
def fIndex (a b : T) : Option T := match a with
  | .nd (.lst _) ts => if okD 50 b && okDL 50 ts then (ts.findIdx? fun t => eqT t b).map fun (j : Nat) => .int j else none
  | _ => none
theorem opt_index : OpT g (fun x y H Q => rIndexD g.K x [y] H Q) fIndex := fun S H a b x y Ax Ay t Q ra rb ef q => by
  unfold fIndex at ef
  split at ef
  · rename_i oo ts
    split at ef
    · rename_i h
      obtain ⟨h1, h2⟩ := Bool.and_eq_true_iff.mp h
      obtain ⟨j, hj, rfl⟩ := Option.map_eq_some_iff.mp ef
      obtain ⟨p, xs, B, ex, at_, eA, c, r⟩ := ra
      obtain ⟨a1, a2, a3⟩ := okD_ok b 50 y Ay h1 rb
      obtain ⟨b1, b2, b3⟩ := okDL_ok ts 50 xs B h2 r
      obtain ⟨hlt, hq, hno⟩ := List.findIdx?_eq_some_iff_getElem.mp hj
      refine ⟨p, y, toD b, toDL ts, j, toD ts[j], ex, rfl, Dp.lst at_.sqL b1, a1, by unfold SeqAt.shaped PyData.canLay0 PyData.depth; rw [b2, decide_eq_true (by omega)]; rfl, by unfold SeqAt.shaped; rw [a2, decide_eq_true (by omega)]; rfl, ?_, hq, fun m z' hm hz' => ?_, q _ H [] (New.atom ⟨rfl, rfl⟩)⟩
      · rw [toDL_eq, List.getElem?_map, List.getElem?_eq_getElem hlt]; rfl
      · rw [toDL_eq, List.getElem?_map, List.getElem?_eq_getElem (by omega)] at hz'
        injection hz' with hz'
        have := hno m hm
        rw [← hz']
        simpa [eqT] using this
    · cases ef
  · cases ef
theorem l_index (hr : Room k X.A) (ho : PEm g X o fa e1 b1) (ha : PEm g X e fb e2 b2) (d : ∀ j ∈ b1, j ∉ e2 := by decide) (hK : g.K = X.K := by rfl) (hbase : attributeBase o "index" X.env (eval o X.env) = eval o X.env := by rfl)
    (hfew : ((backTo cpos (starEach [e] X.env)).all (fun x => !x.1) && (backToKw cpos (keywordEach [] X.env)).all (fun x => x.1.isSome) && decide ([e].length + ([] : List Keyword).length + (if ([] : List Keyword).isEmpty then 0 else 1) < 30)) = true := by rfl)
    (hline : (apos.endLine == cpos.line) = true := by rfl) (hs : starEach [e] X.env = (false, eval e X.env) :: starEach [] X.env := by rfl) (hplain : (backTo cpos (starEach [] X.env)).any (·.1) = false := by rfl) :
    PEm g X (.Call (.Attribute o "index" apos) [e] [] cpos) (mMet1 isLst fIndex fa fb) (e1 ++ e2) [] :=
  PE.imp (pe_bm PySem.F.plainAttrs_list PySem.F.slot_list_index PySem.F.type_list_index (mt_indexD (by have := hr.un; omega)) ho (pa_cons ha pa_nil hs) hbase hfew hline hs hplain) (met1_r (hK ▸ opt_index) (isLst_ty hK) d)
/-! ### min, max of a list -/
def fMost (le : Int → Int → Bool) (t : T) : Option T := match kA t with
  | some ts => match intsOf ts with
    | some (n :: ns) => some (.int (ns.foldl (fun a b => if le a b then a else b) n))
    | _ => none
  | none => none
theorem fold_most {le : Int → Int → Bool} (tr : ∀ a b c, le a b = true → le b c = true → le a c = true) (tot : ∀ a b, le a b = true ∨ le b a = true) : ∀ (ns : List Int) (n : Int), ns.foldl (fun a b => if le a b then a else b) n ∈ n :: ns ∧ ∀ y ∈ n :: ns, le (ns.foldl (fun a b => if le a b then a else b) n) y = true
  | [], n => ⟨by simp, fun y hy => by
      rw [List.mem_singleton.mp hy]
      exact (tot n n).elim id id⟩
  | m :: ns, n => by
    rw [List.foldl_cons]
    obtain ⟨h1, h2⟩ := fold_most tr tot ns (if le n m then n else m)
    by_cases h : le n m = true
    · rw [if_pos h] at h1 h2 ⊢
      refine ⟨?_, fun y hy => ?_⟩
      · rcases List.mem_cons.mp h1 with z | z
        · simp [z]
        · simp [z]
      · rcases List.mem_cons.mp hy with z | z
        · subst z; exact h2 _ (by simp)
        · rcases List.mem_cons.mp z with z | z
          · subst z; exact tr _ _ _ (h2 n (by simp)) h
          · exact h2 y (by simp [z])
    · have h' : le m n = true := (tot m n).resolve_right h
      rw [if_neg h] at h1 h2 ⊢
      refine ⟨?_, fun y hy => ?_⟩
      · rcases List.mem_cons.mp h1 with z | z
        · simp [z]
        · simp [z]
      · rcases List.mem_cons.mp hy with z | z
        · subst z; exact tr _ _ _ (h2 m (by simp)) h'
        · rcases List.mem_cons.mp z with z | z
          · subst z; exact h2 _ (by simp)
          · exact h2 y (by simp [z])
theorem ct_max1 : CallT g (rMax g.K) (c1 (fMost fun a b => decide (b ≤ a))) := callT1 fun S H t x A u Q r e k => by
  unfold fMost at e
  split at e
  · rename_i ts hk
    split at e
    · rename_i n ns hi
      injection e with e; subst e
      obtain ⟨p, xs, B, ex, hH, rl⟩ := kA_rep hk r
      have ex2 := intsOf_ok _ _ _ _ hi rl
      obtain ⟨h1, h2⟩ := fold_most (le := fun a b => decide (b ≤ a)) (fun a b c h1 h2 => by simp at *; omega) (fun a b => by simp; omega) ns n
      refine ⟨p, n :: ns, by rw [ex], ex2 ▸ hH, by simp, fun m hm hy => ?_⟩
      have : m = ns.foldl (fun a b => if decide (b ≤ a) = true then a else b) n := by
        have a1 := hy _ h1
        have a2 := of_decide_eq_true (h2 m hm)
        exact Int.le_antisymm (by first | exact a1 | exact a2) (by first | exact a1 | exact a2)
      rw [this]
      exact k _ H [] (New.atom ⟨rfl, rfl⟩)
    · cases e
  · cases e
theorem ct_min1 : CallT g (rMin g.K) (c1 (fMost fun a b => decide (a ≤ b))) := callT1 fun S H t x A u Q r e k => by
  unfold fMost at e
  split at e
  · rename_i ts hk
    split at e
    · rename_i n ns hi
      injection e with e; subst e
      obtain ⟨p, xs, B, ex, hH, rl⟩ := kA_rep hk r
      have ex2 := intsOf_ok _ _ _ _ hi rl
      obtain ⟨h1, h2⟩ := fold_most (le := fun a b => decide (a ≤ b)) (fun a b c h1 h2 => by simp at *; omega) (fun a b => by simp; omega) ns n
      refine ⟨p, n :: ns, by rw [ex], ex2 ▸ hH, by simp, fun m hm hy => ?_⟩
      have : m = ns.foldl (fun a b => if decide (a ≤ b) = true then a else b) n := by
        have a1 := hy _ h1
        have a2 := of_decide_eq_true (h2 m hm)
        exact Int.le_antisymm (by first | exact a1 | exact a2) (by first | exact a1 | exact a2)
      rw [this]
      exact k _ H [] (New.atom ⟨rfl, rfl⟩)
    · cases e
  · cases e
theorem b_max1 (hc : X.calm = true) (hm : X.mg "max" = none) (ha : PAm g X [e] fs e1 b1) (hK : g.K = X.K := by rfl) (hg : Gl X "max" := by rfl) (he : starEach [e] X.env = (false, eval e X.env) :: starEach [] X.env := by rfl) (hpl : (backTo pos (starEach [] X.env)).any (·.1) = false := by rfl) : PEm g X (.Call (.Name "max" p2) [e] [] pos) (mF (c1 (fMost fun a b => decide (b ≤ a))) fs) e1 [] := tm_callB (cr_max hc) (hK ▸ ct_max1) hg hm boot_max ha (by decide) (by decide) he hpl
theorem b_min1 (hc : X.calm = true) (hm : X.mg "min" = none) (ha : PAm g X [e] fs e1 b1) (hK : g.K = X.K := by rfl) (hg : Gl X "min" := by rfl) (he : starEach [e] X.env = (false, eval e X.env) :: starEach [] X.env := by rfl) (hpl : (backTo pos (starEach [] X.env)).any (·.1) = false := by rfl) : PEm g X (.Call (.Name "min" p2) [e] [] pos) (mF (c1 (fMost fun a b => decide (a ≤ b))) fs) e1 [] := tm_callB (cr_min hc) (hK ▸ ct_min1) hg hm boot_min ha (by decide) (by decide) he hpl
/-! ### xs[::-1] -/
def fRevL (t : T) : Option T := match t with
  | .nd (.lst _) ts => if immL ts then some (.nd (.lst true) ts.reverse) else none
  | _ => none
theorem RpL.rev {S : Addr → Prop} {H : Hp} : ∀ {ts : List T} {xs : List V}, RpL g S H ts xs [] → RpL g S H ts.reverse xs.reverse []
  | [], _, h => by obtain ⟨h1, h2⟩ := h; subst h1; exact ⟨rfl, rfl⟩
  | t :: ts, _, h => by
    obtain ⟨y, ys, A1, A2, e1, e2, r1, r2⟩ := h
    obtain ⟨rfl, rfl⟩ := List.append_eq_nil_iff.mp e2.symm
    subst e1
    rw [List.reverse_cons, List.reverse_cons]
    exact RpL.append _ _ [] _ _ [] (RpL.rev r2) (RpL.one r1)
theorem x_revL {k : Nat} (ha : PEm g X e fa e1 b1) (hK : g.K = X.K := by rfl) : PEm g X (.Subscript e (.Slice none none (some (.UnaryOp .USub (.Constant (.int 1) k p1) p2)) p3) pos) (m1 fRevL fa) e1 [] := PE.imp (pe_revL ha) fun σ H Q h => by
  obtain ⟨S, Ts, A, t, Ts', R, q0, kk⟩ := h
  obtain ⟨ta, Ts1, ea, q1⟩ := bnd_some q0
  obtain ⟨ef, eT⟩ := lft_some q1
  subst eT
  refine ⟨S, Ts, A, ta, Ts', R, ea, fun x H1 S1 A1 Ax R1 rx ox p1 s1 => ?_⟩
  unfold fRevL at ef
  split at ef
  · rename_i o ts
    split at ef
    · rename_i hi
      injection ef with ef; subst ef
      obtain ⟨a, xs, B, ex, at_, eA, c, r⟩ := rx
      have eB := RpL.imm_nil _ _ _ r hi
      subst eB
      refine ⟨a, xs, ex, hK ▸ at_.sqL, fun l hl => ?_⟩
      have n : New g S1 H1 _ (.nd (.lst true) ts.reverse) (.ref l) [l] := New.node hl (RpL.rev r)
      have o : Ow [] H1 A1 S1 A1 [l] := Ow.of_new R1 n
      have s2 := s1.trans (Stb.ext (eff := []) (Ts := Ts') (A := A1) n.ext)
      rw [List.append_nil] at s2
      exact kk _ _ S1 A1 [l] (R1.ext n.ext) n.rep (o.rebase p1) (p1.trans R (Po.ext n.ext)) s2
    · cases ef
  · cases ef
/-! ### list(range(n)) -/
def fRngN (a : T) : Option T := match a with
  | .int j => if -1000000 ≤ j ∧ j ≤ 1000000 then some (.nd (.lst true) (rangeT 0 j)) else none
  | _ => none
theorem b_listRng1 {a : Expr} (hl : X.mg "list" = none) (hr : X.mg "range" = none) (hc : X.calm = true) (ha : PEm g X a fa e1 b1) (hgl : Gl X "list" := by rfl) (hgr : Gl X "range" := by rfl) (na : starEach [a] X.env = (false, eval a X.env) :: starEach [] X.env := by rfl)
    (hp : (backTo pos (starEach [] X.env)).any (·.1) = false := by rfl) (nc : starEach [.Call (.Name "range" p) [a] [] pos] X.env = (false, eval (.Call (.Name "range" p) [a] [] pos) X.env) :: starEach [] X.env := by rfl) :
    PEm g X (.Call (.Name "list" p2) [.Call (.Name "range" p) [a] [] pos] [] pos2) (m1 fRngN fa) e1 [] := PE.imp (pe_listRg hc hgl hl (prg_1 hgr hr ha na) nc) fun σ H Q h => by
  obtain ⟨S, Ts, A, t, Ts', R, q0, k⟩ := h
  obtain ⟨ta, Ts1, ea, q1⟩ := bnd_some q0
  obtain ⟨ef, eT⟩ := lft_some q1
  subst eT
  refine ⟨S, Ts, A, ta, Ts', R, ea, fun x H1 S1 A1 Ax R1 rx ox p1 s1 => ?_⟩
  unfold fRngN at ef
  split at ef
  · rename_i j
    split at ef
    · rename_i hz
      injection ef with ef; subst ef
      refine ⟨j, rx.1, rgok ⟨by omega, by omega, hz⟩, fun l hl => ?_⟩
      have n : New g S1 H1 _ (.nd (.lst true) (rangeT 0 j)) (.ref l) [l] := New.node hl rg_rep
      have o : Ow [] H1 A1 S1 A1 [l] := Ow.of_new R1 n
      have s2 := s1.trans (Stb.ext (eff := []) (Ts := Ts') (A := A1) n.ext)
      rw [List.append_nil] at s2
      exact k _ _ S1 A1 [l] (R1.ext n.ext) n.rep (o.rebase p1) (p1.trans R (Po.ext n.ext)) s2
    · cases ef
  · cases ef
end
end MI
/-! N2: {k: v, ..} with several pairs. -/
namespace MI
open PySem PySem.Spec PyProof.Rows L2
section
variable {g : Gc} {X : Cx} {fa fb : M T} {e1 e2 e3 : List Nat} {pos : Pos}
abbrev KT := List (Key × T)
def TPr (g : Gc) (fp : M KT) (eff : List Nat) : L2.St → Hp → (List (V × V) → Hp → Prop) → Prop := fun σ H Q => ∃ S Ts A ps Ts', SR g S H σ Ts A ∧ fp Ts = some (ps, Ts') ∧
  ∀ (kvs : List (Key × V)) H' S' A', SR g S' H' σ Ts' A' → kvs.map Prod.fst = ps.map Prod.fst → RpL g S' H' (ps.map Prod.snd) (kvs.map Prod.snd) [] → Po S H A S' H' A' → Stb eff H Ts A H' Ts' A' → Q (kvs.map fun kv => (kV kv.1, kv.2)) H'
structure PPm (g : Gc) (X : Cx) (pos : Pos) (keys : List (Option Expr)) (values : List Expr) (fp : M KT) (eff : List Nat) : Prop where
  ex : ∃ trs, PPs X pos keys values trs ∧ ∀ σ H Q, TPr g fp eff σ H Q → tPairs trs σ H Q
def mPnil : M KT := ret []
def mPcons (fk fv : M T) (fp : M KT) : M KT := bnd fk fun k => bnd fv fun v => bnd (lft (if v.imm then keyOf k else none)) fun q => bnd fp fun ps => ret ((q, v) :: ps)
theorem pp_nil : PPm g X pos [] [] mPnil [] := ⟨[], pps_nil, fun σ H Q ⟨S, Ts, A, ps, Ts', R, e, k⟩ => by
  have e : some (([] : KT), Ts) = some (ps, Ts') := e
  injection e with e
  injection e with h1 h2
  subst h1; subst h2
  exact k [] H S A R rfl ⟨rfl, rfl⟩ Po.refl Stb.refl⟩
theorem pp_cons {kx vx : Expr} {ks : List (Option Expr)} {vs : List Expr} {fp : M KT} (hk : PEm g X kx fa e1 []) (hv : PEm g X vx fb e2 []) (hr : PPm g X pos ks vs fp e3) : PPm g X pos (some kx :: ks) (vx :: vs) (mPcons fa fb fp) (e1 ++ e2 ++ e3) := by
  obtain ⟨trs, h1, h2⟩ := hr.ex
  refine ⟨_, pps_cons hk hv h1, fun σ H Q ⟨S, Ts, A, ps, Ts', R, e, k⟩ => ?_⟩
  obtain ⟨tk, Ts1, ek, f1⟩ := bnd_some e
  obtain ⟨tv, Ts2, ev, f2⟩ := bnd_some f1
  obtain ⟨q, Ts3, f3, f4⟩ := bnd_some f2
  obtain ⟨f5, f6⟩ := lft_some f3
  subst f6
  obtain ⟨ps', Ts4, ep, f7⟩ := bnd_some f4
  have f8 : some ((q, tv) :: ps', Ts4) = some (ps, Ts') := f7
  injection f8 with f8
  injection f8 with z1 z2
  subst z1; subst z2
  split at f5
  · rename_i hi
    refine ⟨S, Ts, A, tk, Ts1, R, ek, fun x H1 S1 A1 Ax R1 rx ox p1 s1 => ⟨S1, Ts1, A1, tv, _, R1, ev, fun y H2 S2 A2 Ay R2 ry oy p2 s2 => ?_⟩⟩
    obtain ⟨ex, _⟩ := keyOf_rep f5 rx
    have eA := Rp.imm_nil _ _ _ ry hi
    subst eA
    refine h2 σ H2 _ ⟨S2, _, A2, ps', Ts4, R2, ep, fun kvs H3 S3 A3 R3 ek rl p3 s3 => ?_⟩
    have ry3 := ry.held R2 oy p3 s3 (fun _ z => nomatch z)
    have hk' := k ((q, y) :: kvs) H3 S3 A3 R3 (by simp [ek]) ⟨y, kvs.map Prod.snd, [], [], rfl, rfl, ry3, rl⟩ (p1.trans R (p2.trans R1 p3)) ((s1.trans s2).trans s3)
    rw [ex]
    exact hk'
  · cases f5
theorem putK_fresh : ∀ {kvs : List (Key × V)} {q : Key} {v : V}, q ∉ kvs.map Prod.fst → putK kvs q v = kvs ++ [(q, v)] := by
  intro kvs q v h
  unfold putK
  rw [if_neg]
  rw [Bool.not_eq_true, List.any_eq_false]
  intro p hp
  have : p.1 ≠ q := fun e => h (e ▸ List.mem_map_of_mem hp)
  simpa using this
theorem mergeK_nodup : ∀ (more kvs : List (Key × V)), ((kvs ++ more).map Prod.fst).Nodup → mergeK kvs more = kvs ++ more
  | [], kvs, _ => by simp [mergeK]
  | m :: more, kvs, h => by
    have h1 : m.1 ∉ kvs.map Prod.fst := fun z => by
      rw [List.map_append, List.nodup_append] at h
      exact h.2.2 _ z _ (by simp) rfl
    show mergeK (putK kvs m.1 m.2) more = _
    rw [putK_fresh h1, mergeK_nodup more (kvs ++ [(m.1, m.2)]) (by simpa using h)]
    simp
def keysDif (ps : KT) : Bool := decide ((ps.map Prod.fst).Nodup) && decide (ps.length ≤ 15)
def mDispN (fp : M KT) : M T := bnd fp fun ps => lft (if keysDif ps then some (.nd (.dK true (ps.map Prod.fst)) (ps.map Prod.snd)) else none)
theorem x_dispN {keys : List (Option Expr)} {values : List Expr} {fp : M KT} {eff : List Nat} (h : PPm g X pos keys values fp eff) (hall : keys.all (·.isSome) = true := by rfl) (hl : keys.length = values.length := by rfl) (h0 : keys ≠ [] := by simp) (h15 : keys.length ≤ 15 := by simp) : PEm g X (.Dict keys values pos) (mDispN fp) eff [] := by
  obtain ⟨trs, h1, h2⟩ := h.ex
  refine PE.imp (pe_disp h1 hall hl h0 h15) fun σ H Q ⟨S, Ts, A, t, Ts', R, q, k⟩ => ?_
  obtain ⟨ps, Ts1, q1, q2⟩ := bnd_some q
  obtain ⟨q5, eT⟩ := lft_some q2
  subst eT
  split at q5
  · rename_i hi
    obtain ⟨hnd, hln⟩ := Bool.and_eq_true_iff.mp hi
    have hnd := of_decide_eq_true hnd
    have hln := of_decide_eq_true hln
    injection q5 with q5
    subst q5
    intro p hp
    have ex := upd_ext (o := .dK []) hp
    have fr := R.fresh hp
    refine h2 _ _ _ ⟨S, Ts, A, ps, Ts', R.ext ex, q1, fun kvs H2 S2 A2 R2 ek rl p12 s12 => ?_⟩
    have eH2 : H2 p = some (.dK []) := p12.keep p _ upd_same fr.2
    have nS : ¬ S2 p := fun h => by
      rcases p12.snew p h with h | ⟨j, hj⟩ | hn
      · exact fr.1 h
      · exact fr.2 j hj
      · rw [upd_same] at hn; cases hn
    have nA : ∀ j, p ∉ A2 j := fun j h => by
      rcases p12.anew j p h with ⟨j', hj'⟩ | hn
      · exact fr.2 j' hj'
      · rw [upd_same] at hn; cases hn
    have hlk : kvs.length = ps.length := by have := congrArg List.length ek; simpa using this
    refine ⟨eH2, kvs, rfl, by omega, ?_⟩
    have em : mergeK [] kvs = (ps.map Prod.fst).zip (kvs.map Prod.snd) := by
      rw [mergeK_nodup kvs [] (by simpa [ek] using hnd), List.nil_append, ← ek]
      clear ek rl hlk
      induction kvs with
      | nil => rfl
      | cons c kvs ih => simp only [List.map_cons, List.zip_cons_cons]; rw [← ih]
    rw [em]
    have Rg := R2.grow (o' := .dK ((ps.map Prod.fst).zip (kvs.map Prod.snd))) eH2 trivial nA nS
    have ry2 : RpL g S2 (upd H2 p (.dK ((ps.map Prod.fst).zip (kvs.map Prod.snd)))) (ps.map Prod.snd) (kvs.map Prod.snd) [] := RpL.grown rl eH2 trivial nS (fun z => nomatch z)
    have back : ∀ a, upd H p (.dK []) a = none → H a = none := fun a hn => by
      by_cases ea : a = p
      · subst ea; rw [upd_same] at hn; cases hn
      · rw [upd_ne ea] at hn; exact hn
    refine k (.ref p) _ S2 A2 [p] Rg ⟨p, kvs.map Prod.snd, [], rfl, ⟨upd_same, by simp [hlk], fun z => nomatch z⟩, rfl, .inl rfl, ry2⟩ ⟨fun a ha => by rw [List.mem_singleton.mp ha]; exact nS, fun j _ a ha => by rw [List.mem_singleton.mp ha]; exact nA j, fun _ => List.nodup_cons.mpr ⟨(fun z => nomatch z), List.nodup_nil⟩, fun a ha => by rw [List.mem_singleton.mp ha]; exact .inr hp⟩ ⟨fun a ob e n => ?_, p12.sub, fun a h => ?_, fun j a h => ?_⟩ fun j hj => ?_
    · rw [upd_ne (ne_of_none e hp)]; exact p12.keep a ob (ex a ob e) n
    · rcases p12.snew a h with h | h | hn
      · exact .inl h
      · exact .inr (.inl h)
      · exact .inr (.inr (back a hn))
    · rcases p12.anew j a h with h | hn
      · exact .inl h
      · exact .inr (back a hn)
    · obtain ⟨y1, y2, y3⟩ := s12 j hj
      exact ⟨y1, y2, fun a ha ob e => by rw [upd_ne (ne_of_none e hp)]; exact y3 a ha ob (ex a ob e)⟩
  · cases q5
end
end MI
/-! N3: a def that calls itself: no fuel, no promise. -/
namespace MI
open PySem PySem.Spec PyProof.Rows L2
theorem FnG.none {P : Program} {w : World} {K : PySem.W.Frag} {mg : Str → Option Value} {base : Heap} {CX : CXT} {k : Nat} {f : Addr} {fd : FuncData} {ps : List Str} {g : Gc} {io : List Nat} : FnG P w K mg base CX k f fd ps (spT g io fun _ => Option.none) :=
  ⟨fun _ _ _ _ ⟨_, _, _, _, _, _, _, _, _, e, _⟩ => (nomatch e), fun _ _ _ _ _ _ _ _ _ _ _ _ _ _ ⟨_, _, _, _, _, _, _, _, _, e, _⟩ => (nomatch e)⟩
end MI
/-! N4: t[::-1], t a tuple. -/
namespace MI
open PySem PySem.Spec PyProof.Rows L2
/-- the places of a slice that goes back by one, from the last: all of them -/
theorem back_places (n : Nat) : Builtin.Slice.slicePlaces ((n : Int) - 1) (-1) (-1) = n := by
  simp only [Builtin.Slice.slicePlaces, show ¬ ((-1 : Int) > 0) from by decide, if_false, Int.neg_neg, Int.ediv_one]
  by_cases z : (-1 : Int) < (n : Int) - 1
  · rw [if_pos z]; omega
  · rw [if_neg z]; omega
/-- what stands at these places -/
theorem back_items (its : List Value) : (List.range its.length).filterMap (fun m : Nat => its.toArray[(((its.length : Int) - 1) + (m : Int) * (-1)).toNat]?) = its.reverse := by
  have at_ : ∀ m, m < its.length → its.toArray[(((its.length : Int) - 1) + (m : Int) * (-1)).toNat]? = some (its.reverse.getD m .none) := fun m lt => by
    rw [show (((its.length : Int) - 1) + (m : Int) * (-1)).toNat = its.length - 1 - m by omega, List.getElem?_toArray, ← List.getElem?_reverse lt, List.getD_eq_getElem?_getD, List.getElem?_eq_getElem (by simpa using lt)]
    rfl
  have map : ∀ l : List Nat, (∀ m ∈ l, m < its.length) → l.filterMap (fun m : Nat => its.toArray[(((its.length : Int) - 1) + (m : Int) * (-1)).toNat]?) = l.map fun m => its.reverse.getD m .none := fun l => by
    induction l with
    | nil => exact fun _ => rfl
    | cons m l ih => exact fun lt => by rw [List.filterMap_cons, at_ m (lt m List.mem_cons_self), ih fun b hb => lt b (List.mem_cons_of_mem _ hb), List.map_cons]
  rw [map _ fun m hm => List.mem_range.mp hm]
  refine List.ext_getElem (by simp) fun m h1 h2 => ?_
  rw [List.getElem_map, List.getElem_range, List.getD_eq_getElem?_getD, List.getElem?_eq_getElem h2]
  rfl
section
variable {prog : Program} {w : World} {A : Around} {E : Value → Shared → Prop} {s : Shared} {t sl : Addr} {its : List Value} {vl vu vs : Value}
/-- the slice object of t[::-1], asked for its first place, its step and how many -/
theorem back_applied {n : Nat} {Q : Int × Int × Nat → Shared → Prop} (at_ : s.heap.IsSliceOf sl vl vu vs) (pl : IsPart vl none) (pu : IsPart vu none) (ps : IsPart vs (some (-1))) (q : Q ((n : Int) - 1, -1, n) s) : wpAny (model prog w) A (Builtin.Slice.sliceApplied (.ref sl) (pure (n : Int))) Q E s := by
  obtain ⟨_, g, _, d⟩ := at_
  have q' : Q ((n : Int) - 1, -1, Builtin.Slice.slicePlaces ((n : Int) - 1) (-1) (-1)) s := by rw [back_places]; exact q
  refine wpAny_bind (wpAny_bind (wpAny_field g d rfl (wpAny_bind (wpAny_field g d rfl (wpAny_bind (wpAny_field g d rfl (wpAny_pure ?_)))))))
  refine wpAny_bind (HT.slicePart_ ps (wpAny_bind (HT.slicePart_ pl (wpAny_bind (HT.slicePart_ pu (wpAny_bind (wpAny_pure (wpAny_pure q'))))))))
/-- t[::-1], by the objects -/
theorem back_item {Q : Value → Shared → Prop} (tup : IsTup s.heap t its.toArray) (at_ : s.heap.IsSliceOf sl vl vu vs) (pl : IsPart vl none) (pu : IsPart vu none) (ps : IsPart vs (some (-1))) (few : its.length ≤ sizeLine)
    (q : Q (.ref s.heap.objs.size) { s with heap := s.heap.push { cls := .type "tuple", data := .seq its.reverse.toArray } }) : wpAny (model prog w) A (getItem (.ref t) (.ref sl)) Q E s := by
  have isT := tup.typeIs
  have isS : s.TypeIs (.ref sl) "slice" := at_.elim fun o r => ⟨o, r.1, r.2.1⟩
  have room : sizeOk (.seq its.reverse.toArray) := by show its.reverse.toArray.size ≤ sizeLine; simpa using few
  have size : its.toArray.size = its.length := List.size_toArray
  unfold getItem
  refine wpAny_holding (wpAny_bind (wpAny_sequenceKey isT (by decide) (wpAny_bind (wpAny_callSpecial?_slot (name := Str.ofString "__getitem__") isT slot_tuple_getitem (wpAny_call_entry slot_tuple_getitem isT entry_tuple_getitem ?_ (args_tuple_getitem _ _))))))
  refine wpAny_bind (wpAny_pure (wpAny_bind (tupleItemsOf_ tup (wpAny_bind (wpAny_typeOf isS ?_)))))
  rw [if_pos (by decide)]
  refine wpAny_bind (size ▸ back_applied (n := its.length) at_ pl pu ps ?_)
  simp only [size, back_items]
  rw [if_neg (by simp)]
  exact wpAny_bind (m := Builtin.Tuple.tupleExact _) (wpAny_newObj_type (wpAny_pure ⟨_, rfl, wpAny_pure q⟩) room)
end
section
variable {g : Gc} {X : Cx} {e : Expr} {fa : M T} {e1 b1 : List Nat} {pos p1 p2 p3 : Pos}
def tRevT (K : PySem.W.Frag) (te : TE) : TE := fun σ H Q => te σ H fun x H1 => ∃ a xs, x = .ref a ∧ SqT K H1 a xs ∧ ∀ p, H1 p = none → Q (.ref p) (upd H1 p (.tup xs.reverse))
theorem pe_revT {te : TE} {k : Nat} (he : PE X e te) : PE X (.Subscript e (.Slice none none (some (.UnaryOp .USub (.Constant (.int 1) k p1) p2)) p3) pos) (tRevT X.K te) where
  run pins s σ H Q I h := by
    have step : PO X (some (.UnaryOp .USub (.Constant (.int 1) k p1) p2)) (tPart (tUn (rU fun i => .int (-i)) (tC (.int 1)))) := po_some (pe_un un_neg pe_int)
    refine Subscript_ (thn (he.run pins s σ H _ I h) fun v s1 b => ?_)
    obtain ⟨x, H1, J1, rel, a, xs, rfl, sq, q⟩ := b
    have ev : v = Value.ref a := rel
    subst ev
    refine wpAny_Slice (thn (po_none.run pins s1 σ H1 (fun o G => o = none ∧ G = H1) J1 ⟨rfl, rfl⟩) fun vl s2 b => ?_)
    obtain ⟨_, H2, J2, pl, rfl, rfl⟩ := b
    refine thn (po_none.run pins s2 σ H2 (fun o G => o = none ∧ G = H2) J2 ⟨rfl, rfl⟩) fun vu s3 b => ?_
    obtain ⟨_, H3, J3, pu, rfl, rfl⟩ := b
    refine thn (step.run pins s3 σ H3 (fun o G => o = some (-1) ∧ G = H3) J3 ⟨1, rfl, -1, rfl, rfl, rfl⟩) fun vs s4 b => ?_
    obtain ⟨o, H4, J4, ps, rfl, rfl⟩ := b
    have J5 : Inv X pins σ H4 { s4 with heap := s4.heap.push { cls := .type "slice", data := .fields #[vl, vu, vs] } } := J4.kept (t' := s4.toks) fun _ _ g => Heap.get?_push_of_some _ g
    obtain ⟨its, rel, tup, few⟩ := J5.tuple sq
    refine tail_any (ops := [.ref a, .ref s4.heap.objs.size]) tup.typeIs slot_tuple_getitem.lookup (back_item tup (Heap.IsSliceOf.new _ vl vu vs) pl pu ps (rel.length ▸ few) ⟨.ref _, _, J5.laid (t' := s4.toks) (o := .tup xs.reverse) (fun _ _ g => Heap.get?_push_of_some _ g) Nat.le.refl ?_, rfl, q _ (J5.hok.fresh Nat.le.refl)⟩) (by with_unfolding_all rfl)
    exact ⟨by simpa using few, its.reverse, rel.reverse, _, Heap.get?_push_size _ rfl, rfl, _, rfl⟩
theorem pe_or {t t' : TE} (h : PE X e t) (h' : PE X e t') : PE X e (fun σ H Q => t σ H Q ∨ t' σ H Q) := ⟨fun pins s σ H Q I q => q.elim (h.run pins s σ H Q I) (h'.run pins s σ H Q I)⟩
/-- t[::-1]: of a tuple or a list -/
def fRev (t : T) : Option T := match t with
  | .nd .tup ts => if immL ts then some (.nd .tup ts.reverse) else none
  | .nd (.lst _) ts => if immL ts then some (.nd (.lst true) ts.reverse) else none
  | _ => none
theorem x_rev {k : Nat} (ha : PEm g X e fa e1 b1) (hK : g.K = X.K := by rfl) : PEm g X (.Subscript e (.Slice none none (some (.UnaryOp .USub (.Constant (.int 1) k p1) p2)) p3) pos) (m1 fRev fa) e1 [] := PE.imp (pe_or (pe_revT ha) (pe_revL ha)) fun σ H Q h => by
  obtain ⟨S, Ts, A, t, Ts', R, q0, kk⟩ := h
  obtain ⟨ta, Ts1, ea, q1⟩ := bnd_some q0
  obtain ⟨ef, eT⟩ := lft_some q1
  subst eT
  unfold fRev at ef
  split at ef
  · rename_i ts
    split at ef
    · rename_i hi
      left
      refine ⟨S, Ts, A, _, Ts', R, ea, fun x H1 S1 A1 Ax R1 rx ox p1 s1 => ?_⟩
      injection ef with ef; subst ef
      obtain ⟨a, xs, B, ex, at_, eA, c, r⟩ := rx
      have eB := RpL.imm_nil _ _ _ r hi
      subst eB
      refine ⟨a, xs, ex, hK ▸ At.sqT at_, fun l hl => ?_⟩
      have n : New g S1 H1 _ (.nd .tup ts.reverse) (.ref l) [] := New.tupl hl (RpL.rev r)
      have o : Ow [] H1 A1 S1 A1 [] := Ow.of_new R1 n
      have s2 := s1.trans (Stb.ext (eff := []) (Ts := Ts') (A := A1) n.ext)
      rw [List.append_nil] at s2
      exact kk _ _ S1 A1 [] (R1.ext n.ext) n.rep (o.rebase p1) (p1.trans R (Po.ext n.ext)) s2
    · cases ef
  · rename_i oo ts
    split at ef
    · rename_i hi
      right
      refine ⟨S, Ts, A, _, Ts', R, ea, fun x H1 S1 A1 Ax R1 rx ox p1 s1 => ?_⟩
      injection ef with ef; subst ef
      obtain ⟨a, xs, B, ex, at_, eA, c, r⟩ := rx
      have eB := RpL.imm_nil _ _ _ r hi
      subst eB
      refine ⟨a, xs, ex, hK ▸ at_.sqL, fun l hl => ?_⟩
      have n : New g S1 H1 _ (.nd (.lst true) ts.reverse) (.ref l) [l] := New.node hl (RpL.rev r)
      have o : Ow [] H1 A1 S1 A1 [l] := Ow.of_new R1 n
      have s2 := s1.trans (Stb.ext (eff := []) (Ts := Ts') (A := A1) n.ext)
      rw [List.append_nil] at s2
      exact kk _ _ S1 A1 [l] (R1.ext n.ext) n.rep (o.rebase p1) (p1.trans R (Po.ext n.ext)) s2
    · cases ef
  · cases ef
end
end MI
/-! N5: list(reversed(xs)), xs a list. -/
namespace MI
open PySem PySem.Spec PyProof.Rows L2
section
variable {prog : Program} {w : World} {A : Around} {E : Value → Shared → Prop} {s : Shared}
/-- a list's items from the last on, put to a new list -/
theorem back_list {S it l : Addr} {items : Array Value} {R : Result → Shared → Prop} (calm : A.handled = none) (iter : s.heap.IsRevIter it l ((items.size : Int) - 1)) (lst : s.heap.IsList l items) (new : s.heap.get? S = some { cls := .type "list", data := .seq #[] }) (ni : S ≠ it) (nl : S ≠ l) (li : l ≠ it) (few : items.size ≤ sizeLine)
    (fin : ∀ h' tk acc c, (∀ b o, b ≠ S → b ≠ it → s.heap.get? b = some o → h'.get? b = some o) → h'.get? S = some { cls := .type "list", dict := none, data := .seq acc c, slots := #[] } → ItemsOf (fun i v => items[items.size - 1 - i]? = some v) acc items.size → R (.ok (.ret .none)) { s with heap := h', toks := tk }) :
    wpAny (model prog w) A.in1 (Builtin.«list.__init__» ⟨[.ref S, .ref it], []⟩) (fun f z => match f with
      | .done f => R (.ok f) z
      | .again c => c.quiet = true ∧ codeAny (model prog w) A c R z) (fun e z => R (.error e) z) s := by
  obtain ⟨hp, gs, dr, tk, os⟩ := s
  have isR : ∀ {h : Heap} {k : Nat}, h.IsRevIter it l ((items.size : Int) - 1) → Shared.TypeIs ⟨h, gs, dr, k, os⟩ (.ref it) "list_reverseiterator" := fun x => x.typeIs
  unfold Builtin.«list.__init__»
  wp_walk
  have there := Heap.get?_update_self (Obj.mapSeq fun _ => (#[] : Array Value)) new rfl
  have others : ∀ b o, b ≠ S → hp.get? b = some o → (hp.update S (Obj.mapSeq fun _ => #[])).get? b = some o := fun b o ne g => (Heap.get?_update_other _ _ (Ne.symm ne)).trans g
  have iter2 := iter.at fun o g => others it o (Ne.symm ni) g
  have lst2 := lst.at fun o g => others l o (Ne.symm nl) g
  generalize hp.update S (Obj.mapSeq fun _ => #[]) = h2 at *
  obtain ⟨io, at_, cls, _⟩ := id iter2
  have hintId : splitId "list_reverseiterator.__length_hint__" = some ("list_reverseiterator", "__length_hint__") := by decide +kernel
  refine wpAny_loadPart' at_ (wpAny_pure ?_)
  rw [cls, if_neg (by simp [Builtin.List.listSameRef, ni])]
  refine wpAny_bind (wpAny_pyIter_revIter iter2 (wpAny_bind (wpAny_holding ?_)))
  unfold Builtin.List.listLengthHint
  refine wpAny_bind (wpAny_specialOf (isR iter2) RT.nolen_lri ?_)
  refine wpAny_bind (m := specialOf (.ref it) "__length_hint__") (wpAny_specialOf (isR iter2) RT.hint_lri ?_)
  dsimp only
  rw [hintId]
  refine wpAny_bind (wpAny_isInstance (b := true) (isR iter2) (by rw [isSubtype_type]; kernel_rfl) (wpAny_pure ?_))
  rw [if_neg (by decide)]
  have W := (Walks.listRev (prog := prog) (w := w) (A := A.in1) calm it l li items).toS
  refine wpAny_pure ⟨plainId_quiet F.plain_extend_loop _, codeAny_extend_loopS W few S (by simp [ni, nl]) .none items.size 0 _ _ _ rfl (Nat.zero_le _) ⟨Nat.zero_le _, by simpa using iter2, lst2⟩ there (ItemsOf.nil _) fun z acc c mv got all => ?_⟩
  rw [Moved.eq_with mv]
  exact fin z.heap z.toks acc c (fun b o nS nit g => mv.heap b o (by simp [nS, nit]) (others b o nS g)) got all
end
section
variable {X : Cx}
def tLstRev (K : PySem.W.Frag) (te : TE) : TE := fun σ H Q => te σ H fun v H1 => ∃ (a : Addr) (xs : List V), v = .ref a ∧ SqL K H1 a xs ∧ ∀ q, H1 q = none → Q (.ref q) (upd H1 q (.lst xs.reverse))
/-- the items of such a list stand for the values from the last on -/
theorem back_vals {xs : List V} {its : List Value} {acc : Array Value} (rel : Vals xs its) (all : ItemsOf (fun i v => its.toArray[its.toArray.size - 1 - i]? = some v) acc its.toArray.size) : Vals xs.reverse acc.toList := by
  have e : acc.toList = its.reverse := by
    obtain ⟨n, each⟩ := all
    refine List.ext_getElem? fun i => ?_
    by_cases lt : i < its.length
    · have g := each i (acc[i]'(by rw [n]; simpa using lt)) (by simp [n, lt])
      rw [List.getElem?_reverse lt, Array.getElem?_toList, Array.getElem?_eq_getElem (by rw [n]; simpa using lt)]
      simpa using g.symm
    · rw [List.getElem?_eq_none (by simp at n ⊢; omega), List.getElem?_eq_none (by simp; omega)]
  rw [e]; exact rel.reverse
theorem pe_lstRev {e : Expr} {te : TE} {p p2 pos pos2 : Pos} (hc : X.calm = true) (hg : Gl X "list") (hm : X.mg "list" = none) (hg2 : Gl X "reversed") (hm2 : X.mg "reversed" = none) (he : PE X e te) (hs : starEach [e] X.env = (false, eval e X.env) :: starEach [] X.env := by rfl)
    (hs2 : starEach [.Call (.Name "reversed" p2) [e] [] pos2] X.env = (false, eval (.Call (.Name "reversed" p2) [e] [] pos2) X.env) :: starEach [] X.env := by rfl) : PE X (.Call (.Name "list" p) [.Call (.Name "reversed" p2) [e] [] pos2] [] pos) (tLstRev X.K te) where
  run pins s σ H Q I h := by
    refine Call_ (ld_blt I hg hm boot_list (callWith_type1 (args_cons (Call_ (ld_blt I hg2 hm2 boot_reversed (callWith_type1 (args_cons (thn (he.run pins s σ H _ I h) fun u s1 b => args_nil ?_) hs) hs rfl))) hs2) hs2 rfl))
    obtain ⟨_, H1, J, rel, a, xs, rfl, sq, q⟩ := b
    have eu : u = Value.ref a := rel
    subst eu
    obtain ⟨its, vals, pl, few⟩ := J.list sq
    have lst := pl.isList
    have la : a < s1.heap.objs.size := lst.elim fun _ r => Heap.lt_size r.1
    have fewI : its.toArray.size ≤ sizeLine := by rw [List.size_toArray, ← vals.length]; exact few
    refine call_reversed_list lst (args_nil ?_)
    generalize eh : s1.heap.push (revObj a ((its.toArray.size : Int) - 1)) = h1
    have sz : h1.objs.size = s1.heap.objs.size + 1 := by rw [← eh]; exact Heap.size_push ..
    have all : ∀ b o, s1.heap.get? b = some o → h1.get? b = some o := fun b o g => by rw [← eh]; exact Heap.get?_push_of_some _ g
    have iter : h1.IsRevIter s1.heap.objs.size a ((its.toArray.size : Int) - 1) := by rw [← eh]; exact ⟨_, Heap.get?_push_size _ rfl, rfl, rfl⟩
    have le : s1.heap.objs.size ≤ h1.objs.size := sz ▸ Nat.le_succ _
    refine callType_codes (Q₁ := fun obj z => obj = .ref h1.objs.size ∧ z = { s1 with heap := h1.push { cls := .type "list", data := .seq #[] } }) PySem.F.called_list (PySem.F.typeCall_list_1 _) PySem.F.entry_list_init (code_list_new _ ⟨rfl, rfl⟩) ?_
    rintro _ _ ⟨rfl, rfl⟩
    have new : (h1.push { cls := .type "list", data := .seq #[] }).get? h1.objs.size = some { cls := .type "list", data := .seq #[] } := Heap.get?_push_size _ rfl
    have more : ∀ b o, h1.get? b = some o → (h1.push { cls := .type "list", data := .seq #[] }).get? b = some o := fun b o g => Heap.get?_push_of_some _ g
    refine ⟨⟨_, new, rfl⟩, PySem.F.args_list_init_2 _ _, back_list (s := { s1 with heap := h1.push { cls := .type "list", data := .seq #[] } }) (A := X.A.in1) (J.ok.hd hc) (iter.at fun o g => more _ o g) (lst.at fun o g => more _ o (all _ o g)) new (by rw [sz]; exact Nat.succ_ne_self _) (by rw [sz]; exact Nat.ne_of_gt (Nat.lt_succ_of_lt la)) (Nat.ne_of_lt la) fewI fun h' tk acc c keep got items => ⟨rfl, .ref h1.objs.size, _, J.laid (t' := tk) (o := .lst xs.reverse) (fun b o g => keep b o (Nat.ne_of_lt (Nat.lt_of_lt_of_le (Heap.lt_size g) le)) (Nat.ne_of_lt (Heap.lt_size g)) (more b o (all b o g))) le ⟨by simpa using few, acc.toList, c, back_vals vals items, by rw [Array.toArray_toList]; exact got⟩, rfl, q _ (J.hok.fresh le)⟩⟩
end
section
variable {g : Gc} {X : Cx} {e : Expr} {fa : M T} {e1 b1 : List Nat} {pos pos2 p p2 : Pos}
/-- list(reversed(xs)) -/
theorem b_lstRev (hc : X.calm = true) (hm : X.mg "list" = none) (hm2 : X.mg "reversed" = none) (ha : PEm g X e fa e1 b1) (hK : g.K = X.K := by rfl) (hg : Gl X "list" := by rfl) (hg2 : Gl X "reversed" := by rfl)
    (hs : starEach [e] X.env = (false, eval e X.env) :: starEach [] X.env := by rfl)
    (hs2 : starEach [.Call (.Name "reversed" p2) [e] [] pos2] X.env = (false, eval (.Call (.Name "reversed" p2) [e] [] pos2) X.env) :: starEach [] X.env := by rfl) :
    PEm g X (.Call (.Name "list" p) [.Call (.Name "reversed" p2) [e] [] pos2] [] pos) (m1 fRevL fa) e1 [] := PE.imp (pe_lstRev hc hg hm hg2 hm2 ha hs hs2) fun σ H Q h => by
  obtain ⟨S, Ts, A, t, Ts', R, q0, kk⟩ := h
  obtain ⟨ta, Ts1, ea, q1⟩ := bnd_some q0
  obtain ⟨ef, eT⟩ := lft_some q1
  subst eT
  refine ⟨S, Ts, A, ta, Ts', R, ea, fun x H1 S1 A1 Ax R1 rx ox p1 s1 => ?_⟩
  unfold fRevL at ef
  split at ef
  · rename_i o ts
    split at ef
    · rename_i hi
      injection ef with ef; subst ef
      obtain ⟨a, xs, B, ex, at_, eA, c, r⟩ := rx
      have eB := RpL.imm_nil _ _ _ r hi
      subst eB
      refine ⟨a, xs, ex, hK ▸ at_.sqL, fun l hl => ?_⟩
      have n : New g S1 H1 _ (.nd (.lst true) ts.reverse) (.ref l) [l] := New.node hl (RpL.rev r)
      have o : Ow [] H1 A1 S1 A1 [l] := Ow.of_new R1 n
      have s2 := s1.trans (Stb.ext (eff := []) (Ts := Ts') (A := A1) n.ext)
      rw [List.append_nil] at s2
      exact kk _ _ S1 A1 [l] (R1.ext n.ext) n.rep (o.rebase p1) (p1.trans R (Po.ext n.ext)) s2
    · cases ef
  · cases ef
end
end MI
namespace MI
open PySem PySem.Spec PyProof.Rows L2 He
abbrev PG : Program := PySem.Challenge.pw_pairsums_k06_whole_values_put_together
def top (i : Nat) : Stmt := PG.main.body.getD i (.Pass ⟨0, 0, 0, 0⟩)
def clsB : Stmt → List Stmt
  | .ClassDef (body := b) .. => b
  | _ => []
def sub (i j : Nat) : Stmt := (clsB (top i)).getD j (.Pass ⟨0, 0, 0, 0⟩)
def fn : List He5.DefA := [dfA (fun K => ga K "_law_dip") "_law_dip" "_law_dip" (defArgs (top 44)) (defBody (top 44)) (defScope (top 44)), dfA (fun K => ga K "_law_one_of") "_law_one_of" "_law_one_of" (defArgs (top 46)) (defBody (top 46)) (defScope (top 46)), dfA (fun K => ga K "_law_labels") "_law_labels" "_law_labels" (defArgs (top 47)) (defBody (top 47)) (defScope (top 47)), dfA (fun K => ga K "_law_some_kind") "_law_some_kind" "_law_some_kind" (defArgs (top 48)) (defBody (top 48)) (defScope (top 48)), dfA (fun K => ga K "_law_chart") "_law_chart" "_law_chart" (defArgs (top 49)) (defBody (top 49)) (defScope (top 49)), dfA (fun K => ga K "is_one_of") "is_one_of" "is_one_of" (defArgs (top 23)) (defBody (top 23)) (defScope (top 23)), dfA (fun K => ga K "is_integer") "is_integer" "is_integer" (defArgs (top 20)) (defBody (top 20)) (defScope (top 20)), dfA (fun K => ga K "is_between") "is_between" "is_between" (defArgs (top 21)) (defBody (top 21)) (defScope (top 21)), dfA (fun K => ga K "is_kind") "is_kind" "is_kind" (defArgs (top 26)) (defBody (top 26)) (defScope (top 26)), dfA (fun K => ga K "is_name") "is_name" "is_name" (defArgs (top 22)) (defBody (top 22)) (defScope (top 22)), dfA (fun K => ga K "are_fresh") "are_fresh" "are_fresh" (defArgs (top 30)) (defBody (top 30)) (defScope (top 30)), dfA (fun K => ga K "is_column") "is_column" "is_column" (defArgs (top 31)) (defBody (top 31)) (defScope (top 31)), dfA (fun K => ga K "form_until") "form_until" "form_until" (defArgs (top 32)) (defBody (top 32)) (defScope (top 32)), dfA (fun K => ga K "are_different") "are_different" "are_different" (defArgs (top 24)) (defBody (top 24)) (defScope (top 24)), dfA (fun K => ga K "is_pair") "is_pair" "is_pair" (defArgs (top 33)) (defBody (top 33)) (defScope (top 33)), dfA (fun K => ga K "data_until") "data_until" "data_until" (defArgs (top 34)) (defBody (top 34)) (defScope (top 34)), dfA (fun K => ga K "parts_from") "parts_from" "parts_from" (defArgs (top 38)) (defBody (top 38)) (defScope (top 38)), dfA (fun K => ma K (ga K "Table") "__init__") "__init__" "Table.__init__" (defArgs (sub 37 0)) (defBody (sub 37 0)) (defScope (sub 37 0)), dfA (fun K => ga K "_law_made") "_law_made" "_law_made" (defArgs (top 50)) (defBody (top 50)) (defScope (top 50)), dfA (fun K => ga K "_law_pairs") "_law_pairs" "_law_pairs" (defArgs (top 45)) (defBody (top 45)) (defScope (top 45)), dfA (fun K => ga K "_law_small") "_law_small" "_law_small" (defArgs (top 54)) (defBody (top 54)) (defScope (top 54)), dfA (fun K => ga K "_law_together") "_law_together" "_law_together" (defArgs (top 51)) (defBody (top 51)) (defScope (top 51)), dfA (fun K => pgA K "Table" "data") "data" "Table.data" (defArgs (sub 37 4)) (defBody (sub 37 4)) (defScope (sub 37 4)), dfA (fun K => ga K "is_value") "is_value" "is_value" (defArgs (top 28)) (defBody (top 28)) (defScope (top 28)), dfA (fun K => ga K "check_values") "check_values" "check_values" (defArgs (top 42)) (defBody (top 42)) (defScope (top 42)), dfA (fun K => pgA K "Table" "cells") "cells" "Table.cells" (defArgs (sub 37 5)) (defBody (sub 37 5)) (defScope (sub 37 5)), dfA (fun K => ga K "together") "together" "together" (defArgs (top 27)) (defBody (top 27)) (defScope (top 27)), dfA (fun K => ga K "data_of") "data_of" "data_of" (defArgs (top 39)) (defBody (top 39)) (defScope (top 39)), dfA (fun K => ga K "sum_of") "sum_of" "sum_of" (defArgs (top 40)) (defBody (top 40)) (defScope (top 40)), dfA (fun K => ga K "full_of") "full_of" "full_of" (defArgs (top 41)) (defBody (top 41)) (defScope (top 41)), dfA (fun K => ma K (ga K "Table") "full") "full" "Table.full" (defArgs (sub 37 8)) (defBody (sub 37 8)) (defScope (sub 37 8)), dfA (fun K => ga K "_law_places") "_law_places" "_law_places" (defArgs (top 52)) (defBody (top 52)) (defScope (top 52)), dfA (fun K => ga K "_law_right") "_law_right" "_law_right" (defArgs (top 55)) (defBody (top 55)) (defScope (top 55)), dfA (fun K => ga K "_law_jar") "_law_jar" "_law_jar" (defArgs (top 53)) (defBody (top 53)) (defScope (top 53)), dfA (fun K => ga K "law") "law" "law" (defArgs (top 56)) (defBody (top 56)) (defScope (top 56))]
def fa : List (PySem.W.Frag → Bool) := [fun K => (Fa.free "divmod").ok K, fun K => (Fa.free "int").ok K, fun K => (Fa.free "len").ok K, fun K => (Fa.glo "_law_dip").ok K, fun K => (Fa.free "range").ok K, fun K => (Fa.glo "_law_one_of").ok K, fun K => (Fa.free "max").ok K, fun K => (Fa.free "min").ok K, fun K => (Fa.glo "_law_labels").ok K, fun K => (Fa.glo "_law_some_kind").ok K, fun K => (Fa.free "isinstance").ok K, fun K => (Fa.free "str").ok K, fun K => (Fa.free "bool").ok K, fun K => (Fa.glo "is_integer").ok K, fun K => (Fa.str "PLAIN" "plain").ok K, fun K => (Fa.str "BITS" "bits").ok K, fun K => (Fa.int "MOST_DIAL" 1000000000).ok K, fun K => (Fa.int "LEAST_DIAL" 3).ok K, fun K => (Fa.glo "is_one_of").ok K, fun K => (Fa.glo "is_between").ok K, fun K => (Fa.int "MOST_LETTERS" 8).ok K, fun K => (Fa.str "LETTERS" "abcdefghijklmnopqrstuvwxyz").ok K, fun K => (Fa.free "all").ok K, fun K => (Fa.free "tuple").ok K, fun K => (Fa.free "set").ok K, fun K => (Fa.glo "is_name").ok K, fun K => (Fa.glo "are_fresh").ok K, fun K => (Fa.free "enumerate").ok K, fun K => (Fa.int "MOST_COLUMNS" 8).ok K, fun K => (Fa.glo "is_column").ok K, fun K => (Fa.glo "are_different").ok K, fun K => (Fa.int "MOST_SUMS" 10).ok K, fun K => (Fa.int "MOST_DATA" 24).ok K, fun K => (Fa.glo "is_pair").ok K, fun K => (Fa.free "list").ok K, fun K => (Fa.cls "Table").ok K, fun K => (Fa.noat "Table" "kind").ok K, fun K => (Fa.noat "Table" "columns").ok K, fun K => (Fa.noat "Table" "held").ok K, fun K => (Fa.glo "is_kind").ok K, fun K => (Fa.glo "form_until").ok K, fun K => (Fa.glo "data_until").ok K, fun K => (Fa.glo "parts_from").ok K, fun K => (Fa.glo "Table").ok K, fun K => (Fa.mkr "Table").ok K, fun K => (Fa.glo "_law_pairs").ok K, fun K => (Fa.int "MOST_BITS" 60).ok K, prB "Table" "data", fun K => (Fa.int "MOST_VALUE" 1000000000000000000000000000000).ok K, fun K => (Fa.glo "is_value").ok K, fun K => (Fa.free "sum").ok K, fun K => (Fa.glo "together").ok K, fun K => (Fa.glo "data_of").ok K, prB "Table" "cells", fun K => (Fa.glo "sum_of").ok K, fun K => (Fa.glo "check_values").ok K, fun K => (Fa.glo "full_of").ok K, fun K => (Fa.meth "Table" "full").ok K, fun K => (Fa.free "repr").ok K, fun K => (Fa.free "sorted").ok K, fun K => (Fa.glo "_law_chart").ok K, fun K => (Fa.glo "_law_made").ok K, fun K => (Fa.glo "_law_small").ok K, fun K => (Fa.glo "_law_together").ok K, fun K => (Fa.glo "_law_places").ok K, fun K => (Fa.free "abs").ok K, fun K => (Fa.glo "_law_right").ok K, fun K => (Fa.glo "_law_jar").ok K, fun K => (Fa.glo "law").ok K]
def nm0 : List PySem.Str := ["_wall", "__name__", "WrongValue", "InvalidText", "InvalidKind", "InvalidColumns", "InvalidValues", "MOST_COLUMNS", "MOST_SUMS", "MOST_DATA", "LEAST_DIAL", "MOST_DIAL", "MOST_BITS", "MOST_VALUE", "LETTERS", "DIGITS", "MOST_LETTERS", "BITS", "PLAIN", "is_integer", "is_between", "is_name", "is_one_of", "are_different", "number_in", "is_kind", "together", "is_value", "are_fresh", "is_column"]
def nm1 : List PySem.Str := ["form_until", "is_pair", "data_until", "parts_in", "table_with", "Table", "parts_from", "data_of", "sum_of", "full_of", "check_values", "_law_dip", "_law_pairs", "_law_one_of", "_law_labels", "_law_some_kind", "_law_chart", "_law_made", "_law_together", "_law_places", "_law_jar", "_law_small", "_law_right"]
def names : List PySem.Str := nm0 ++ nm1
abbrev R : PySem.W.OpenRow := PySem.W.OpenLaw.row PySem.Challenge.rw_pairsums_k06_whole_values_put_together
abbrev hk : PySem.W.Hook := hookM 7 fa fn
def ob (s : PySem.W.SharedT) : Bool × AlD := lookG 7 fa fn (HandSHeadRun.getT s)
theorem ob_eq (s : PySem.W.SharedT) : ob s = hk.obs s.abs := lookG_eq (HandSHeadRun.getT_eq s)
theorem run (w : World) : HandSHeadRun.RunEq R (PySem.W.view R.prog [56]) hk ob 10000 names w := by
  intro os
  kernel_rfl
section
variable {w : World} {K : PySem.W.Frag} {mg : Str → Option Value} {base h : Heap}
def N__law_dip : List Str := ["_law_jar_here", "_law_top", "_law_digit"]
def m__law_dip : M Fl := (mSeq (mSetI 0 (mHere 0) (mC (.int 2)) (mFrz (m2 fAdd (m2 fIx (mRd 0) (mC (.int 2))) (mC (.int 1))))) (mSeq (mIfS (asB (m2 fGt (m2 fIx (mRd 0) (mC (.int 0))) (mC (.int 0)))) (mSeq (mSetP 0 (mHere 0) (mC (.int 0)) 2 (mF (c2 fDivmod) (mCons (m2 fIx (mRd 0) (mC (.int 0))) (mCons (mRd 1) mNil)))) (mRet (mIm (mRd 2)))) (ret .nx)) (mSeq (mSetI 0 (mHere 0) (mC (.int 1)) (m2 (fII iMod) (mF (c1 fInt) (mCons (m2 fAdd (m2 fMul (m2 fIx (mRd 0) (mC (.int 1))) (mC (.int 48271))) (m2 fMul (mC (.int 30011)) (m2 fIx (mRd 0) (mC (.int 2))))) mNil)) (mC (.int 2147483399)))) (mRet (m2 (fII iMod) (mF (c1 fInt) (mCons (m2 (fII iDiv) (m2 fIx (mRd 0) (mC (.int 1))) (mC (.int 512))) mNil)) (mRd 1))))))
def c__law_dip : Cal := runB 2 3 [0] m__law_dip
theorem f__law_dip (c : SaysM fa fn K) (KX : K.In h) (Gm : h.Ns mainGlobals mg) : ∃ fd, (∀ base : Heap, FnG PG w K mg base CX0 2 (ga K "_law_dip") fd ["_law_jar_here", "_law_top"] (spT ⟨K, ga K⟩ [0] c__law_dip)) ∧ Binds K fd ["_law_jar_here", "_law_top"] [] ∧ KwB K fd ["_law_jar_here", "_law_top"] 0 ∧ FunD K "_law_dip" "_law_dip" (defArgs (top 44)) (defBody (top 44)) (defScope (top 44)) [] [] (ga K "_law_dip") fd := by
  obtain ⟨fd, FD⟩ := c.defs.def_ 0
  have h_free_divmod := free_ok KX Gm (c.fact 0)
  have h_free_int := free_ok KX Gm (c.fact 1)
  refine ⟨fd, fun base => ?bd0, FunD.bindsN FD fun kV doc pm an cdv ct us hl => ?b1, FunD.kwb FD fun kV doc pm an cdv ct us ws hl hl2 => ?b2, FD⟩
  case bd0 =>
    refine fn_g (N := N__law_dip) (m := m__law_dip) FD ⟨rfl, rfl, rfl, by decide +kernel, rfl, by decide +kernel, by decide +kernel⟩ (by decide) ?_
    intro cdv A outer s H E hG hr
    have hN : (cxOf CX0 PG w K mg base N__law_dip "_law_dip" (defScope (top 44)) (ga K "_law_dip") cdv A outer s H E).nox.N.Nodup := (by decide : N__law_dip.Nodup)
    exact ⟨_, _, (tss_cons (ts_setI (tm_frz (x_add (x_ix hr (v 0) tm_int) tm_int)) (hv 0) tm_int) (tss_cons (ts_if (t_cmp cGt (x_ix hr (v 0) tm_int) tm_int) (tss_cons (ts_setP rfl rfl (b_divmod h_free_divmod (tms_cons (x_ix hr (v 0) tm_int) (tms_cons (v 1) tms_nil))) (hv 0) tm_int (pg_name hN rfl (.inl rfl) (.inl rfl))) (tss_one (ts_ret (vi 2)))) tss_nil) (tss_cons (ts_setI (x_mod (b_int h_free_int (tms_cons (x_add (x_mul (x_ix hr (v 0) tm_int) tm_int) (x_mul tm_int (x_ix hr (v 0) tm_int))) tms_nil)) tm_int) (hv 0) tm_int) (tss_one (ts_ret (x_mod (b_int h_free_int (tms_cons (x_div (x_ix hr (v 0) tm_int) tm_int) tms_nil)) (v 1))))))), by decide⟩
  case b1 => exact match us, hl with | [_, _], _ => rfl
  case b2 => exact match us, ws, hl, hl2 with | [], [_, _], _, _ => rfl
def N__law_one_of : List Str := ["_law_jar_here", "_law_some"]
def m__law_one_of : M Fl := (mRet (mIm (m2 fIx (mRd 1) (mCall c__law_dip [(some 0), none] (mCons (mLn 0) (mCons (mF (c1 fLen) (mCons (mRd 1) mNil)) mNil))))))
def c__law_one_of : Cal := runB 2 2 [0] m__law_one_of
theorem f__law_one_of (c : SaysM fa fn K) (KX : K.In h) (Gm : h.Ns mainGlobals mg) : ∃ fd, (∀ base : Heap, FnG PG w K mg base CX0 4 (ga K "_law_one_of") fd ["_law_jar_here", "_law_some"] (spT ⟨K, ga K⟩ [0] c__law_one_of)) ∧ Binds K fd ["_law_jar_here", "_law_some"] [] ∧ KwB K fd ["_law_jar_here", "_law_some"] 0 ∧ FunD K "_law_one_of" "_law_one_of" (defArgs (top 46)) (defBody (top 46)) (defScope (top 46)) [] [] (ga K "_law_one_of") fd := by
  obtain ⟨fd, FD⟩ := c.defs.def_ 1
  have h_free_len := free_ok KX Gm (c.fact 2)
  obtain ⟨fd__law_dip, F__law_dip, b__law_dip, w__law_dip, d__law_dip⟩ := f__law_dip (w := w) c KX Gm
  have k__law_dip := d__law_dip.kp
  have g__law_dip := glo_ok KX Gm (c.fact 3)
  refine ⟨fd, fun base => ?bd0, FunD.bindsN FD fun kV doc pm an cdv ct us hl => ?b1, FunD.kwb FD fun kV doc pm an cdv ct us ws hl hl2 => ?b2, FD⟩
  case bd0 =>
    have F__law_dip := F__law_dip base
    refine fn_g (N := N__law_one_of) (m := m__law_one_of) FD ⟨rfl, rfl, rfl, by decide +kernel, rfl, by decide +kernel, by decide +kernel⟩ (by decide) ?_
    intro cdv A outer s H E hG hr
    have hN : (cxOf CX0 PG w K mg base N__law_one_of "_law_one_of" (defScope (top 46)) (ga K "_law_one_of") cdv A outer s H E).nox.N.Nodup := (by decide : N__law_one_of.Nodup)
    exact ⟨_, _, (tss_one (ts_ret (tm_im (x_ix hr (v 1) (tm_call (F__law_dip.monoG (by decide)) hG hr (by rfl) g__law_dip k__law_dip b__law_dip (tmc_lend (nv 0) (tmc_arg (b_len h_free_len (tms_cons (v 1) tms_nil)) tmc_nil))))))), by decide⟩
  case b1 => exact match us, hl with | [_, _], _ => rfl
  case b2 => exact match us, ws, hl, hl2 with | [], [_, _], _, _ => rfl
def N__law_labels : List Str := ["_law_jar_here", "_law_menu", "_law_found", "_law_start", "_law_gap", "_law_k"]
def m__law_labels : M Fl := (mSeq (mPar 1 2 (mCons (mFrz (mLst (mCons (mC (.str "p")) (mCons (mC (.str "q")) (mCons (mC (.str "r")) (mCons (mC (.str "s")) (mCons (mC (.str "t")) (mCons (mC (.str "u")) (mCons (mC (.str "kind")) (mCons (mC (.str "column")) (mCons (mC (.str "sum")) (mCons (mC (.str "datum")) (mCons (mC (.str "bits")) (mCons (mC (.str "plain")) (mCons (mC (.str "a")) (mCons (mC (.str "b")) mNil)))))))))))))))) (mCons (mLst mNil) mNil))) (mSeq (mSet 1 (mFrz (m2 fAdd (mRd 1) (mLst (mCons (mC (.str "ab")) (mCons (mC (.str "zzzzzzzz")) (mCons (mC (.str "rr")) (mCons (mC (.str "none")) mNil)))))))) (mSeq (mPar 3 4 (mCons (mFrz (mCall c__law_dip [(some 0), none] (mCons (mLn 0) (mCons (mC (.int 18)) mNil)))) (mCons (mFrz (mCall c__law_one_of [(some 0), none] (mCons (mLn 0) (mCons (mFrz (mLst (mCons (mC (.int 1)) (mCons (mC (.int 5)) (mCons (mC (.int 7)) (mCons (mC (.int 11)) mNil)))))) mNil)))) mNil))) (mSeq (mFor (mRng rng1 (mCons (mC (.int 18)) mNil)) (mPut 5) (mDrop (mMut 2 (mHere 2) isLst (mCons (mIm (m2 fIx (mRd 1) (m2 (fII iMod) (mF (c1 fInt) (mCons (m2 fAdd (mRd 3) (m2 fMul (mRd 4) (mRd 5))) mNil)) (mC (.int 18))))) mNil) fAppend))) (mRet (mMv 2))))))
def c__law_labels : Cal := runB 1 6 [0] m__law_labels
theorem f__law_labels (c : SaysM fa fn K) (KX : K.In h) (Gm : h.Ns mainGlobals mg) : ∃ fd, (∀ base : Heap, FnG PG w K mg base CX0 6 (ga K "_law_labels") fd ["_law_jar_here"] (spT ⟨K, ga K⟩ [0] c__law_labels)) ∧ Binds K fd ["_law_jar_here"] [] ∧ KwB K fd ["_law_jar_here"] 0 ∧ FunD K "_law_labels" "_law_labels" (defArgs (top 47)) (defBody (top 47)) (defScope (top 47)) [] [] (ga K "_law_labels") fd := by
  obtain ⟨fd, FD⟩ := c.defs.def_ 2
  have h_free_range := free_ok KX Gm (c.fact 4)
  have h_free_int := free_ok KX Gm (c.fact 1)
  obtain ⟨fd__law_one_of, F__law_one_of, b__law_one_of, w__law_one_of, d__law_one_of⟩ := f__law_one_of (w := w) c KX Gm
  have k__law_one_of := d__law_one_of.kp
  have g__law_one_of := glo_ok KX Gm (c.fact 5)
  obtain ⟨fd__law_dip, F__law_dip, b__law_dip, w__law_dip, d__law_dip⟩ := f__law_dip (w := w) c KX Gm
  have k__law_dip := d__law_dip.kp
  have g__law_dip := glo_ok KX Gm (c.fact 3)
  refine ⟨fd, fun base => ?bd0, FunD.bindsN FD fun kV doc pm an cdv ct us hl => ?b1, FunD.kwb FD fun kV doc pm an cdv ct us ws hl hl2 => ?b2, FD⟩
  case bd0 =>
    have F__law_one_of := F__law_one_of base
    have F__law_dip := F__law_dip base
    refine fn_g (N := N__law_labels) (m := m__law_labels) FD ⟨rfl, rfl, rfl, by decide +kernel, rfl, by decide +kernel, by decide +kernel⟩ (by decide) ?_
    intro cdv A outer s H E hG hr
    have hN : (cxOf CX0 PG w K mg base N__law_labels "_law_labels" (defScope (top 47)) (ga K "_law_labels") cdv A outer s H E).nox.N.Nodup := (by decide : N__law_labels.Nodup)
    exact ⟨_, _, (tss_cons (s_par 1 2 rfl (tms_cons (tm_frz (tm_lst (tms_cons tm_str (tms_cons tm_str (tms_cons tm_str (tms_cons tm_str (tms_cons tm_str (tms_cons tm_str (tms_cons tm_str (tms_cons tm_str (tms_cons tm_str (tms_cons tm_str (tms_cons tm_str (tms_cons tm_str (tms_cons tm_str (tms_cons tm_str tms_nil)))))))))))))))) (tms_cons (tm_lst tms_nil) tms_nil)) hN) (tss_cons (s_set 1 (tm_frz (x_add (v 1) (tm_lst (tms_cons tm_str (tms_cons tm_str (tms_cons tm_str (tms_cons tm_str tms_nil))))))) hN) (tss_cons (s_par 3 4 rfl (tms_cons (tm_frz (tm_call (F__law_dip.monoG (by decide)) hG hr (by rfl) g__law_dip k__law_dip b__law_dip (tmc_lend (nv 0) (tmc_arg tm_int tmc_nil)))) (tms_cons (tm_frz (tm_call (F__law_one_of.monoG (by decide)) hG hr (by rfl) g__law_one_of k__law_one_of b__law_one_of (tmc_lend (nv 0) (tmc_arg (tm_frz (tm_lst (tms_cons tm_int (tms_cons tm_int (tms_cons tm_int (tms_cons tm_int tms_nil)))))) tmc_nil)))) tms_nil)) hN) (tss_cons (ts_for passNox rfl (it_range1 (by rfl) h_free_range (tms_cons tm_int tms_nil)) (gN 5 hN) (tss_one (ts_expr (l_append (hv 2) (tm_im (x_ix hr (v 1) (x_mod (b_int h_free_int (tms_cons (x_add (v 3) (x_mul (v 4) (v 5))) tms_nil)) tm_int))))))) (tss_one (ts_ret (vm 2))))))), by decide⟩
  case b1 => exact match us, hl with | [_], _ => rfl
  case b2 => exact match us, ws, hl, hl2 with | [], [_], _, _ => rfl
def N__law_some_kind : List Str := ["_law_jar_here"]
def m__law_some_kind : M Fl := (mRet (mCall c__law_one_of [(some 0), none] (mCons (mLn 0) (mCons (mFrz (mLst (mCons (mC (.str "bits")) (mCons (mC (.str "plain")) (mCons (mC (.str "bits")) (mCons (mC (.str "plain")) (mCons (mC (.int 3)) (mCons (mC (.int 4)) (mCons (mC (.int 12)) (mCons (mC (.int 9)) (mCons (m2 (fII iPow) (mC (.int 10)) (mC (.int 9))) (mCons (mC (.int 7)) mNil)))))))))))) mNil))))
def c__law_some_kind : Cal := runB 1 1 [0] m__law_some_kind
theorem f__law_some_kind (c : SaysM fa fn K) (KX : K.In h) (Gm : h.Ns mainGlobals mg) : ∃ fd, (∀ base : Heap, FnG PG w K mg base CX0 6 (ga K "_law_some_kind") fd ["_law_jar_here"] (spT ⟨K, ga K⟩ [0] c__law_some_kind)) ∧ Binds K fd ["_law_jar_here"] [] ∧ KwB K fd ["_law_jar_here"] 0 ∧ FunD K "_law_some_kind" "_law_some_kind" (defArgs (top 48)) (defBody (top 48)) (defScope (top 48)) [] [] (ga K "_law_some_kind") fd := by
  obtain ⟨fd, FD⟩ := c.defs.def_ 3
  obtain ⟨fd__law_one_of, F__law_one_of, b__law_one_of, w__law_one_of, d__law_one_of⟩ := f__law_one_of (w := w) c KX Gm
  have k__law_one_of := d__law_one_of.kp
  have g__law_one_of := glo_ok KX Gm (c.fact 5)
  refine ⟨fd, fun base => ?bd0, FunD.bindsN FD fun kV doc pm an cdv ct us hl => ?b1, FunD.kwb FD fun kV doc pm an cdv ct us ws hl hl2 => ?b2, FD⟩
  case bd0 =>
    have F__law_one_of := F__law_one_of base
    refine fn_g (N := N__law_some_kind) (m := m__law_some_kind) FD ⟨rfl, rfl, rfl, by decide +kernel, rfl, by decide +kernel, by decide +kernel⟩ (by decide) ?_
    intro cdv A outer s H E hG hr
    have hN : (cxOf CX0 PG w K mg base N__law_some_kind "_law_some_kind" (defScope (top 48)) (ga K "_law_some_kind") cdv A outer s H E).nox.N.Nodup := (by decide : N__law_some_kind.Nodup)
    exact ⟨_, _, (tss_one (ts_ret (tm_call (F__law_one_of.monoG (by decide)) hG hr (by rfl) g__law_one_of k__law_one_of b__law_one_of (tmc_lend (nv 0) (tmc_arg (tm_frz (tm_lst (tms_cons tm_str (tms_cons tm_str (tms_cons tm_str (tms_cons tm_str (tms_cons tm_int (tms_cons tm_int (tms_cons tm_int (tms_cons tm_int (tms_cons (x_pow tm_int tm_int) (tms_cons tm_int tms_nil)))))))))))) tmc_nil))))), by decide⟩
  case b1 => exact match us, hl with | [_], _ => rfl
  case b2 => exact match us, ws, hl, hl2 with | [], [_], _, _ => rfl
def N__law_chart : List Str := ["_law_jar_here", "_law_most", "_law_sums_most", "_law_data_most", "_law_labels_here", "_law_many", "_law_tags", "_law_found", "_law_k", "_law_tag", "_law_turn", "_law_one", "_law_two"]
def m__law_chart : M Fl := (mSeq (mPar 4 5 (mCons (mFrz (mCall c__law_labels [(some 0)] (mCons (mLn 0) mNil))) (mCons (mFrz (m2 fAdd (mC (.int 1)) (mCall c__law_dip [(some 0), none] (mCons (mLn 0) (mCons (mIm (mRd 1)) mNil))))) mNil))) (mSeq (mPar 6 7 (mCons (mFrz (mSl fCut (mRd 4) (mPt (mC (.int 8))) (mPt (m2 fAdd (mC (.int 9)) (mCall c__law_dip [(some 0), none] (mCons (mLn 0) (mCons (mIm (mRd 2)) mNil))))))) (mCons (mLst mNil) mNil))) (mSeq (mFor (mRng rng1 (mCons (mRd 5) mNil)) (mPut 8) (mDrop (mMut 7 (mHere 7) isLst (mCons (mLst (mCons (mIm (m2 fIx (mRd 4) (mRd 8))) (mCons (mLst mNil) (mCons (mLst mNil) mNil)))) mNil) fAppend))) (mSeq (mFor (mItA (mRd 6)) (mPut 9) (mDrop (mMut 7 (mStepL 7 (mStepL 7 (mHere 7) (mCall c__law_dip [(some 0), none] (mCons (mLn 0) (mCons (mIm (mRd 5)) mNil)))) (mC (.int 1))) isLst (mCons (mIm (mRd 9)) mNil) fAppend))) (mSeq (mFor (mRng rng1 (mCons (mIf (asB (m2 fGt (mF (c1 fLen) (mCons (mRd 6) mNil)) (mC (.int 1)))) (mCall c__law_dip [(some 0), none] (mCons (mLn 0) (mCons (mFrz (m2 fAdd (mRd 3) (mC (.int 1)))) mNil))) (mC (.int 0))) mNil)) (mPut 10) (mSeq (mPar 11 12 (mCons (mFrz (mCall c__law_one_of [(some 0), none] (mCons (mLn 0) (mCons (mIm (mRd 6)) mNil)))) (mCons (mFrz (mCall c__law_one_of [(some 0), none] (mCons (mLn 0) (mCons (mIm (mRd 6)) mNil)))) mNil))) (mIfS (asB (m2 fNe (mRd 11) (mRd 12))) (mDrop (mMut 7 (mStepL 7 (mStepL 7 (mHere 7) (mCall c__law_dip [(some 0), none] (mCons (mLn 0) (mCons (mIm (mRd 5)) mNil)))) (mC (.int 2))) isLst (mCons (mFrz (mTup (mCons (mF (c2 fMin) (mCons (mRd 11) (mCons (mRd 12) mNil))) (mCons (mF (c2 fMax) (mCons (mRd 11) (mCons (mRd 12) mNil))) mNil)))) mNil) fAppend)) (ret .nx)))) (mRet (mLst (mCons (mFrz (mCall c__law_some_kind [(some 0)] (mCons (mLn 0) mNil))) (mCons (mFz 7) mNil)))))))))
def c__law_chart : Cal := runB 4 13 [0] m__law_chart
theorem f__law_chart (c : SaysM fa fn K) (KX : K.In h) (Gm : h.Ns mainGlobals mg) : ∃ fd, (∀ base : Heap, FnG PG w K mg base CX0 8 (ga K "_law_chart") fd ["_law_jar_here", "_law_most", "_law_sums_most", "_law_data_most"] (spT ⟨K, ga K⟩ [0] c__law_chart)) ∧ Binds K fd ["_law_jar_here", "_law_most", "_law_sums_most", "_law_data_most"] [] ∧ KwB K fd ["_law_jar_here", "_law_most", "_law_sums_most", "_law_data_most"] 0 ∧ FunD K "_law_chart" "_law_chart" (defArgs (top 49)) (defBody (top 49)) (defScope (top 49)) [] [] (ga K "_law_chart") fd := by
  obtain ⟨fd, FD⟩ := c.defs.def_ 4
  have h_free_range := free_ok KX Gm (c.fact 4)
  have h_free_len := free_ok KX Gm (c.fact 2)
  have h_free_max := free_ok KX Gm (c.fact 6)
  have h_free_min := free_ok KX Gm (c.fact 7)
  obtain ⟨fd__law_dip, F__law_dip, b__law_dip, w__law_dip, d__law_dip⟩ := f__law_dip (w := w) c KX Gm
  have k__law_dip := d__law_dip.kp
  have g__law_dip := glo_ok KX Gm (c.fact 3)
  obtain ⟨fd__law_labels, F__law_labels, b__law_labels, w__law_labels, d__law_labels⟩ := f__law_labels (w := w) c KX Gm
  have k__law_labels := d__law_labels.kp
  have g__law_labels := glo_ok KX Gm (c.fact 8)
  obtain ⟨fd__law_one_of, F__law_one_of, b__law_one_of, w__law_one_of, d__law_one_of⟩ := f__law_one_of (w := w) c KX Gm
  have k__law_one_of := d__law_one_of.kp
  have g__law_one_of := glo_ok KX Gm (c.fact 5)
  obtain ⟨fd__law_some_kind, F__law_some_kind, b__law_some_kind, w__law_some_kind, d__law_some_kind⟩ := f__law_some_kind (w := w) c KX Gm
  have k__law_some_kind := d__law_some_kind.kp
  have g__law_some_kind := glo_ok KX Gm (c.fact 9)
  refine ⟨fd, fun base => ?bd0, FunD.bindsN FD fun kV doc pm an cdv ct us hl => ?b1, FunD.kwb FD fun kV doc pm an cdv ct us ws hl hl2 => ?b2, FD⟩
  case bd0 =>
    have F__law_dip := F__law_dip base
    have F__law_labels := F__law_labels base
    have F__law_one_of := F__law_one_of base
    have F__law_some_kind := F__law_some_kind base
    refine fn_g (N := N__law_chart) (m := m__law_chart) FD ⟨rfl, rfl, rfl, by decide +kernel, rfl, by decide +kernel, by decide +kernel⟩ (by decide) ?_
    intro cdv A outer s H E hG hr
    have hN : (cxOf CX0 PG w K mg base N__law_chart "_law_chart" (defScope (top 49)) (ga K "_law_chart") cdv A outer s H E).nox.N.Nodup := (by decide : N__law_chart.Nodup)
    exact ⟨_, _, (tss_cons (s_par 4 5 rfl (tms_cons (tm_frz (tm_call (F__law_labels.monoG (by decide)) hG hr (by rfl) g__law_labels k__law_labels b__law_labels (tmc_lend (nv 0) tmc_nil))) (tms_cons (tm_frz (x_add tm_int (tm_call (F__law_dip.monoG (by decide)) hG hr (by rfl) g__law_dip k__law_dip b__law_dip (tmc_lend (nv 0) (tmc_arg (vi 1) tmc_nil))))) tms_nil)) hN) (tss_cons (s_par 6 7 rfl (tms_cons (tm_frz (x_cut (v 4) (tmo_some tm_int) (tmo_some (x_add tm_int (tm_call (F__law_dip.monoG (by decide)) hG hr (by rfl) g__law_dip k__law_dip b__law_dip (tmc_lend (nv 0) (tmc_arg (vi 2) tmc_nil))))))) (tms_cons (tm_lst tms_nil) tms_nil)) hN) (tss_cons (ts_for passNox rfl (it_range1 (by rfl) h_free_range (tms_cons (v 5) tms_nil)) (gN 8 hN) (tss_one (ts_expr (l_append (hv 7) (tm_lst (tms_cons (tm_im (x_ix hr (v 4) (v 8))) (tms_cons (tm_lst tms_nil) (tms_cons (tm_lst tms_nil) tms_nil)))))))) (tss_cons (ts_for passNox rfl (it_any rfl (v 6)) (gN 9 hN) (tss_one (ts_expr (l_append (pl_sub rfl (pl_sub rfl (hv 7) (tm_call (F__law_dip.monoG (by decide)) hG hr (by rfl) g__law_dip k__law_dip b__law_dip (tmc_lend (nv 0) (tmc_arg (vi 5) tmc_nil)))) tm_int) (vi 9))))) (tss_cons (ts_for passNox rfl (it_range1 (by rfl) h_free_range (tms_cons (tm_if (t_cmp cGt (b_len h_free_len (tms_cons (v 6) tms_nil)) tm_int) (tm_call (F__law_dip.monoG (by decide)) hG hr (by rfl) g__law_dip k__law_dip b__law_dip (tmc_lend (nv 0) (tmc_arg (tm_frz (x_add (v 3) tm_int)) tmc_nil))) tm_int) tms_nil)) (gN 10 hN) (tss_cons (s_par 11 12 rfl (tms_cons (tm_frz (tm_call (F__law_one_of.monoG (by decide)) hG hr (by rfl) g__law_one_of k__law_one_of b__law_one_of (tmc_lend (nv 0) (tmc_arg (vi 6) tmc_nil)))) (tms_cons (tm_frz (tm_call (F__law_one_of.monoG (by decide)) hG hr (by rfl) g__law_one_of k__law_one_of b__law_one_of (tmc_lend (nv 0) (tmc_arg (vi 6) tmc_nil)))) tms_nil)) hN) (tss_one (ts_if (t_cmp (cNe hr) (v 11) (v 12)) (tss_one (ts_expr (l_append (pl_sub rfl (pl_sub rfl (hv 7) (tm_call (F__law_dip.monoG (by decide)) hG hr (by rfl) g__law_dip k__law_dip b__law_dip (tmc_lend (nv 0) (tmc_arg (vi 5) tmc_nil)))) tm_int) (tm_frz (tm_tup (tms_cons (b_min rfl h_free_min (tms_cons (v 11) (tms_cons (v 12) tms_nil))) (tms_cons (b_max rfl h_free_max (tms_cons (v 11) (tms_cons (v 12) tms_nil))) tms_nil))))))) tss_nil)))) (tss_one (ts_ret (tm_lst (tms_cons (tm_frz (tm_call (F__law_some_kind.monoG (by decide)) hG hr (by rfl) g__law_some_kind k__law_some_kind b__law_some_kind (tmc_lend (nv 0) tmc_nil))) (tms_cons (vf 7) tms_nil)))))))))), by decide⟩
  case b1 => exact match us, hl with | [_, _, _, _], _ => rfl
  case b2 => exact match us, ws, hl, hl2 with | [], [_, _, _, _], _, _ => rfl
def N_is_one_of : List Str := ["value", "names"]
def m_is_one_of : M Fl := (mRet (mAndV (m1 (isB .str) (mRd 0)) (m2 fIn (mRd 0) (mRd 1))))
def c_is_one_of : Cal := runB 2 2 [] m_is_one_of
theorem f_is_one_of (c : SaysM fa fn K) (KX : K.In h) (Gm : h.Ns mainGlobals mg) : ∃ fd, (∀ base : Heap, FnG PG w K mg base CX0 2 (ga K "is_one_of") fd ["value", "names"] (spT ⟨K, ga K⟩ [] c_is_one_of)) ∧ Binds K fd ["value", "names"] [] ∧ KwB K fd ["value", "names"] 0 ∧ FunD K "is_one_of" "is_one_of" (defArgs (top 23)) (defBody (top 23)) (defScope (top 23)) [] [] (ga K "is_one_of") fd := by
  obtain ⟨fd, FD⟩ := c.defs.def_ 5
  have h_free_isinstance := free_ok KX Gm (c.fact 10)
  have h_free_str := free_ok KX Gm (c.fact 11)
  refine ⟨fd, fun base => ?bd0, FunD.bindsN FD fun kV doc pm an cdv ct us hl => ?b1, FunD.kwb FD fun kV doc pm an cdv ct us ws hl hl2 => ?b2, FD⟩
  case bd0 =>
    refine fn_g (N := N_is_one_of) (m := m_is_one_of) FD ⟨rfl, rfl, rfl, by decide +kernel, rfl, by decide +kernel, by decide +kernel⟩ (by decide) ?_
    intro cdv A outer s H E hG hr
    have hN : (cxOf CX0 PG w K mg base N_is_one_of "is_one_of" (defScope (top 23)) (ga K "is_one_of") cdv A outer s H E).nox.N.Nodup := (by decide : N_is_one_of.Nodup)
    exact ⟨_, _, (tss_one (ts_ret (tm_and (b_is .str h_free_isinstance h_free_str (v 0)) (tm_one (x_cmp (cIn hr) (v 0) (v 1)))))), by decide⟩
  case b1 => exact match us, hl with | [_, _], _ => rfl
  case b2 => exact match us, ws, hl, hl2 with | [], [_, _], _, _ => rfl
def N_is_integer : List Str := ["value"]
def m_is_integer : M Fl := (mRet (mAndV (m1 (isB .int) (mRd 0)) (mNotV (m1 (isB .bool) (mRd 0)))))
def c_is_integer : Cal := runB 1 1 [] m_is_integer
theorem f_is_integer (c : SaysM fa fn K) (KX : K.In h) (Gm : h.Ns mainGlobals mg) : ∃ fd, (∀ base : Heap, FnG PG w K mg base CX0 2 (ga K "is_integer") fd ["value"] (spT ⟨K, ga K⟩ [] c_is_integer)) ∧ Binds K fd ["value"] [] ∧ KwB K fd ["value"] 0 ∧ FunD K "is_integer" "is_integer" (defArgs (top 20)) (defBody (top 20)) (defScope (top 20)) [] [] (ga K "is_integer") fd := by
  obtain ⟨fd, FD⟩ := c.defs.def_ 6
  have h_free_isinstance := free_ok KX Gm (c.fact 10)
  have h_free_int := free_ok KX Gm (c.fact 1)
  have h_free_bool := free_ok KX Gm (c.fact 12)
  refine ⟨fd, fun base => ?bd0, FunD.bindsN FD fun kV doc pm an cdv ct us hl => ?b1, FunD.kwb FD fun kV doc pm an cdv ct us ws hl hl2 => ?b2, FD⟩
  case bd0 =>
    refine fn_g (N := N_is_integer) (m := m_is_integer) FD ⟨rfl, rfl, rfl, by decide +kernel, rfl, by decide +kernel, by decide +kernel⟩ (by decide) ?_
    intro cdv A outer s H E hG hr
    have hN : (cxOf CX0 PG w K mg base N_is_integer "is_integer" (defScope (top 20)) (ga K "is_integer") cdv A outer s H E).nox.N.Nodup := (by decide : N_is_integer.Nodup)
    exact ⟨_, _, (tss_one (ts_ret (tm_and (b_is .int h_free_isinstance h_free_int (v 0)) (tm_one (tm_not (b_is .bool h_free_isinstance h_free_bool (v 0))))))), by decide⟩
  case b1 => exact match us, hl with | [_], _ => rfl
  case b2 => exact match us, ws, hl, hl2 with | [], [_], _, _ => rfl
def N_is_between : List Str := ["value", "low", "high"]
def m_is_between : M Fl := (mRet (mAndV (mCall c_is_integer [none] (mCons (mIm (mRd 0)) mNil)) (mChain fLe fLe (mRd 1) (mRd 0) (mRd 2))))
def c_is_between : Cal := runB 3 3 [] m_is_between
theorem f_is_between (c : SaysM fa fn K) (KX : K.In h) (Gm : h.Ns mainGlobals mg) : ∃ fd, (∀ base : Heap, FnG PG w K mg base CX0 4 (ga K "is_between") fd ["value", "low", "high"] (spT ⟨K, ga K⟩ [] c_is_between)) ∧ Binds K fd ["value", "low", "high"] [] ∧ KwB K fd ["value", "low", "high"] 0 ∧ FunD K "is_between" "is_between" (defArgs (top 21)) (defBody (top 21)) (defScope (top 21)) [] [] (ga K "is_between") fd := by
  obtain ⟨fd, FD⟩ := c.defs.def_ 7
  obtain ⟨fd_is_integer, F_is_integer, b_is_integer, w_is_integer, d_is_integer⟩ := f_is_integer (w := w) c KX Gm
  have k_is_integer := d_is_integer.kp
  have g_is_integer := glo_ok KX Gm (c.fact 13)
  refine ⟨fd, fun base => ?bd0, FunD.bindsN FD fun kV doc pm an cdv ct us hl => ?b1, FunD.kwb FD fun kV doc pm an cdv ct us ws hl hl2 => ?b2, FD⟩
  case bd0 =>
    have F_is_integer := F_is_integer base
    refine fn_g (N := N_is_between) (m := m_is_between) FD ⟨rfl, rfl, rfl, by decide +kernel, rfl, by decide +kernel, by decide +kernel⟩ (by decide) ?_
    intro cdv A outer s H E hG hr
    have hN : (cxOf CX0 PG w K mg base N_is_between "is_between" (defScope (top 21)) (ga K "is_between") cdv A outer s H E).nox.N.Nodup := (by decide : N_is_between.Nodup)
    exact ⟨_, _, (tss_one (ts_ret (tm_and (tm_call (F_is_integer.monoG (by decide)) hG hr (by rfl) g_is_integer k_is_integer b_is_integer (tmc_arg (vi 0) tmc_nil)) (tm_one (x_chain cLe cLe (v 1) (v 0) (v 2)))))), by decide⟩
  case b1 => exact match us, hl with | [_, _, _], _ => rfl
  case b2 => exact match us, ws, hl, hl2 with | [], [_, _, _], _, _ => rfl
def N_is_kind : List Str := ["value"]
def m_is_kind : M Fl := (mRet (mOrV (mCall c_is_one_of [none, none] (mCons (mIm (mRd 0)) (mCons (mFrz (mTup (mCons (mFrz (mC (.str "bits"))) (mCons (mFrz (mC (.str "plain"))) mNil)))) mNil))) (mCall c_is_between [none, none, none] (mCons (mIm (mRd 0)) (mCons (mFrz (mC (.int 3))) (mCons (mFrz (mC (.int 1000000000))) mNil))))))
def c_is_kind : Cal := runB 1 1 [] m_is_kind
theorem f_is_kind (c : SaysM fa fn K) (KX : K.In h) (Gm : h.Ns mainGlobals mg) : ∃ fd, (∀ base : Heap, FnG PG w K mg base CX0 6 (ga K "is_kind") fd ["value"] (spT ⟨K, ga K⟩ [] c_is_kind)) ∧ Binds K fd ["value"] [] ∧ KwB K fd ["value"] 0 ∧ FunD K "is_kind" "is_kind" (defArgs (top 26)) (defBody (top 26)) (defScope (top 26)) [] [] (ga K "is_kind") fd := by
  obtain ⟨fd, FD⟩ := c.defs.def_ 8
  have h_str_PLAIN_plain := str_ok KX Gm (c.fact 14)
  have h_str_BITS_bits := str_ok KX Gm (c.fact 15)
  have h_int_MOST_DIAL_1000000000 := int_ok KX Gm (c.fact 16)
  have h_int_LEAST_DIAL_3 := int_ok KX Gm (c.fact 17)
  obtain ⟨fd_is_one_of, F_is_one_of, b_is_one_of, w_is_one_of, d_is_one_of⟩ := f_is_one_of (w := w) c KX Gm
  have k_is_one_of := d_is_one_of.kp
  have g_is_one_of := glo_ok KX Gm (c.fact 18)
  obtain ⟨fd_is_between, F_is_between, b_is_between, w_is_between, d_is_between⟩ := f_is_between (w := w) c KX Gm
  have k_is_between := d_is_between.kp
  have g_is_between := glo_ok KX Gm (c.fact 19)
  refine ⟨fd, fun base => ?bd0, FunD.bindsN FD fun kV doc pm an cdv ct us hl => ?b1, FunD.kwb FD fun kV doc pm an cdv ct us ws hl hl2 => ?b2, FD⟩
  case bd0 =>
    have F_is_one_of := F_is_one_of base
    have F_is_between := F_is_between base
    refine fn_g (N := N_is_kind) (m := m_is_kind) FD ⟨rfl, rfl, rfl, by decide +kernel, rfl, by decide +kernel, by decide +kernel⟩ (by decide) ?_
    intro cdv A outer s H E hG hr
    have hN : (cxOf CX0 PG w K mg base N_is_kind "is_kind" (defScope (top 26)) (ga K "is_kind") cdv A outer s H E).nox.N.Nodup := (by decide : N_is_kind.Nodup)
    exact ⟨_, _, (tss_one (ts_ret (tm_or (tm_call (F_is_one_of.monoG (by decide)) hG hr (by rfl) g_is_one_of k_is_one_of b_is_one_of (tmc_arg (vi 0) (tmc_arg (tm_frz (tm_tup (tms_cons (tm_frz (gS h_str_BITS_bits)) (tms_cons (tm_frz (gS h_str_PLAIN_plain)) tms_nil)))) tmc_nil))) (tm_one (tm_call (F_is_between.monoG (by decide)) hG hr (by rfl) g_is_between k_is_between b_is_between (tmc_arg (vi 0) (tmc_arg (tm_frz (gI h_int_LEAST_DIAL_3)) (tmc_arg (tm_frz (gI h_int_MOST_DIAL_1000000000)) tmc_nil)))))))), by decide⟩
  case b1 => exact match us, hl with | [_], _ => rfl
  case b2 => exact match us, ws, hl, hl2 with | [], [_], _, _ => rfl
def N_is_name : List Str := ["value", "sign"]
def m_is_name : M Fl := (mRet (mAndV (m1 (isB .str) (mRd 0)) (mAndV (mChain fLe fLe (mC (.int 1)) (mF (c1 fLen) (mCons (mRd 0) mNil)) (mC (.int 8))) (mF (c1 (fBools fun bs => bs.all id)) (mCons (mLc (mItA (mRd 0)) (mPut 1) (ret true) (m2 fIn (mRd 1) (mC (.str "abcdefghijklmnopqrstuvwxyz"))) [1]) mNil)))))
def c_is_name : Cal := runB 1 2 [] m_is_name
theorem f_is_name (c : SaysM fa fn K) (KX : K.In h) (Gm : h.Ns mainGlobals mg) : ∃ fd, (∀ base : Heap, FnG PG w K mg base CX0 2 (ga K "is_name") fd ["value"] (spT ⟨K, ga K⟩ [] c_is_name)) ∧ Binds K fd ["value"] [] ∧ KwB K fd ["value"] 0 ∧ FunD K "is_name" "is_name" (defArgs (top 22)) (defBody (top 22)) (defScope (top 22)) [] [] (ga K "is_name") fd := by
  obtain ⟨fd, FD⟩ := c.defs.def_ 9
  have h_free_isinstance := free_ok KX Gm (c.fact 10)
  have h_free_str := free_ok KX Gm (c.fact 11)
  have h_free_len := free_ok KX Gm (c.fact 2)
  have h_int_MOST_LETTERS_8 := int_ok KX Gm (c.fact 20)
  have h_str_LETTERS_abcdefghijklmnopqrstuvwxyz := str_ok KX Gm (c.fact 21)
  have h_free_all := free_ok KX Gm (c.fact 22)
  refine ⟨fd, fun base => ?bd0, FunD.bindsN FD fun kV doc pm an cdv ct us hl => ?b1, FunD.kwb FD fun kV doc pm an cdv ct us ws hl hl2 => ?b2, FD⟩
  case bd0 =>
    refine fn_g (N := N_is_name) (m := m_is_name) FD ⟨rfl, rfl, rfl, by decide +kernel, rfl, by decide +kernel, by decide +kernel⟩ (by decide) ?_
    intro cdv A outer s H E hG hr
    have hN : (cxOf CX0 PG w K mg base N_is_name "is_name" (defScope (top 22)) (ga K "is_name") cdv A outer s H E).nox.N.Nodup := (by decide : N_is_name.Nodup)
    exact ⟨_, _, (tss_one (ts_ret (tm_and (b_is .str h_free_isinstance h_free_str (v 0)) (tm_and (x_chain cLe cLe tm_int (b_len h_free_len (tms_cons (v 0) tms_nil)) (gI h_int_MOST_LETTERS_8)) (tm_one (b_all rfl h_free_all (tms_cons (x_lc [("sign", 1)] rfl hN (blk_of (by kernel_rfl)) (it_any rfl (v 0)) (fun _ _ _ _ _ => (gN 1 hN)) (fun _ _ _ _ _ => tmts_nil) (fun _ _ _ _ _ => (x_cmp (cIn hr) (v 1) (gS h_str_LETTERS_abcdefghijklmnopqrstuvwxyz)))) tms_nil))))))), by decide⟩
  case b1 => exact match us, hl with | [_], _ => rfl
  case b2 => exact match us, ws, hl, hl2 with | [], [_], _, _ => rfl
def N_are_fresh : List Str := ["names", "taken", "name"]
def m_are_fresh : M Fl := (mSeq (mIfS (mOr (mNot (mTru (m1 (isB .tuple) (mRd 0)))) (mNot (mTru (mF (c1 (fBools fun bs => bs.all id)) (mCons (mLc (mItA (mRd 0)) (mPut 2) (ret true) (mFrz (mAndV (mCall c_is_name [none] (mCons (mIm (mRd 2)) mNil)) (m2 fNotIn (mRd 2) (mRd 1)))) [2]) mNil))))) (mRet (mC (.bl false))) (ret .nx)) (mRet (m2 fEq (m1 fLenS (mRd 0)) (mF (c1 fLen) (mCons (mRd 0) mNil)))))
def c_are_fresh : Cal := runB 2 3 [] m_are_fresh
theorem f_are_fresh (c : SaysM fa fn K) (KX : K.In h) (Gm : h.Ns mainGlobals mg) : ∃ fd, (∀ base : Heap, FnG PG w K mg base CX0 4 (ga K "are_fresh") fd ["names", "taken"] (spT ⟨K, ga K⟩ [] c_are_fresh)) ∧ Binds K fd ["names", "taken"] [] ∧ KwB K fd ["names", "taken"] 0 ∧ FunD K "are_fresh" "are_fresh" (defArgs (top 30)) (defBody (top 30)) (defScope (top 30)) [] [] (ga K "are_fresh") fd := by
  obtain ⟨fd, FD⟩ := c.defs.def_ 10
  have h_free_isinstance := free_ok KX Gm (c.fact 10)
  have h_free_tuple := free_ok KX Gm (c.fact 23)
  have h_free_all := free_ok KX Gm (c.fact 22)
  have h_free_len := free_ok KX Gm (c.fact 2)
  have h_free_set := free_ok KX Gm (c.fact 24)
  obtain ⟨fd_is_name, F_is_name, b_is_name, w_is_name, d_is_name⟩ := f_is_name (w := w) c KX Gm
  have k_is_name := d_is_name.kp
  have g_is_name := glo_ok KX Gm (c.fact 25)
  refine ⟨fd, fun base => ?bd0, FunD.bindsN FD fun kV doc pm an cdv ct us hl => ?b1, FunD.kwb FD fun kV doc pm an cdv ct us ws hl hl2 => ?b2, FD⟩
  case bd0 =>
    have F_is_name := F_is_name base
    refine fn_g (N := N_are_fresh) (m := m_are_fresh) FD ⟨rfl, rfl, rfl, by decide +kernel, rfl, by decide +kernel, by decide +kernel⟩ (by decide) ?_
    intro cdv A outer s H E hG hr
    have hN : (cxOf CX0 PG w K mg base N_are_fresh "are_fresh" (defScope (top 30)) (ga K "are_fresh") cdv A outer s H E).nox.N.Nodup := (by decide : N_are_fresh.Nodup)
    exact ⟨_, _, (tss_cons (ts_if (tmt_w (tmt_or (tmt_not (tmt_tru rfl (b_is .tuple h_free_isinstance h_free_tuple (v 0)))) (tmt_or1 (tmt_not (tmt_tru rfl (b_all rfl h_free_all (tms_cons (x_lc [("name", 2)] rfl hN (blk_of (by kernel_rfl)) (it_any rfl (v 0)) (fun _ _ _ _ _ => (gN 2 hN)) (fun _ _ _ _ _ => tmts_nil) (fun _ _ _ _ _ => (tm_frz (tm_and (tm_call (F_is_name.monoG (by decide)) hG hr (by rfl) g_is_name k_is_name b_is_name (tmc_arg (vi 2) tmc_nil)) (tm_one (x_cmp (cNotIn hr) (v 2) (v 1))))))) tms_nil))))))) (tss_one (ts_ret tm_bl)) tss_nil) (tss_one (ts_ret (x_cmp (cEq hr) (tm_lenS rfl rfl (by rfl) h_free_len (by rfl) h_free_set (v 0)) (b_len h_free_len (tms_cons (v 0) tms_nil)))))), by decide⟩
  case b1 => exact match us, hl with | [_, _], _ => rfl
  case b2 => exact match us, ws, hl, hl2 with | [], [_, _], _, _ => rfl
def N_is_column : List Str := ["value", "names", "sums"]
def m_is_column : M Fl := (mSeq (mIfS (mOr (mNot (mTru (m1 (isB .tuple) (mRd 0)))) (mOr (asB (m2 fNe (mF (c1 fLen) (mCons (mRd 0) mNil)) (mC (.int 3)))) (mOr (mNot (mTru (mCall c_is_name [none] (mCons (mIm (m2 fIx (mRd 0) (mC (.int 0)))) mNil)))) (asB (m2 fIn (m2 fIx (mRd 0) (mC (.int 0))) (mRd 1)))))) (mRet (mC (.bl false))) (ret .nx)) (mRet (mAndV (mCall c_are_fresh [none, none] (mCons (mIm (m2 fIx (mRd 0) (mC (.int 1)))) (mCons (mIm (mRd 2)) mNil))) (m1 (isB .tuple) (m2 fIx (mRd 0) (mC (.int 2)))))))
def c_is_column : Cal := runB 3 3 [] m_is_column
theorem f_is_column (c : SaysM fa fn K) (KX : K.In h) (Gm : h.Ns mainGlobals mg) : ∃ fd, (∀ base : Heap, FnG PG w K mg base CX0 6 (ga K "is_column") fd ["value", "names", "sums"] (spT ⟨K, ga K⟩ [] c_is_column)) ∧ Binds K fd ["value", "names", "sums"] [] ∧ KwB K fd ["value", "names", "sums"] 0 ∧ FunD K "is_column" "is_column" (defArgs (top 31)) (defBody (top 31)) (defScope (top 31)) [] [] (ga K "is_column") fd := by
  obtain ⟨fd, FD⟩ := c.defs.def_ 11
  have h_free_isinstance := free_ok KX Gm (c.fact 10)
  have h_free_tuple := free_ok KX Gm (c.fact 23)
  have h_free_len := free_ok KX Gm (c.fact 2)
  obtain ⟨fd_is_name, F_is_name, b_is_name, w_is_name, d_is_name⟩ := f_is_name (w := w) c KX Gm
  have k_is_name := d_is_name.kp
  have g_is_name := glo_ok KX Gm (c.fact 25)
  obtain ⟨fd_are_fresh, F_are_fresh, b_are_fresh, w_are_fresh, d_are_fresh⟩ := f_are_fresh (w := w) c KX Gm
  have k_are_fresh := d_are_fresh.kp
  have g_are_fresh := glo_ok KX Gm (c.fact 26)
  refine ⟨fd, fun base => ?bd0, FunD.bindsN FD fun kV doc pm an cdv ct us hl => ?b1, FunD.kwb FD fun kV doc pm an cdv ct us ws hl hl2 => ?b2, FD⟩
  case bd0 =>
    have F_is_name := F_is_name base
    have F_are_fresh := F_are_fresh base
    refine fn_g (N := N_is_column) (m := m_is_column) FD ⟨rfl, rfl, rfl, by decide +kernel, rfl, by decide +kernel, by decide +kernel⟩ (by decide) ?_
    intro cdv A outer s H E hG hr
    have hN : (cxOf CX0 PG w K mg base N_is_column "is_column" (defScope (top 31)) (ga K "is_column") cdv A outer s H E).nox.N.Nodup := (by decide : N_is_column.Nodup)
    exact ⟨_, _, (tss_cons (ts_if (tmt_w (tmt_or (tmt_not (tmt_tru rfl (b_is .tuple h_free_isinstance h_free_tuple (v 0)))) (tmt_or (t_cmp (cNe hr) (b_len h_free_len (tms_cons (v 0) tms_nil)) tm_int) (tmt_or (tmt_not (tmt_tru rfl (tm_call (F_is_name.monoG (by decide)) hG hr (by rfl) g_is_name k_is_name b_is_name (tmc_arg (tm_im (x_ix hr (v 0) tm_int)) tmc_nil)))) (tmt_or1 (t_cmp (cIn hr) (x_ix hr (v 0) tm_int) (v 1))))))) (tss_one (ts_ret tm_bl)) tss_nil) (tss_one (ts_ret (tm_and (tm_call (F_are_fresh.monoG (by decide)) hG hr (by rfl) g_are_fresh k_are_fresh b_are_fresh (tmc_arg (tm_im (x_ix hr (v 0) tm_int)) (tmc_arg (vi 2) tmc_nil))) (tm_one (b_is .tuple h_free_isinstance h_free_tuple (x_ix hr (v 0) tm_int))))))), by decide⟩
  case b1 => exact match us, hl with | [_, _, _], _ => rfl
  case b2 => exact match us, ws, hl, hl2 with | [], [_, _, _], _, _ => rfl
def N_form_until : List Str := ["columns", "names", "sums", "index", "value"]
def m_form_until : M Fl := (mSeq (mPar 1 2 (mCons (mLst mNil) (mCons (mLst mNil) mNil))) (mSeq (mFor (mRng enumF (mCons (mRd 0) mNil)) (mUn 2 (mGcons (mPut 3) (mGcons (mPut 4) mGnil))) (mSeq (mIfS (mOr (asB (m2 fGe (mRd 3) (mC (.int 8)))) (mNot (mTru (mCallP c_is_column [none, none, none] (mCons (mIm (mRd 4)) (mCons (mRd 1) (mCons (mRd 2) mNil))))))) (mRet (mIm (mRd 3))) (ret .nx)) (mSeq (mDrop (mMut 1 (mHere 1) isLst (mCons (mIm (m2 fIx (mRd 4) (mC (.int 0)))) mNil) fAppend)) (mDrop (mMut 2 (mHere 2) isLst (mCons (mIm (m2 fIx (mRd 4) (mC (.int 1)))) mNil) fExtend))))) (mRet (mC .non))))
def c_form_until : Cal := runB 1 5 [] m_form_until
theorem f_form_until (c : SaysM fa fn K) (KX : K.In h) (Gm : h.Ns mainGlobals mg) : ∃ fd, (∀ base : Heap, FnG PG w K mg base CX0 8 (ga K "form_until") fd ["columns"] (spT ⟨K, ga K⟩ [] c_form_until)) ∧ Binds K fd ["columns"] [] ∧ KwB K fd ["columns"] 0 ∧ FunD K "form_until" "form_until" (defArgs (top 32)) (defBody (top 32)) (defScope (top 32)) [] [] (ga K "form_until") fd := by
  obtain ⟨fd, FD⟩ := c.defs.def_ 12
  have h_free_enumerate := free_ok KX Gm (c.fact 27)
  have h_int_MOST_COLUMNS_8 := int_ok KX Gm (c.fact 28)
  obtain ⟨fd_is_column, F_is_column, b_is_column, w_is_column, d_is_column⟩ := f_is_column (w := w) c KX Gm
  have k_is_column := d_is_column.kp
  have g_is_column := glo_ok KX Gm (c.fact 29)
  refine ⟨fd, fun base => ?bd0, FunD.bindsN FD fun kV doc pm an cdv ct us hl => ?b1, FunD.kwb FD fun kV doc pm an cdv ct us ws hl hl2 => ?b2, FD⟩
  case bd0 =>
    have F_is_column := F_is_column base
    refine fn_g (N := N_form_until) (m := m_form_until) FD ⟨rfl, rfl, rfl, by decide +kernel, rfl, by decide +kernel, by decide +kernel⟩ (by decide) ?_
    intro cdv A outer s H E hG hr
    have hN : (cxOf CX0 PG w K mg base N_form_until "form_until" (defScope (top 32)) (ga K "form_until") cdv A outer s H E).nox.N.Nodup := (by decide : N_form_until.Nodup)
    exact ⟨_, _, (tss_cons (s_par 1 2 rfl (tms_cons (tm_lst tms_nil) (tms_cons (tm_lst tms_nil) tms_nil)) hN) (tss_cons (ts_for passNox rfl (it_enum (by rfl) (by rfl) h_free_enumerate (tms_cons (v 0) tms_nil)) (tg_un rfl rfl (tgs_cons (gN 3 hN) (tgs_cons (gN 4 hN) tgs_nil))) (tss_cons (ts_if (tmt_w (tmt_or (t_cmp cGe (v 3) (gI h_int_MOST_COLUMNS_8)) (tmt_or1 (tmt_not (tmt_tru rfl (tm_callP (F_is_column.monoG (by decide)) hG hr (by rfl) g_is_column k_is_column b_is_column (tmc_arg (vi 4) (tmc_arg (v 1) (tmc_arg (v 2) tmc_nil))))))))) (tss_one (ts_ret (vi 3))) tss_nil) (tss_cons (ts_expr (l_append (hv 1) (tm_im (x_ix hr (v 4) tm_int)))) (tss_one (ts_expr (l_extend (hv 2) (tm_im (x_ix hr (v 4) tm_int)))))))) (tss_one (ts_ret tm_non)))), by decide⟩
  case b1 => exact match us, hl with | [_], _ => rfl
  case b2 => exact match us, ws, hl, hl2 with | [], [_], _, _ => rfl
def N_are_different : List Str := ["values", "names", "value"]
def m_are_different : M Fl := (mSeq (mIfS (mOr (mNot (mTru (m1 (isB .tuple) (mRd 0)))) (mNot (mTru (mF (c1 (fBools fun bs => bs.all id)) (mCons (mLc (mItA (mRd 0)) (mPut 2) (ret true) (mFrz (mCall c_is_one_of [none, none] (mCons (mIm (mRd 2)) (mCons (mIm (mRd 1)) mNil)))) [2]) mNil))))) (mRet (mC (.bl false))) (ret .nx)) (mRet (m2 fEq (m1 fLenS (mRd 0)) (mF (c1 fLen) (mCons (mRd 0) mNil)))))
def c_are_different : Cal := runB 2 3 [] m_are_different
theorem f_are_different (c : SaysM fa fn K) (KX : K.In h) (Gm : h.Ns mainGlobals mg) : ∃ fd, (∀ base : Heap, FnG PG w K mg base CX0 4 (ga K "are_different") fd ["values", "names"] (spT ⟨K, ga K⟩ [] c_are_different)) ∧ Binds K fd ["values", "names"] [] ∧ KwB K fd ["values", "names"] 0 ∧ FunD K "are_different" "are_different" (defArgs (top 24)) (defBody (top 24)) (defScope (top 24)) [] [] (ga K "are_different") fd := by
  obtain ⟨fd, FD⟩ := c.defs.def_ 13
  have h_free_isinstance := free_ok KX Gm (c.fact 10)
  have h_free_tuple := free_ok KX Gm (c.fact 23)
  have h_free_all := free_ok KX Gm (c.fact 22)
  have h_free_len := free_ok KX Gm (c.fact 2)
  have h_free_set := free_ok KX Gm (c.fact 24)
  obtain ⟨fd_is_one_of, F_is_one_of, b_is_one_of, w_is_one_of, d_is_one_of⟩ := f_is_one_of (w := w) c KX Gm
  have k_is_one_of := d_is_one_of.kp
  have g_is_one_of := glo_ok KX Gm (c.fact 18)
  refine ⟨fd, fun base => ?bd0, FunD.bindsN FD fun kV doc pm an cdv ct us hl => ?b1, FunD.kwb FD fun kV doc pm an cdv ct us ws hl hl2 => ?b2, FD⟩
  case bd0 =>
    have F_is_one_of := F_is_one_of base
    refine fn_g (N := N_are_different) (m := m_are_different) FD ⟨rfl, rfl, rfl, by decide +kernel, rfl, by decide +kernel, by decide +kernel⟩ (by decide) ?_
    intro cdv A outer s H E hG hr
    have hN : (cxOf CX0 PG w K mg base N_are_different "are_different" (defScope (top 24)) (ga K "are_different") cdv A outer s H E).nox.N.Nodup := (by decide : N_are_different.Nodup)
    exact ⟨_, _, (tss_cons (ts_if (tmt_w (tmt_or (tmt_not (tmt_tru rfl (b_is .tuple h_free_isinstance h_free_tuple (v 0)))) (tmt_or1 (tmt_not (tmt_tru rfl (b_all rfl h_free_all (tms_cons (x_lc [("value", 2)] rfl hN (blk_of (by kernel_rfl)) (it_any rfl (v 0)) (fun _ _ _ _ _ => (gN 2 hN)) (fun _ _ _ _ _ => tmts_nil) (fun _ _ _ _ _ => (tm_frz (tm_call (F_is_one_of.monoG (by decide)) hG hr (by rfl) g_is_one_of k_is_one_of b_is_one_of (tmc_arg (vi 2) (tmc_arg (vi 1) tmc_nil)))))) tms_nil))))))) (tss_one (ts_ret tm_bl)) tss_nil) (tss_one (ts_ret (x_cmp (cEq hr) (tm_lenS rfl rfl (by rfl) h_free_len (by rfl) h_free_set (v 0)) (b_len h_free_len (tms_cons (v 0) tms_nil)))))), by decide⟩
  case b1 => exact match us, hl with | [_, _], _ => rfl
  case b2 => exact match us, ws, hl, hl2 with | [], [_, _], _, _ => rfl
def N_is_pair : List Str := ["sums", "value"]
def m_is_pair : M Fl := (mRet (mAndV (mCall c_are_different [none, none] (mCons (mIm (mRd 1)) (mCons (mIm (mRd 0)) mNil))) (mAndV (m2 fEq (mF (c1 fLen) (mCons (mRd 1) mNil)) (mC (.int 2))) (m2 fLt (m2 fIx (mRd 1) (mC (.int 0))) (m2 fIx (mRd 1) (mC (.int 1)))))))
def c_is_pair : Cal := runB 2 2 [] m_is_pair
theorem f_is_pair (c : SaysM fa fn K) (KX : K.In h) (Gm : h.Ns mainGlobals mg) : ∃ fd, (∀ base : Heap, FnG PG w K mg base CX0 6 (ga K "is_pair") fd ["sums", "value"] (spT ⟨K, ga K⟩ [] c_is_pair)) ∧ Binds K fd ["sums", "value"] [] ∧ KwB K fd ["sums", "value"] 0 ∧ FunD K "is_pair" "is_pair" (defArgs (top 33)) (defBody (top 33)) (defScope (top 33)) [] [] (ga K "is_pair") fd := by
  obtain ⟨fd, FD⟩ := c.defs.def_ 14
  have h_free_len := free_ok KX Gm (c.fact 2)
  obtain ⟨fd_are_different, F_are_different, b_are_different, w_are_different, d_are_different⟩ := f_are_different (w := w) c KX Gm
  have k_are_different := d_are_different.kp
  have g_are_different := glo_ok KX Gm (c.fact 30)
  refine ⟨fd, fun base => ?bd0, FunD.bindsN FD fun kV doc pm an cdv ct us hl => ?b1, FunD.kwb FD fun kV doc pm an cdv ct us ws hl hl2 => ?b2, FD⟩
  case bd0 =>
    have F_are_different := F_are_different base
    refine fn_g (N := N_is_pair) (m := m_is_pair) FD ⟨rfl, rfl, rfl, by decide +kernel, rfl, by decide +kernel, by decide +kernel⟩ (by decide) ?_
    intro cdv A outer s H E hG hr
    have hN : (cxOf CX0 PG w K mg base N_is_pair "is_pair" (defScope (top 33)) (ga K "is_pair") cdv A outer s H E).nox.N.Nodup := (by decide : N_is_pair.Nodup)
    exact ⟨_, _, (tss_one (ts_ret (tm_and (tm_call (F_are_different.monoG (by decide)) hG hr (by rfl) g_are_different k_are_different b_are_different (tmc_arg (vi 1) (tmc_arg (vi 0) tmc_nil))) (tm_and (x_cmp (cEq hr) (b_len h_free_len (tms_cons (v 1) tms_nil)) tm_int) (tm_one (x_cmp cLt (x_ix hr (v 1) tm_int) (x_ix hr (v 1) tm_int))))))), by decide⟩
  case b1 => exact match us, hl with | [_, _], _ => rfl
  case b2 => exact match us, ws, hl, hl2 with | [], [_, _], _, _ => rfl
def N_data_until : List Str := ["columns", "column", "name", "value", "sums", "many", "number", "index"]
def m_data_until : M Fl := (mSeq (mSet 4 (mFrz (mLc2 (mItA (mRd 0)) (mPut 1) (mItA (m2 fIx (mRd 1) (mC (.int 1)))) (mPut 2) (ret true) (mIm (mRd 2)) [1, 2] [2]))) (mSeq (mAsg (mTup (mCons (mC (.int 0)) (mCons (mC (.int 0)) mNil))) (mUn 2 (mGcons (mPut 5) (mGcons (mPut 6) mGnil)))) (mSeq (mFor (mRng enumF (mCons (mRd 0) mNil)) (mUn 2 (mGcons (mPut 7) (mGcons (mPut 1) mGnil))) (mSeq (mAug 5 (fII iAdd) (mF (c1 fLen) (mCons (m2 fIx (mRd 1) (mC (.int 1))) mNil))) (mSeq (mAug 6 (fII iAdd) (mF (c1 fLen) (mCons (m2 fIx (mRd 1) (mC (.int 2))) mNil))) (mIfS (mOr (asB (m2 fGt (mRd 5) (mC (.int 10)))) (mOr (asB (m2 fGt (mRd 6) (mC (.int 24)))) (mNot (mTru (mF (c1 (fBools fun bs => bs.all id)) (mCons (mLc (mItA (m2 fIx (mRd 1) (mC (.int 2)))) (mPut 3) (ret true) (mFrz (mCall c_is_pair [none, none] (mCons (mFz 4) (mCons (mIm (mRd 3)) mNil)))) [3]) mNil)))))) (mRet (mIm (mRd 7))) (ret .nx))))) (mRet (mC .non)))))
def c_data_until : Cal := runB 1 8 [] m_data_until
theorem f_data_until (c : SaysM fa fn K) (KX : K.In h) (Gm : h.Ns mainGlobals mg) : ∃ fd, (∀ base : Heap, FnG PG w K mg base CX0 8 (ga K "data_until") fd ["columns"] (spT ⟨K, ga K⟩ [] c_data_until)) ∧ Binds K fd ["columns"] [] ∧ KwB K fd ["columns"] 0 ∧ FunD K "data_until" "data_until" (defArgs (top 34)) (defBody (top 34)) (defScope (top 34)) [] [] (ga K "data_until") fd := by
  obtain ⟨fd, FD⟩ := c.defs.def_ 15
  have h_free_enumerate := free_ok KX Gm (c.fact 27)
  have h_free_len := free_ok KX Gm (c.fact 2)
  have h_int_MOST_SUMS_10 := int_ok KX Gm (c.fact 31)
  have h_int_MOST_DATA_24 := int_ok KX Gm (c.fact 32)
  have h_free_all := free_ok KX Gm (c.fact 22)
  obtain ⟨fd_is_pair, F_is_pair, b_is_pair, w_is_pair, d_is_pair⟩ := f_is_pair (w := w) c KX Gm
  have k_is_pair := d_is_pair.kp
  have g_is_pair := glo_ok KX Gm (c.fact 33)
  refine ⟨fd, fun base => ?bd0, FunD.bindsN FD fun kV doc pm an cdv ct us hl => ?b1, FunD.kwb FD fun kV doc pm an cdv ct us ws hl hl2 => ?b2, FD⟩
  case bd0 =>
    have F_is_pair := F_is_pair base
    refine fn_g (N := N_data_until) (m := m_data_until) FD ⟨rfl, rfl, rfl, by decide +kernel, rfl, by decide +kernel, by decide +kernel⟩ (by decide) ?_
    intro cdv A outer s H E hG hr
    have hN : (cxOf CX0 PG w K mg base N_data_until "data_until" (defScope (top 34)) (ga K "data_until") cdv A outer s H E).nox.N.Nodup := (by decide : N_data_until.Nodup)
    exact ⟨_, _, (tss_cons (s_set 4 (tm_frz (tm_lc2 (own := [("column", 1), ("name", 2)]) (vs1 := [2]) rfl hN (it_any rfl (v 0)) (blk_of (by kernel_rfl)) (fun _ _ _ _ _ => (gN 1 hN)) (fun _ _ _ _ _ => (it_any rfl (x_ix hr (v 1) tm_int))) (fun _ _ _ _ _ => (gN 2 hN)) (fun _ _ _ _ _ => tmts_nil) (fun _ _ _ _ _ => (vi 2)))) hN) (tss_cons (ts_asg (tm_tup (tms_cons tm_int (tms_cons tm_int tms_nil))) (tg_un rfl rfl (tgs_cons (gN 5 hN) (tgs_cons (gN 6 hN) tgs_nil)))) (tss_cons (ts_for passNox rfl (it_enum (by rfl) (by rfl) h_free_enumerate (tms_cons (v 0) tms_nil)) (tg_un rfl rfl (tgs_cons (gN 7 hN) (tgs_cons (gN 1 hN) tgs_nil))) (tss_cons (s_addTo 5 (b_len h_free_len (tms_cons (x_ix hr (v 1) tm_int) tms_nil)) hN) (tss_cons (s_addTo 6 (b_len h_free_len (tms_cons (x_ix hr (v 1) tm_int) tms_nil)) hN) (tss_one (ts_if (tmt_w (tmt_or (t_cmp cGt (v 5) (gI h_int_MOST_SUMS_10)) (tmt_or (t_cmp cGt (v 6) (gI h_int_MOST_DATA_24)) (tmt_or1 (tmt_not (tmt_tru rfl (b_all rfl h_free_all (tms_cons (x_lc [("value", 3)] rfl hN (blk_of (by kernel_rfl)) (it_any rfl (x_ix hr (v 1) tm_int)) (fun _ _ _ _ _ => (gN 3 hN)) (fun _ _ _ _ _ => tmts_nil) (fun _ _ _ _ _ => (tm_frz (tm_call (F_is_pair.monoG (by decide)) hG hr (by rfl) g_is_pair k_is_pair b_is_pair (tmc_arg (vf 4) (tmc_arg (vi 3) tmc_nil)))))) tms_nil)))))))) (tss_one (ts_ret (vi 7))) tss_nil))))) (tss_one (ts_ret tm_non))))), by decide⟩
  case b1 => exact match us, hl with | [_], _ => rfl
  case b2 => exact match us, ws, hl, hl2 with | [], [_], _, _ => rfl
def N_parts_from : List Str := ["columns", "each", "found", "number", "name", "sums", "data", "numbers"]
def m_parts_from : M Fl := (mSeq (mPar 2 3 (mCons (mLst mNil) (mCons (mC (.int 0)) mNil))) (mSeq (mFor (mItA (mRd 0)) (mUn 3 (mGcons (mPut 4) (mGcons (mPut 5) (mGcons (mPut 6) mGnil)))) (mSeq (mSet 7 (mFrz (m2 fRngL2 (mRd 3) (m2 fAdd (mRd 3) (mF (c1 fLen) (mCons (mRd 6) mNil)))))) (mSeq (mDrop (mMut 2 (mHere 2) isLst (mCons (mFrz (mTup (mStar (mLc (mItA (mRd 5)) (mPut 1) (ret true) (mFrz (mTup (mCons (mC (.str "sum")) (mCons (mIm (mRd 1)) mNil)))) [1]) (mStar (mLc (mItA (mRd 7)) (mPut 1) (ret true) (mFrz (mTup (mCons (mC (.str "datum")) (mCons (mIm (mRd 1)) mNil)))) [1]) mNil)))) mNil) fAppend)) (mAug 3 (fII iAdd) (mF (c1 fLen) (mCons (mRd 6) mNil)))))) (mRet (mF (c1 fTuple) (mCons (mRd 2) mNil)))))
def c_parts_from : Cal := runB 1 8 [] m_parts_from
theorem f_parts_from (c : SaysM fa fn K) (KX : K.In h) (Gm : h.Ns mainGlobals mg) : ∃ fd, (∀ base : Heap, FnG PG w K mg base CX0 2 (ga K "parts_from") fd ["columns"] (spT ⟨K, ga K⟩ [] c_parts_from)) ∧ Binds K fd ["columns"] [] ∧ KwB K fd ["columns"] 0 ∧ FunD K "parts_from" "parts_from" (defArgs (top 38)) (defBody (top 38)) (defScope (top 38)) [] [] (ga K "parts_from") fd := by
  obtain ⟨fd, FD⟩ := c.defs.def_ 16
  have h_free_len := free_ok KX Gm (c.fact 2)
  have h_free_list := free_ok KX Gm (c.fact 34)
  have h_free_range := free_ok KX Gm (c.fact 4)
  have h_free_tuple := free_ok KX Gm (c.fact 23)
  refine ⟨fd, fun base => ?bd0, FunD.bindsN FD fun kV doc pm an cdv ct us hl => ?b1, FunD.kwb FD fun kV doc pm an cdv ct us ws hl hl2 => ?b2, FD⟩
  case bd0 =>
    refine fn_g (N := N_parts_from) (m := m_parts_from) FD ⟨rfl, rfl, rfl, by decide +kernel, rfl, by decide +kernel, by decide +kernel⟩ (by decide) ?_
    intro cdv A outer s H E hG hr
    have hN : (cxOf CX0 PG w K mg base N_parts_from "parts_from" (defScope (top 38)) (ga K "parts_from") cdv A outer s H E).nox.N.Nodup := (by decide : N_parts_from.Nodup)
    exact ⟨_, _, (tss_cons (s_par 2 3 rfl (tms_cons (tm_lst tms_nil) (tms_cons tm_int tms_nil)) hN) (tss_cons (ts_for passNox rfl (it_any rfl (v 0)) (tg_un rfl rfl (tgs_cons (gN 4 hN) (tgs_cons (gN 5 hN) (tgs_cons (gN 6 hN) tgs_nil)))) (tss_cons (s_set 7 (tm_frz (b_listRng2 h_free_list h_free_range rfl (v 3) (x_add (v 3) (b_len h_free_len (tms_cons (v 6) tms_nil))))) hN) (tss_cons (ts_expr (l_append (hv 2) (tm_frz (tm_tup (tms_star rfl (x_lc [("each", 1)] rfl hN (blk_of (by kernel_rfl)) (it_any rfl (v 5)) (fun _ _ _ _ _ => (gN 1 hN)) (fun _ _ _ _ _ => tmts_nil) (fun _ _ _ _ _ => (tm_frz (tm_tup (tms_cons tm_str (tms_cons (vi 1) tms_nil)))))) (tms_star rfl (x_lc [("each", 1)] rfl hN (blk_of (by kernel_rfl)) (it_any rfl (v 7)) (fun _ _ _ _ _ => (gN 1 hN)) (fun _ _ _ _ _ => tmts_nil) (fun _ _ _ _ _ => (tm_frz (tm_tup (tms_cons tm_str (tms_cons (vi 1) tms_nil)))))) tms_nil)))))) (tss_one (s_addTo 3 (b_len h_free_len (tms_cons (v 6) tms_nil)) hN))))) (tss_one (ts_ret (b_tuple h_free_tuple (tms_cons (v 2) tms_nil)))))), by decide⟩
  case b1 => exact match us, hl with | [_], _ => rfl
  case b2 => exact match us, ws, hl, hl2 with | [], [_], _, _ => rfl
def N_Table___init__ : List Str := ["self", "kind", "columns", "column", "index"]
def m_Table___init__ : M Fl := (mSeq (mIfS (mNot (mTru (mCall c_is_kind [none] (mCons (mIm (mRd 1)) mNil)))) (fun _ => none) (ret .nx)) (mSeq (mIfS (mOr (mNot (mTru (m1 (isB .tuple) (mRd 2)))) (asB (m2 fEq (mRd 2) (mTup mNil)))) (fun _ => none) (ret .nx)) (mSeq (mSet 4 (mFrz (mCall c_form_until [none] (mCons (mIm (mRd 2)) mNil)))) (mSeq (mIfS (asB (m2 fIsNot (mRd 4) (mC .non))) (fun _ => none) (ret .nx)) (mSeq (mIfS (mTru (mF (c1 (fBools fun bs => bs.all id)) (mCons (mLc (mItA (mRd 2)) (mPut 3) (ret true) (m2 fEq (m2 fIx (mRd 3) (mC (.int 1))) (mTup mNil)) [3]) mNil))) (fun _ => none) (ret .nx)) (mSeq (mSet 4 (mFrz (mCall c_data_until [none] (mCons (mIm (mRd 2)) mNil)))) (mSeq (mIfS (asB (m2 fIsNot (mRd 4) (mC .non))) (fun _ => none) (ret .nx)) (mSeq (mSetF 0 (mHere 0) "Table" "kind" (mIm (mRd 1))) (mSeq (mSetF 0 (mHere 0) "Table" "columns" (mIm (mRd 2))) (mSetF 0 (mHere 0) "Table" "held" (mFrz (mCall c_parts_from [none] (mCons (mIm (mRd 2)) mNil)))))))))))))
def c_Table___init__ : Cal := runB 3 5 [0] m_Table___init__
theorem f_Table___init__ (c : SaysM fa fn K) (KX : K.In h) (Gm : h.Ns mainGlobals mg) : ∃ fd, (∀ base : Heap, FnG PG w K mg base CX0 10 (ma K (ga K "Table") "__init__") fd ["self", "kind", "columns"] (spT ⟨K, ga K⟩ [0] c_Table___init__)) ∧ Binds K fd ["self", "kind", "columns"] [] ∧ KwB K fd ["self", "kind", "columns"] 1 ∧ FunD K "__init__" "Table.__init__" (defArgs (sub 37 0)) (defBody (sub 37 0)) (defScope (sub 37 0)) [] [] (ma K (ga K "Table") "__init__") fd := by
  obtain ⟨fd, FD⟩ := c.defs.def_ 17
  have h_free_isinstance := free_ok KX Gm (c.fact 10)
  have h_free_tuple := free_ok KX Gm (c.fact 23)
  have h_free_all := free_ok KX Gm (c.fact 22)
  have h_cls_Table := cls_ok (c.fact 35)
  have h_noat_Table_kind := noat_ok (c.fact 36)
  have h_noat_Table_columns := noat_ok (c.fact 37)
  have h_noat_Table_held := noat_ok (c.fact 38)
  obtain ⟨fd_is_kind, F_is_kind, b_is_kind, w_is_kind, d_is_kind⟩ := f_is_kind (w := w) c KX Gm
  have k_is_kind := d_is_kind.kp
  have g_is_kind := glo_ok KX Gm (c.fact 39)
  obtain ⟨fd_form_until, F_form_until, b_form_until, w_form_until, d_form_until⟩ := f_form_until (w := w) c KX Gm
  have k_form_until := d_form_until.kp
  have g_form_until := glo_ok KX Gm (c.fact 40)
  obtain ⟨fd_data_until, F_data_until, b_data_until, w_data_until, d_data_until⟩ := f_data_until (w := w) c KX Gm
  have k_data_until := d_data_until.kp
  have g_data_until := glo_ok KX Gm (c.fact 41)
  obtain ⟨fd_parts_from, F_parts_from, b_parts_from, w_parts_from, d_parts_from⟩ := f_parts_from (w := w) c KX Gm
  have k_parts_from := d_parts_from.kp
  have g_parts_from := glo_ok KX Gm (c.fact 42)
  refine ⟨fd, fun base => ?bd0, FunD.bindsN FD fun kV doc pm an cdv ct us hl => ?b1, FunD.kwb FD fun kV doc pm an cdv ct us ws hl hl2 => ?b2, FD⟩
  case bd0 =>
    have F_is_kind := F_is_kind base
    have F_form_until := F_form_until base
    have F_data_until := F_data_until base
    have F_parts_from := F_parts_from base
    refine fn_g (N := N_Table___init__) (m := m_Table___init__) FD ⟨rfl, rfl, rfl, by decide +kernel, rfl, by decide +kernel, by decide +kernel⟩ (by decide) ?_
    intro cdv A outer s H E hG hr
    have hN : (cxOf CX0 PG w K mg base N_Table___init__ "Table.__init__" (defScope (sub 37 0)) (ma K (ga K "Table") "__init__") cdv A outer s H E).nox.N.Nodup := (by decide : N_Table___init__.Nodup)
    exact ⟨_, _, (tss_cons (ts_if (tmt_not (tmt_tru rfl (tm_call (F_is_kind.monoG (by decide)) hG hr (by rfl) g_is_kind k_is_kind b_is_kind (tmc_arg (vi 1) tmc_nil)))) (tss_one ts_never) tss_nil) (tss_cons (ts_if (tmt_w (tmt_or (tmt_not (tmt_tru rfl (b_is .tuple h_free_isinstance h_free_tuple (v 2)))) (tmt_or1 (t_cmp (cEq hr) (v 2) (tm_tup tms_nil))))) (tss_one ts_never) tss_nil) (tss_cons (s_set 4 (tm_frz (tm_call (F_form_until.monoG (by decide)) hG hr (by rfl) g_form_until k_form_until b_form_until (tmc_arg (vi 2) tmc_nil))) hN) (tss_cons (ts_if (t_cmp cIsNot (v 4) tm_non) (tss_one ts_never) tss_nil) (tss_cons (ts_if (tmt_tru rfl (b_all rfl h_free_all (tms_cons (x_lc [("column", 3)] rfl hN (blk_of (by kernel_rfl)) (it_any rfl (v 2)) (fun _ _ _ _ _ => (gN 3 hN)) (fun _ _ _ _ _ => tmts_nil) (fun _ _ _ _ _ => (x_cmp (cEq hr) (x_ix hr (v 3) tm_int) (tm_tup tms_nil)))) tms_nil))) (tss_one ts_never) tss_nil) (tss_cons (s_set 4 (tm_frz (tm_call (F_data_until.monoG (by decide)) hG hr (by rfl) g_data_until k_data_until b_data_until (tmc_arg (vi 2) tmc_nil))) hN) (tss_cons (ts_if (t_cmp cIsNot (v 4) tm_non) (tss_one ts_never) tss_nil) (tss_cons (ts_setF rfl h_cls_Table h_noat_Table_kind (vi 1) (hv 0)) (tss_cons (ts_setF rfl h_cls_Table h_noat_Table_columns (vi 2) (hv 0)) (tss_one (ts_setF rfl h_cls_Table h_noat_Table_held (tm_frz (tm_call (F_parts_from.monoG (by decide)) hG hr (by rfl) g_parts_from k_parts_from b_parts_from (tmc_arg (vi 2) tmc_nil))) (hv 0)))))))))))), by decide⟩
  case b1 => exact match us, hl with | [_, _, _], _ => rfl
  case b2 => exact match us, ws, hl, hl2 with | [_], [_, _], _, _ => rfl
def N__law_made : List Str := ["_law_chart_here", "_law_label", "_law_tags", "_law_pairs_here", "_law_columns_here"]
def m__law_made : M Fl := (mSeq (mSet 4 (mLc (mItA (m2 fIx (mRd 0) (mC (.int 1)))) (mUn 3 (mGcons (mPut 1) (mGcons (mPut 2) (mGcons (mPut 3) mGnil)))) (ret true) (mFrz (mTup (mCons (mIm (mRd 1)) (mCons (mFrz (mF (c1 fTuple) (mCons (mRd 2) mNil))) (mCons (mFrz (mF (c1 fTuple) (mCons (mRd 3) mNil))) mNil))))) [1, 2, 3])) (mRet (mMake c_Table___init__ "Table" [none, none] (mCons (mIm (m2 fIx (mRd 0) (mC (.int 0)))) (mCons (mFrz (mF (c1 fTuple) (mCons (mRd 4) mNil))) mNil)))))
def c__law_made : Cal := runB 1 5 [] m__law_made
theorem f__law_made (c : SaysM fa fn K) (KX : K.In h) (Gm : h.Ns mainGlobals mg) : ∃ fd, (∀ base : Heap, FnG PG w K mg base CX0 12 (ga K "_law_made") fd ["_law_chart_here"] (spT ⟨K, ga K⟩ [] c__law_made)) ∧ Binds K fd ["_law_chart_here"] [] ∧ KwB K fd ["_law_chart_here"] 0 ∧ FunD K "_law_made" "_law_made" (defArgs (top 50)) (defBody (top 50)) (defScope (top 50)) [] [] (ga K "_law_made") fd := by
  obtain ⟨fd, FD⟩ := c.defs.def_ 18
  have h_free_tuple := free_ok KX Gm (c.fact 23)
  have h_glo_Table := glo_ok KX Gm (c.fact 43)
  have h_mkr_Table := mkr_ok (c.fact 44)
  obtain ⟨fd_Table___init__, F_Table___init__, b_Table___init__, w_Table___init__, d_Table___init__⟩ := f_Table___init__ (w := w) c KX Gm
  have k_Table___init__ := d_Table___init__.kp
  refine ⟨fd, fun base => ?bd0, FunD.bindsN FD fun kV doc pm an cdv ct us hl => ?b1, FunD.kwb FD fun kV doc pm an cdv ct us ws hl hl2 => ?b2, FD⟩
  case bd0 =>
    have F_Table___init__ := F_Table___init__ base
    refine fn_g (N := N__law_made) (m := m__law_made) FD ⟨rfl, rfl, rfl, by decide +kernel, rfl, by decide +kernel, by decide +kernel⟩ (by decide) ?_
    intro cdv A outer s H E hG hr
    have hN : (cxOf CX0 PG w K mg base N__law_made "_law_made" (defScope (top 50)) (ga K "_law_made") cdv A outer s H E).nox.N.Nodup := (by decide : N__law_made.Nodup)
    exact ⟨_, _, (tss_cons (s_setLc 4 [("_law_label", 1), ("_law_tags", 2), ("_law_pairs_here", 3)] rfl hN (blk_of (by kernel_rfl)) (it_any rfl (x_ix hr (v 0) tm_int)) (fun _ _ _ _ _ => (tg_un rfl rfl (tgs_cons (gN 1 hN) (tgs_cons (gN 2 hN) (tgs_cons (gN 3 hN) tgs_nil))))) (fun _ _ _ _ _ => tmts_nil) (fun _ _ _ _ _ => (tm_frz (tm_tup (tms_cons (vi 1) (tms_cons (tm_frz (b_tuple h_free_tuple (tms_cons (v 2) tms_nil))) (tms_cons (tm_frz (b_tuple h_free_tuple (tms_cons (v 3) tms_nil))) tms_nil))))))) (tss_one (ts_ret (tm_make h_glo_Table h_mkr_Table (F_Table___init__.monoG (by decide)) hG hr (by rfl) b_Table___init__ (tmc_arg (tm_im (x_ix hr (v 0) tm_int)) (tmc_arg (tm_frz (b_tuple h_free_tuple (tms_cons (v 4) tms_nil))) tmc_nil)))))), by decide⟩
  case b1 => exact match us, hl with | [_], _ => rfl
  case b2 => exact match us, ws, hl, hl2 with | [], [_], _, _ => rfl
def N__law_pairs : List Str := ["_law_chart_here", "_law_found", "_law_label", "_law_tags", "_law_pairs_here"]
def m__law_pairs : M Fl := (mSeq (mSet 1 (mFrz (mLst mNil))) (mSeq (mFor (mItA (m2 fIx (mRd 0) (mC (.int 1)))) (mUn 3 (mGcons (mPut 2) (mGcons (mPut 3) (mGcons (mPut 4) mGnil)))) (mSet 1 (mFrz (m2 fAdd (mRd 1) (mRd 4))))) (mRet (mIm (mRd 1)))))
def c__law_pairs : Cal := runB 1 5 [] m__law_pairs
theorem f__law_pairs (c : SaysM fa fn K) (KX : K.In h) (Gm : h.Ns mainGlobals mg) : ∃ fd, (∀ base : Heap, FnG PG w K mg base CX0 2 (ga K "_law_pairs") fd ["_law_chart_here"] (spT ⟨K, ga K⟩ [] c__law_pairs)) ∧ Binds K fd ["_law_chart_here"] [] ∧ KwB K fd ["_law_chart_here"] 0 ∧ FunD K "_law_pairs" "_law_pairs" (defArgs (top 45)) (defBody (top 45)) (defScope (top 45)) [] [] (ga K "_law_pairs") fd := by
  obtain ⟨fd, FD⟩ := c.defs.def_ 19
  refine ⟨fd, fun base => ?bd0, FunD.bindsN FD fun kV doc pm an cdv ct us hl => ?b1, FunD.kwb FD fun kV doc pm an cdv ct us ws hl hl2 => ?b2, FD⟩
  case bd0 =>
    refine fn_g (N := N__law_pairs) (m := m__law_pairs) FD ⟨rfl, rfl, rfl, by decide +kernel, rfl, by decide +kernel, by decide +kernel⟩ (by decide) ?_
    intro cdv A outer s H E hG hr
    have hN : (cxOf CX0 PG w K mg base N__law_pairs "_law_pairs" (defScope (top 45)) (ga K "_law_pairs") cdv A outer s H E).nox.N.Nodup := (by decide : N__law_pairs.Nodup)
    exact ⟨_, _, (tss_cons (s_set 1 (tm_frz (tm_lst tms_nil)) hN) (tss_cons (ts_for passNox rfl (it_any rfl (x_ix hr (v 0) tm_int)) (tg_un rfl rfl (tgs_cons (gN 2 hN) (tgs_cons (gN 3 hN) (tgs_cons (gN 4 hN) tgs_nil)))) (tss_one (s_set 1 (tm_frz (x_add (v 1) (v 4))) hN))) (tss_one (ts_ret (vi 1))))), by decide⟩
  case b1 => exact match us, hl with | [_], _ => rfl
  case b2 => exact match us, ws, hl, hl2 with | [], [_], _, _ => rfl
def N__law_small : List Str := ["_law_jar_here", "_law_chart_here", "_law_pair"]
def m__law_small : M Fl := (mRet (mLc (mItA (mCall c__law_pairs [none] (mCons (mIm (mRd 1)) mNil))) (mPut 2) (ret true) (mIf (mTru (m1 (isB .int) (m2 fIx (mRd 1) (mC (.int 0))))) (mFrz (mCall c__law_dip [(some 0), none] (mCons (mLn 0) (mCons (mC (.int 3)) mNil)))) (mFrz (mCall c__law_dip [(some 0), none] (mCons (mLn 0) (mCons (mC (.int 900)) mNil))))) [2]))
def c__law_small : Cal := runB 2 3 [0] m__law_small
theorem f__law_small (c : SaysM fa fn K) (KX : K.In h) (Gm : h.Ns mainGlobals mg) : ∃ fd, (∀ base : Heap, FnG PG w K mg base CX0 4 (ga K "_law_small") fd ["_law_jar_here", "_law_chart_here"] (spT ⟨K, ga K⟩ [0] c__law_small)) ∧ Binds K fd ["_law_jar_here", "_law_chart_here"] [] ∧ KwB K fd ["_law_jar_here", "_law_chart_here"] 0 ∧ FunD K "_law_small" "_law_small" (defArgs (top 54)) (defBody (top 54)) (defScope (top 54)) [] [] (ga K "_law_small") fd := by
  obtain ⟨fd, FD⟩ := c.defs.def_ 20
  have h_free_isinstance := free_ok KX Gm (c.fact 10)
  have h_free_int := free_ok KX Gm (c.fact 1)
  obtain ⟨fd__law_pairs, F__law_pairs, b__law_pairs, w__law_pairs, d__law_pairs⟩ := f__law_pairs (w := w) c KX Gm
  have k__law_pairs := d__law_pairs.kp
  have g__law_pairs := glo_ok KX Gm (c.fact 45)
  obtain ⟨fd__law_dip, F__law_dip, b__law_dip, w__law_dip, d__law_dip⟩ := f__law_dip (w := w) c KX Gm
  have k__law_dip := d__law_dip.kp
  have g__law_dip := glo_ok KX Gm (c.fact 3)
  refine ⟨fd, fun base => ?bd0, FunD.bindsN FD fun kV doc pm an cdv ct us hl => ?b1, FunD.kwb FD fun kV doc pm an cdv ct us ws hl hl2 => ?b2, FD⟩
  case bd0 =>
    have F__law_pairs := F__law_pairs base
    have F__law_dip := F__law_dip base
    refine fn_g (N := N__law_small) (m := m__law_small) FD ⟨rfl, rfl, rfl, by decide +kernel, rfl, by decide +kernel, by decide +kernel⟩ (by decide) ?_
    intro cdv A outer s H E hG hr
    have hN : (cxOf CX0 PG w K mg base N__law_small "_law_small" (defScope (top 54)) (ga K "_law_small") cdv A outer s H E).nox.N.Nodup := (by decide : N__law_small.Nodup)
    exact ⟨_, _, (tss_one (ts_ret (x_lc [("_law_pair", 2)] rfl hN (blk_of (by kernel_rfl)) (it_any rfl (tm_call (F__law_pairs.monoG (by decide)) hG hr (by rfl) g__law_pairs k__law_pairs b__law_pairs (tmc_arg (vi 1) tmc_nil))) (fun _ _ _ _ _ => (gN 2 hN)) (fun _ _ _ _ _ => tmts_nil) (fun _ _ _ _ _ => (tm_if (tmt_tru rfl (b_is .int h_free_isinstance h_free_int (x_ix hr (v 1) tm_int))) (tm_frz (tm_call (F__law_dip.monoG (by decide)) hG hr (by rfl) g__law_dip k__law_dip b__law_dip (tmc_lend (nv 0) (tmc_arg tm_int tmc_nil)))) (tm_frz (tm_call (F__law_dip.monoG (by decide)) hG hr (by rfl) g__law_dip k__law_dip b__law_dip (tmc_lend (nv 0) (tmc_arg tm_int tmc_nil))))))))), by decide⟩
  case b1 => exact match us, hl with | [_, _], _ => rfl
  case b2 => exact match us, ws, hl, hl2 with | [], [_, _], _, _ => rfl
def N__law_together : List Str := ["_law_kind", "_law_numbers", "_law_found", "_law_number"]
def m__law_together : M Fl := (mSeq (mSet 2 (mC (.int 0))) (mSeq (mFor (mItA (mRd 1)) (mPut 3) (mSet 2 (mIf (asB (m2 fEq (mRd 0) (mC (.str "bits")))) (m2 (fII iXor) (mRd 2) (mRd 3)) (mFrz (m2 fAdd (mRd 2) (mRd 3)))))) (mRet (mIf (asB (m2 fIn (mRd 0) (mLst (mCons (mC (.str "bits")) (mCons (mC (.str "plain")) mNil))))) (mIm (mRd 2)) (m2 (fII iMod) (mF (c1 fInt) (mCons (mRd 2) mNil)) (mRd 0))))))
def c__law_together : Cal := runB 2 4 [] m__law_together
theorem f__law_together (c : SaysM fa fn K) (KX : K.In h) (Gm : h.Ns mainGlobals mg) : ∃ fd, (∀ base : Heap, FnG PG w K mg base CX0 2 (ga K "_law_together") fd ["_law_kind", "_law_numbers"] (spT ⟨K, ga K⟩ [] c__law_together)) ∧ Binds K fd ["_law_kind", "_law_numbers"] [] ∧ KwB K fd ["_law_kind", "_law_numbers"] 0 ∧ FunD K "_law_together" "_law_together" (defArgs (top 51)) (defBody (top 51)) (defScope (top 51)) [] [] (ga K "_law_together") fd := by
  obtain ⟨fd, FD⟩ := c.defs.def_ 21
  have h_free_int := free_ok KX Gm (c.fact 1)
  refine ⟨fd, fun base => ?bd0, FunD.bindsN FD fun kV doc pm an cdv ct us hl => ?b1, FunD.kwb FD fun kV doc pm an cdv ct us ws hl hl2 => ?b2, FD⟩
  case bd0 =>
    refine fn_g (N := N__law_together) (m := m__law_together) FD ⟨rfl, rfl, rfl, by decide +kernel, rfl, by decide +kernel, by decide +kernel⟩ (by decide) ?_
    intro cdv A outer s H E hG hr
    have hN : (cxOf CX0 PG w K mg base N__law_together "_law_together" (defScope (top 51)) (ga K "_law_together") cdv A outer s H E).nox.N.Nodup := (by decide : N__law_together.Nodup)
    exact ⟨_, _, (tss_cons (s_set 2 tm_int hN) (tss_cons (ts_for passNox rfl (it_any rfl (v 1)) (gN 3 hN) (tss_one (s_set 2 (tm_if (t_cmp (cEq hr) (v 0) tm_str) (x_xor (v 2) (v 3)) (tm_frz (x_add (v 2) (v 3)))) hN))) (tss_one (ts_ret (tm_if (t_cmp (cIn hr) (v 0) (tm_lst (tms_cons tm_str (tms_cons tm_str tms_nil)))) (vi 2) (x_mod (b_int h_free_int (tms_cons (v 2) tms_nil)) (v 0))))))), by decide⟩
  case b1 => exact match us, hl with | [_, _], _ => rfl
  case b2 => exact match us, ws, hl, hl2 with | [], [_, _], _, _ => rfl
def N_Table_data : List Str := ["self", "column", "pair"]
def m_Table_data : M Fl := (mRet (mF (c1 fTuple) (mCons (mLc2 (mItA (m1 (fFld "Table" "columns") (mRd 0))) (mPut 1) (mItA (m2 fIx (mRd 1) (mC (.int 2)))) (mPut 2) (ret true) (mIm (mRd 2)) [1, 2] [2]) mNil)))
def c_Table_data : Cal := runB 1 3 [] m_Table_data
theorem f_Table_data (c : SaysM fa fn K) (KX : K.In h) (Gm : h.Ns mainGlobals mg) : ∃ fd, (∀ base : Heap, FnG PG w K mg base CX0 2 (pgA K "Table" "data") fd ["self"] (spT ⟨K, ga K⟩ [] c_Table_data)) ∧ Binds K fd ["self"] [] ∧ KwB K fd ["self"] 1 ∧ FunD K "data" "Table.data" (defArgs (sub 37 4)) (defBody (sub 37 4)) (defScope (sub 37 4)) [] [] (pgA K "Table" "data") fd := by
  obtain ⟨fd, FD⟩ := c.defs.def_ 22
  have h_cls_Table := cls_ok (c.fact 35)
  have h_noat_Table_columns := noat_ok (c.fact 37)
  have h_free_tuple := free_ok KX Gm (c.fact 23)
  refine ⟨fd, fun base => ?bd0, FunD.bindsN FD fun kV doc pm an cdv ct us hl => ?b1, FunD.kwb FD fun kV doc pm an cdv ct us ws hl hl2 => ?b2, FD⟩
  case bd0 =>
    refine fn_g (N := N_Table_data) (m := m_Table_data) FD ⟨rfl, rfl, rfl, by decide +kernel, rfl, by decide +kernel, by decide +kernel⟩ (by decide) ?_
    intro cdv A outer s H E hG hr
    have hN : (cxOf CX0 PG w K mg base N_Table_data "Table.data" (defScope (sub 37 4)) (pgA K "Table" "data") cdv A outer s H E).nox.N.Nodup := (by decide : N_Table_data.Nodup)
    exact ⟨_, _, (tss_one (ts_ret (b_tuple h_free_tuple (tms_cons (tm_lc2 (own := [("column", 1), ("pair", 2)]) (vs1 := [2]) rfl hN (it_any rfl (tm_fld rfl h_cls_Table h_noat_Table_columns (v 0))) (blk_of (by kernel_rfl)) (fun _ _ _ _ _ => (gN 1 hN)) (fun _ _ _ _ _ => (it_any rfl (x_ix hr (v 1) tm_int))) (fun _ _ _ _ _ => (gN 2 hN)) (fun _ _ _ _ _ => tmts_nil) (fun _ _ _ _ _ => (vi 2))) tms_nil)))), by decide⟩
  case b1 => exact match us, hl with | [_], _ => rfl
  case b2 => exact match us, ws, hl, hl2 with | [_], [], _, _ => rfl
def N_is_value : List Str := ["kind", "value", "bound"]
def m_is_value : M Fl := (mSeq (mIfS (asB (m2 fEq (mRd 0) (mC (.str "bits")))) (mRet (mCall c_is_between [none, none, none] (mCons (mIm (mRd 1)) (mCons (mC (.int 0)) (mCons (m2 (fII iSub) (m2 (fII iShl) (mC (.int 1)) (mC (.int 60))) (mC (.int 1))) mNil))))) (ret .nx)) (mRet (mIf (asB (m2 fEq (mRd 0) (mC (.str "plain")))) (mCall c_is_between [none, none, none] (mCons (mIm (mRd 1)) (mCons (m1 fNeg (mRd 2)) (mCons (mIm (mRd 2)) mNil)))) (mCall c_is_between [none, none, none] (mCons (mIm (mRd 1)) (mCons (mC (.int 0)) (mCons (m2 (fII iSub) (mRd 0) (mC (.int 1))) mNil)))))))
def c_is_value : Cal := runB 3 3 [] m_is_value
theorem f_is_value (c : SaysM fa fn K) (KX : K.In h) (Gm : h.Ns mainGlobals mg) : ∃ fd, (∀ base : Heap, FnG PG w K mg base CX0 6 (ga K "is_value") fd ["kind", "value", "bound"] (spT ⟨K, ga K⟩ [] c_is_value)) ∧ Binds K fd ["kind", "value", "bound"] [] ∧ KwB K fd ["kind", "value", "bound"] 0 ∧ FunD K "is_value" "is_value" (defArgs (top 28)) (defBody (top 28)) (defScope (top 28)) [] [] (ga K "is_value") fd := by
  obtain ⟨fd, FD⟩ := c.defs.def_ 23
  have h_str_BITS_bits := str_ok KX Gm (c.fact 15)
  have h_int_MOST_BITS_60 := int_ok KX Gm (c.fact 46)
  have h_str_PLAIN_plain := str_ok KX Gm (c.fact 14)
  obtain ⟨fd_is_between, F_is_between, b_is_between, w_is_between, d_is_between⟩ := f_is_between (w := w) c KX Gm
  have k_is_between := d_is_between.kp
  have g_is_between := glo_ok KX Gm (c.fact 19)
  refine ⟨fd, fun base => ?bd0, FunD.bindsN FD fun kV doc pm an cdv ct us hl => ?b1, FunD.kwb FD fun kV doc pm an cdv ct us ws hl hl2 => ?b2, FD⟩
  case bd0 =>
    have F_is_between := F_is_between base
    refine fn_g (N := N_is_value) (m := m_is_value) FD ⟨rfl, rfl, rfl, by decide +kernel, rfl, by decide +kernel, by decide +kernel⟩ (by decide) ?_
    intro cdv A outer s H E hG hr
    have hN : (cxOf CX0 PG w K mg base N_is_value "is_value" (defScope (top 28)) (ga K "is_value") cdv A outer s H E).nox.N.Nodup := (by decide : N_is_value.Nodup)
    exact ⟨_, _, (tss_cons (ts_if (t_cmp (cEq hr) (v 0) (gS h_str_BITS_bits)) (tss_one (ts_ret (tm_call (F_is_between.monoG (by decide)) hG hr (by rfl) g_is_between k_is_between b_is_between (tmc_arg (vi 1) (tmc_arg tm_int (tmc_arg (x_sub (x_shl tm_int (gI h_int_MOST_BITS_60)) tm_int) tmc_nil)))))) tss_nil) (tss_one (ts_ret (tm_if (t_cmp (cEq hr) (v 0) (gS h_str_PLAIN_plain)) (tm_call (F_is_between.monoG (by decide)) hG hr (by rfl) g_is_between k_is_between b_is_between (tmc_arg (vi 1) (tmc_arg (x_neg (v 2)) (tmc_arg (vi 2) tmc_nil)))) (tm_call (F_is_between.monoG (by decide)) hG hr (by rfl) g_is_between k_is_between b_is_between (tmc_arg (vi 1) (tmc_arg tm_int (tmc_arg (x_sub (v 0) tm_int) tmc_nil)))))))), by decide⟩
  case b1 => exact match us, hl with | [_, _, _], _ => rfl
  case b2 => exact match us, ws, hl, hl2 with | [], [_, _, _], _, _ => rfl
def N_check_values : List Str := ["table", "values", "index", "value"]
def m_check_values : M Fl := (mSeq (mIfS (mOr (mNot (mTru (m1 (isB .tuple) (mRd 1)))) (asB (m2 fNe (mF (c1 fLen) (mCons (mRd 1) mNil)) (mF (c1 fLen) (mCons (mCall c_Table_data [none] (mCons (mIns "Table" Str.empty (mIm (mRd 0))) mNil)) mNil))))) (fun _ => none) (ret .nx)) (mFor (mRng enumF (mCons (mRd 1) mNil)) (mUn 2 (mGcons (mPut 2) (mGcons (mPut 3) mGnil))) (mIfS (mNot (mTru (mCall c_is_value [none, none, none] (mCons (mIm (m1 (fFld "Table" "kind") (mRd 0))) (mCons (mIm (mRd 3)) (mCons (mFrz (mC (.int 1000000000000000000000000000000))) mNil)))))) (fun _ => none) (ret .nx))))
def c_check_values : Cal := runB 2 4 [] m_check_values
theorem f_check_values (c : SaysM fa fn K) (KX : K.In h) (Gm : h.Ns mainGlobals mg) : ∃ fd, (∀ base : Heap, FnG PG w K mg base CX0 8 (ga K "check_values") fd ["table", "values"] (spT ⟨K, ga K⟩ [] c_check_values)) ∧ Binds K fd ["table", "values"] [] ∧ KwB K fd ["table", "values"] 0 ∧ FunD K "check_values" "check_values" (defArgs (top 42)) (defBody (top 42)) (defScope (top 42)) [] [] (ga K "check_values") fd := by
  obtain ⟨fd, FD⟩ := c.defs.def_ 24
  have h_free_isinstance := free_ok KX Gm (c.fact 10)
  have h_free_tuple := free_ok KX Gm (c.fact 23)
  have h_free_len := free_ok KX Gm (c.fact 2)
  have h_cls_Table := cls_ok (c.fact 35)
  have h_prop_Table_data := prB_ok (c.fact 47)
  have h_free_enumerate := free_ok KX Gm (c.fact 27)
  have h_int_MOST_VALUE_1000000000000000000000000000000 := int_ok KX Gm (c.fact 48)
  have h_noat_Table_kind := noat_ok (c.fact 36)
  obtain ⟨fd_Table_data, F_Table_data, b_Table_data, w_Table_data, d_Table_data⟩ := f_Table_data (w := w) c KX Gm
  have k_Table_data := d_Table_data.kp
  obtain ⟨fd_is_value, F_is_value, b_is_value, w_is_value, d_is_value⟩ := f_is_value (w := w) c KX Gm
  have k_is_value := d_is_value.kp
  have g_is_value := glo_ok KX Gm (c.fact 49)
  refine ⟨fd, fun base => ?bd0, FunD.bindsN FD fun kV doc pm an cdv ct us hl => ?b1, FunD.kwb FD fun kV doc pm an cdv ct us ws hl hl2 => ?b2, FD⟩
  case bd0 =>
    have F_Table_data := F_Table_data base
    have F_is_value := F_is_value base
    refine fn_g (N := N_check_values) (m := m_check_values) FD ⟨rfl, rfl, rfl, by decide +kernel, rfl, by decide +kernel, by decide +kernel⟩ (by decide) ?_
    intro cdv A outer s H E hG hr
    have hN : (cxOf CX0 PG w K mg base N_check_values "check_values" (defScope (top 42)) (ga K "check_values") cdv A outer s H E).nox.N.Nodup := (by decide : N_check_values.Nodup)
    exact ⟨_, _, (tss_cons (ts_if (tmt_w (tmt_or (tmt_not (tmt_tru rfl (b_is .tuple h_free_isinstance h_free_tuple (v 1)))) (tmt_or1 (t_cmp (cNe hr) (b_len h_free_len (tms_cons (v 1) tms_nil)) (b_len h_free_len (tms_cons (tm_prop h_cls_Table h_prop_Table_data (F_Table_data.monoG (by decide)) hG hr b_Table_data (vi 0)) tms_nil)))))) (tss_one ts_never) tss_nil) (tss_one (ts_for passNox rfl (it_enum (by rfl) (by rfl) h_free_enumerate (tms_cons (v 1) tms_nil)) (tg_un rfl rfl (tgs_cons (gN 2 hN) (tgs_cons (gN 3 hN) tgs_nil))) (tss_one (ts_if (tmt_not (tmt_tru rfl (tm_call (F_is_value.monoG (by decide)) hG hr (by rfl) g_is_value k_is_value b_is_value (tmc_arg (tm_im (tm_fld rfl h_cls_Table h_noat_Table_kind (v 0))) (tmc_arg (vi 3) (tmc_arg (tm_frz (gI h_int_MOST_VALUE_1000000000000000000000000000000)) tmc_nil)))))) (tss_one ts_never) tss_nil))))), by decide⟩
  case b1 => exact match us, hl with | [_, _], _ => rfl
  case b2 => exact match us, ws, hl, hl2 with | [], [_, _], _, _ => rfl
def N_Table_cells : List Str := ["self", "part", "cell"]
def m_Table_cells : M Fl := (mRet (mF (c1 fTuple) (mCons (mLc2 (mItA (m1 (fFld "Table" "held") (mRd 0))) (mPut 1) (mItA (mRd 1)) (mPut 2) (ret true) (mIm (mRd 2)) [1, 2] [2]) mNil)))
def c_Table_cells : Cal := runB 1 3 [] m_Table_cells
theorem f_Table_cells (c : SaysM fa fn K) (KX : K.In h) (Gm : h.Ns mainGlobals mg) : ∃ fd, (∀ base : Heap, FnG PG w K mg base CX0 2 (pgA K "Table" "cells") fd ["self"] (spT ⟨K, ga K⟩ [] c_Table_cells)) ∧ Binds K fd ["self"] [] ∧ KwB K fd ["self"] 1 ∧ FunD K "cells" "Table.cells" (defArgs (sub 37 5)) (defBody (sub 37 5)) (defScope (sub 37 5)) [] [] (pgA K "Table" "cells") fd := by
  obtain ⟨fd, FD⟩ := c.defs.def_ 25
  have h_cls_Table := cls_ok (c.fact 35)
  have h_noat_Table_held := noat_ok (c.fact 38)
  have h_free_tuple := free_ok KX Gm (c.fact 23)
  refine ⟨fd, fun base => ?bd0, FunD.bindsN FD fun kV doc pm an cdv ct us hl => ?b1, FunD.kwb FD fun kV doc pm an cdv ct us ws hl hl2 => ?b2, FD⟩
  case bd0 =>
    refine fn_g (N := N_Table_cells) (m := m_Table_cells) FD ⟨rfl, rfl, rfl, by decide +kernel, rfl, by decide +kernel, by decide +kernel⟩ (by decide) ?_
    intro cdv A outer s H E hG hr
    have hN : (cxOf CX0 PG w K mg base N_Table_cells "Table.cells" (defScope (sub 37 5)) (pgA K "Table" "cells") cdv A outer s H E).nox.N.Nodup := (by decide : N_Table_cells.Nodup)
    exact ⟨_, _, (tss_one (ts_ret (b_tuple h_free_tuple (tms_cons (tm_lc2 (own := [("part", 1), ("cell", 2)]) (vs1 := [2]) rfl hN (it_any rfl (tm_fld rfl h_cls_Table h_noat_Table_held (v 0))) (blk_of (by kernel_rfl)) (fun _ _ _ _ _ => (gN 1 hN)) (fun _ _ _ _ _ => (it_any rfl (v 1))) (fun _ _ _ _ _ => (gN 2 hN)) (fun _ _ _ _ _ => tmts_nil) (fun _ _ _ _ _ => (vi 2))) tms_nil)))), by decide⟩
  case b1 => exact match us, hl with | [_], _ => rfl
  case b2 => exact match us, ws, hl, hl2 with | [_], [], _, _ => rfl
def N_together : List Str := ["kind", "numbers", "found", "number"]
def m_together : M Fl := (mSeq (mIfS (asB (m2 fEq (mRd 0) (mC (.str "bits")))) (mSeq (mSet 2 (mC (.int 0))) (mSeq (mFor (mItA (mRd 1)) (mPut 3) (mAug 2 (fII iXor) (mRd 3))) (mRet (mIm (mRd 2))))) (ret .nx)) (mRet (mIf (asB (m2 fEq (mRd 0) (mC (.str "plain")))) (mF (c1 fSum) (mCons (mRd 1) mNil)) (m2 (fII iMod) (mF (c1 fSum) (mCons (mRd 1) mNil)) (mRd 0)))))
def c_together : Cal := runB 2 4 [] m_together
theorem f_together (c : SaysM fa fn K) (KX : K.In h) (Gm : h.Ns mainGlobals mg) : ∃ fd, (∀ base : Heap, FnG PG w K mg base CX0 2 (ga K "together") fd ["kind", "numbers"] (spT ⟨K, ga K⟩ [] c_together)) ∧ Binds K fd ["kind", "numbers"] [] ∧ KwB K fd ["kind", "numbers"] 0 ∧ FunD K "together" "together" (defArgs (top 27)) (defBody (top 27)) (defScope (top 27)) [] [] (ga K "together") fd := by
  obtain ⟨fd, FD⟩ := c.defs.def_ 26
  have h_str_BITS_bits := str_ok KX Gm (c.fact 15)
  have h_str_PLAIN_plain := str_ok KX Gm (c.fact 14)
  have h_free_sum := free_ok KX Gm (c.fact 50)
  refine ⟨fd, fun base => ?bd0, FunD.bindsN FD fun kV doc pm an cdv ct us hl => ?b1, FunD.kwb FD fun kV doc pm an cdv ct us ws hl hl2 => ?b2, FD⟩
  case bd0 =>
    refine fn_g (N := N_together) (m := m_together) FD ⟨rfl, rfl, rfl, by decide +kernel, rfl, by decide +kernel, by decide +kernel⟩ (by decide) ?_
    intro cdv A outer s H E hG hr
    have hN : (cxOf CX0 PG w K mg base N_together "together" (defScope (top 27)) (ga K "together") cdv A outer s H E).nox.N.Nodup := (by decide : N_together.Nodup)
    exact ⟨_, _, (tss_cons (ts_if (t_cmp (cEq hr) (v 0) (gS h_str_BITS_bits)) (tss_cons (s_set 2 tm_int hN) (tss_cons (ts_for passNox rfl (it_any rfl (v 1)) (gN 3 hN) (tss_one (s_xorTo 2 (v 3) hN))) (tss_one (ts_ret (vi 2))))) tss_nil) (tss_one (ts_ret (tm_if (t_cmp (cEq hr) (v 0) (gS h_str_PLAIN_plain)) (b_sum rfl h_free_sum (tms_cons (v 1) tms_nil)) (x_mod (b_sum rfl h_free_sum (tms_cons (v 1) tms_nil)) (v 0)))))), by decide⟩
  case b1 => exact match us, hl with | [_, _], _ => rfl
  case b2 => exact match us, ws, hl, hl2 with | [], [_, _], _, _ => rfl
def N_data_of : List Str := ["table", "name", "number", "pair"]
def m_data_of : M Fl := (mRet (mLc (mRng enumF (mCons (mCall c_Table_data [none] (mCons (mIns "Table" Str.empty (mIm (mRd 0))) mNil)) mNil)) (mUn 2 (mGcons (mPut 2) (mGcons (mPut 3) mGnil))) (asB (m2 fIn (mRd 1) (mRd 3))) (mIm (mRd 2)) [2, 3]))
def c_data_of : Cal := runB 2 4 [] m_data_of
theorem f_data_of (c : SaysM fa fn K) (KX : K.In h) (Gm : h.Ns mainGlobals mg) : ∃ fd, (∀ base : Heap, FnG PG w K mg base CX0 4 (ga K "data_of") fd ["table", "name"] (spT ⟨K, ga K⟩ [] c_data_of)) ∧ Binds K fd ["table", "name"] [] ∧ KwB K fd ["table", "name"] 0 ∧ FunD K "data_of" "data_of" (defArgs (top 39)) (defBody (top 39)) (defScope (top 39)) [] [] (ga K "data_of") fd := by
  obtain ⟨fd, FD⟩ := c.defs.def_ 27
  have h_cls_Table := cls_ok (c.fact 35)
  have h_prop_Table_data := prB_ok (c.fact 47)
  have h_free_enumerate := free_ok KX Gm (c.fact 27)
  obtain ⟨fd_Table_data, F_Table_data, b_Table_data, w_Table_data, d_Table_data⟩ := f_Table_data (w := w) c KX Gm
  have k_Table_data := d_Table_data.kp
  refine ⟨fd, fun base => ?bd0, FunD.bindsN FD fun kV doc pm an cdv ct us hl => ?b1, FunD.kwb FD fun kV doc pm an cdv ct us ws hl hl2 => ?b2, FD⟩
  case bd0 =>
    have F_Table_data := F_Table_data base
    refine fn_g (N := N_data_of) (m := m_data_of) FD ⟨rfl, rfl, rfl, by decide +kernel, rfl, by decide +kernel, by decide +kernel⟩ (by decide) ?_
    intro cdv A outer s H E hG hr
    have hN : (cxOf CX0 PG w K mg base N_data_of "data_of" (defScope (top 39)) (ga K "data_of") cdv A outer s H E).nox.N.Nodup := (by decide : N_data_of.Nodup)
    exact ⟨_, _, (tss_one (ts_ret (x_lc [("number", 2), ("pair", 3)] rfl hN (blk_of (by kernel_rfl)) (it_enum (by rfl) (by rfl) h_free_enumerate (tms_cons (tm_prop h_cls_Table h_prop_Table_data (F_Table_data.monoG (by decide)) hG hr b_Table_data (vi 0)) tms_nil)) (fun _ _ _ _ _ => (tg_un rfl rfl (tgs_cons (gN 2 hN) (tgs_cons (gN 3 hN) tgs_nil)))) (fun _ _ _ _ _ => (tmts_one (t_cmp (cIn hr) (v 1) (v 3)))) (fun _ _ _ _ _ => (vi 2))))), by decide⟩
  case b1 => exact match us, hl with | [_, _], _ => rfl
  case b2 => exact match us, ws, hl, hl2 with | [], [_, _], _, _ => rfl
def N_sum_of : List Str := ["table", "name", "values", "number"]
def m_sum_of : M Fl := (mRet (mCall c_together [none, none] (mCons (mIm (m1 (fFld "Table" "kind") (mRd 0))) (mCons (mFrz (mLc (mItA (mCall c_data_of [none, none] (mCons (mIm (mRd 0)) (mCons (mIm (mRd 1)) mNil)))) (mPut 3) (ret true) (mIm (m2 fIx (mRd 2) (mRd 3))) [3])) mNil))))
def c_sum_of : Cal := runB 3 4 [] m_sum_of
theorem f_sum_of (c : SaysM fa fn K) (KX : K.In h) (Gm : h.Ns mainGlobals mg) : ∃ fd, (∀ base : Heap, FnG PG w K mg base CX0 6 (ga K "sum_of") fd ["table", "name", "values"] (spT ⟨K, ga K⟩ [] c_sum_of)) ∧ Binds K fd ["table", "name", "values"] [] ∧ KwB K fd ["table", "name", "values"] 0 ∧ FunD K "sum_of" "sum_of" (defArgs (top 40)) (defBody (top 40)) (defScope (top 40)) [] [] (ga K "sum_of") fd := by
  obtain ⟨fd, FD⟩ := c.defs.def_ 28
  have h_cls_Table := cls_ok (c.fact 35)
  have h_noat_Table_kind := noat_ok (c.fact 36)
  obtain ⟨fd_together, F_together, b_together, w_together, d_together⟩ := f_together (w := w) c KX Gm
  have k_together := d_together.kp
  have g_together := glo_ok KX Gm (c.fact 51)
  obtain ⟨fd_data_of, F_data_of, b_data_of, w_data_of, d_data_of⟩ := f_data_of (w := w) c KX Gm
  have k_data_of := d_data_of.kp
  have g_data_of := glo_ok KX Gm (c.fact 52)
  refine ⟨fd, fun base => ?bd0, FunD.bindsN FD fun kV doc pm an cdv ct us hl => ?b1, FunD.kwb FD fun kV doc pm an cdv ct us ws hl hl2 => ?b2, FD⟩
  case bd0 =>
    have F_together := F_together base
    have F_data_of := F_data_of base
    refine fn_g (N := N_sum_of) (m := m_sum_of) FD ⟨rfl, rfl, rfl, by decide +kernel, rfl, by decide +kernel, by decide +kernel⟩ (by decide) ?_
    intro cdv A outer s H E hG hr
    have hN : (cxOf CX0 PG w K mg base N_sum_of "sum_of" (defScope (top 40)) (ga K "sum_of") cdv A outer s H E).nox.N.Nodup := (by decide : N_sum_of.Nodup)
    exact ⟨_, _, (tss_one (ts_ret (tm_call (F_together.monoG (by decide)) hG hr (by rfl) g_together k_together b_together (tmc_arg (tm_im (tm_fld rfl h_cls_Table h_noat_Table_kind (v 0))) (tmc_arg (tm_frz (x_lc [("number", 3)] rfl hN (blk_of (by kernel_rfl)) (it_any rfl (tm_call (F_data_of.monoG (by decide)) hG hr (by rfl) g_data_of k_data_of b_data_of (tmc_arg (vi 0) (tmc_arg (vi 1) tmc_nil)))) (fun _ _ _ _ _ => (gN 3 hN)) (fun _ _ _ _ _ => tmts_nil) (fun _ _ _ _ _ => (tm_im (x_ix hr (v 2) (v 3)))))) tmc_nil))))), by decide⟩
  case b1 => exact match us, hl with | [_, _, _], _ => rfl
  case b2 => exact match us, ws, hl, hl2 with | [], [_, _, _], _, _ => rfl
def N_full_of : List Str := ["table", "values", "word", "at"]
def m_full_of : M Fl := (mRet (mF (c1 fTuple) (mCons (mLc (mItA (mCall c_Table_cells [none] (mCons (mIns "Table" Str.empty (mIm (mRd 0))) mNil))) (mUn 2 (mGcons (mPut 2) (mGcons (mPut 3) mGnil))) (ret true) (mIf (asB (m2 fEq (mRd 2) (mC (.str "datum")))) (mIm (m2 fIx (mRd 1) (mRd 3))) (mFrz (mCall c_sum_of [none, none, none] (mCons (mIm (mRd 0)) (mCons (mIm (mRd 3)) (mCons (mIm (mRd 1)) mNil)))))) [2, 3]) mNil)))
def c_full_of : Cal := runB 2 4 [] m_full_of
theorem f_full_of (c : SaysM fa fn K) (KX : K.In h) (Gm : h.Ns mainGlobals mg) : ∃ fd, (∀ base : Heap, FnG PG w K mg base CX0 8 (ga K "full_of") fd ["table", "values"] (spT ⟨K, ga K⟩ [] c_full_of)) ∧ Binds K fd ["table", "values"] [] ∧ KwB K fd ["table", "values"] 0 ∧ FunD K "full_of" "full_of" (defArgs (top 41)) (defBody (top 41)) (defScope (top 41)) [] [] (ga K "full_of") fd := by
  obtain ⟨fd, FD⟩ := c.defs.def_ 29
  have h_cls_Table := cls_ok (c.fact 35)
  have h_prop_Table_cells := prB_ok (c.fact 53)
  have h_free_tuple := free_ok KX Gm (c.fact 23)
  obtain ⟨fd_Table_cells, F_Table_cells, b_Table_cells, w_Table_cells, d_Table_cells⟩ := f_Table_cells (w := w) c KX Gm
  have k_Table_cells := d_Table_cells.kp
  obtain ⟨fd_sum_of, F_sum_of, b_sum_of, w_sum_of, d_sum_of⟩ := f_sum_of (w := w) c KX Gm
  have k_sum_of := d_sum_of.kp
  have g_sum_of := glo_ok KX Gm (c.fact 54)
  refine ⟨fd, fun base => ?bd0, FunD.bindsN FD fun kV doc pm an cdv ct us hl => ?b1, FunD.kwb FD fun kV doc pm an cdv ct us ws hl hl2 => ?b2, FD⟩
  case bd0 =>
    have F_Table_cells := F_Table_cells base
    have F_sum_of := F_sum_of base
    refine fn_g (N := N_full_of) (m := m_full_of) FD ⟨rfl, rfl, rfl, by decide +kernel, rfl, by decide +kernel, by decide +kernel⟩ (by decide) ?_
    intro cdv A outer s H E hG hr
    have hN : (cxOf CX0 PG w K mg base N_full_of "full_of" (defScope (top 41)) (ga K "full_of") cdv A outer s H E).nox.N.Nodup := (by decide : N_full_of.Nodup)
    exact ⟨_, _, (tss_one (ts_ret (b_tuple h_free_tuple (tms_cons (x_lc [("word", 2), ("at", 3)] rfl hN (blk_of (by kernel_rfl)) (it_any rfl (tm_prop h_cls_Table h_prop_Table_cells (F_Table_cells.monoG (by decide)) hG hr b_Table_cells (vi 0))) (fun _ _ _ _ _ => (tg_un rfl rfl (tgs_cons (gN 2 hN) (tgs_cons (gN 3 hN) tgs_nil)))) (fun _ _ _ _ _ => tmts_nil) (fun _ _ _ _ _ => (tm_if (t_cmp (cEq hr) (v 2) tm_str) (tm_im (x_ix hr (v 1) (v 3))) (tm_frz (tm_call (F_sum_of.monoG (by decide)) hG hr (by rfl) g_sum_of k_sum_of b_sum_of (tmc_arg (vi 0) (tmc_arg (vi 3) (tmc_arg (vi 1) tmc_nil)))))))) tms_nil)))), by decide⟩
  case b1 => exact match us, hl with | [_, _], _ => rfl
  case b2 => exact match us, ws, hl, hl2 with | [], [_, _], _, _ => rfl
def N_Table_full : List Str := ["self", "values"]
def m_Table_full : M Fl := (mSeq (mDrop (mCall c_check_values [none, none] (mCons (mIm (mRd 0)) (mCons (mIm (mRd 1)) mNil)))) (mRet (mCall c_full_of [none, none] (mCons (mIm (mRd 0)) (mCons (mIm (mRd 1)) mNil)))))
def c_Table_full : Cal := runB 2 2 [] m_Table_full
theorem f_Table_full (c : SaysM fa fn K) (KX : K.In h) (Gm : h.Ns mainGlobals mg) : ∃ fd, (∀ base : Heap, FnG PG w K mg base CX0 10 (ma K (ga K "Table") "full") fd ["self", "values"] (spT ⟨K, ga K⟩ [] c_Table_full)) ∧ Binds K fd ["self", "values"] [] ∧ KwB K fd ["self", "values"] 1 ∧ FunD K "full" "Table.full" (defArgs (sub 37 8)) (defBody (sub 37 8)) (defScope (sub 37 8)) [] [] (ma K (ga K "Table") "full") fd := by
  obtain ⟨fd, FD⟩ := c.defs.def_ 30
  obtain ⟨fd_check_values, F_check_values, b_check_values, w_check_values, d_check_values⟩ := f_check_values (w := w) c KX Gm
  have k_check_values := d_check_values.kp
  have g_check_values := glo_ok KX Gm (c.fact 55)
  obtain ⟨fd_full_of, F_full_of, b_full_of, w_full_of, d_full_of⟩ := f_full_of (w := w) c KX Gm
  have k_full_of := d_full_of.kp
  have g_full_of := glo_ok KX Gm (c.fact 56)
  refine ⟨fd, fun base => ?bd0, FunD.bindsN FD fun kV doc pm an cdv ct us hl => ?b1, FunD.kwb FD fun kV doc pm an cdv ct us ws hl hl2 => ?b2, FD⟩
  case bd0 =>
    have F_check_values := F_check_values base
    have F_full_of := F_full_of base
    refine fn_g (N := N_Table_full) (m := m_Table_full) FD ⟨rfl, rfl, rfl, by decide +kernel, rfl, by decide +kernel, by decide +kernel⟩ (by decide) ?_
    intro cdv A outer s H E hG hr
    have hN : (cxOf CX0 PG w K mg base N_Table_full "Table.full" (defScope (sub 37 8)) (ma K (ga K "Table") "full") cdv A outer s H E).nox.N.Nodup := (by decide : N_Table_full.Nodup)
    exact ⟨_, _, (tss_cons (ts_expr (tm_call (F_check_values.monoG (by decide)) hG hr (by rfl) g_check_values k_check_values b_check_values (tmc_arg (vi 0) (tmc_arg (vi 1) tmc_nil)))) (tss_one (ts_ret (tm_call (F_full_of.monoG (by decide)) hG hr (by rfl) g_full_of k_full_of b_full_of (tmc_arg (vi 0) (tmc_arg (vi 1) tmc_nil)))))), by decide⟩
  case b1 => exact match us, hl with | [_, _], _ => rfl
  case b2 => exact match us, ws, hl, hl2 with | [_], [_], _, _ => rfl
def N__law_places : List Str := ["_law_chart_here", "_law_tag", "_law_k", "_law_found", "_law_number", "_law_label", "_law_tags", "_law_pairs_here"]
def m__law_places : M Fl := (mSeq (mAsg (mTup (mCons (mFrz (mLst mNil)) (mCons (mC (.int 0)) mNil))) (mUn 2 (mGcons (mPut 3) (mGcons (mPut 4) mGnil)))) (mSeq (mFor (mItA (m2 fIx (mRd 0) (mC (.int 1)))) (mUn 3 (mGcons (mPut 5) (mGcons (mPut 6) (mGcons (mPut 7) mGnil)))) (mSeq (mSet 3 (mFrz (m2 fAdd (mRd 3) (mLc (mItA (mRd 6)) (mPut 1) (ret true) (mFrz (mTup (mCons (mC (.str "sum")) (mCons (mIm (mRd 1)) mNil)))) [1])))) (mSeq (mSet 3 (mFrz (m2 fAdd (mRd 3) (mLc (mRng rng1 (mCons (mF (c1 fLen) (mCons (mRd 7) mNil)) mNil)) (mPut 2) (ret true) (mFrz (mTup (mCons (mC (.str "datum")) (mCons (mFrz (m2 fAdd (mRd 4) (mRd 2))) mNil)))) [2])))) (mSet 4 (mFrz (m2 fAdd (mRd 4) (mF (c1 fLen) (mCons (mRd 7) mNil)))))))) (mRet (mIm (mRd 3)))))
def c__law_places : Cal := runB 1 8 [] m__law_places
theorem f__law_places (c : SaysM fa fn K) (KX : K.In h) (Gm : h.Ns mainGlobals mg) : ∃ fd, (∀ base : Heap, FnG PG w K mg base CX0 2 (ga K "_law_places") fd ["_law_chart_here"] (spT ⟨K, ga K⟩ [] c__law_places)) ∧ Binds K fd ["_law_chart_here"] [] ∧ KwB K fd ["_law_chart_here"] 0 ∧ FunD K "_law_places" "_law_places" (defArgs (top 52)) (defBody (top 52)) (defScope (top 52)) [] [] (ga K "_law_places") fd := by
  obtain ⟨fd, FD⟩ := c.defs.def_ 31
  have h_free_len := free_ok KX Gm (c.fact 2)
  have h_free_range := free_ok KX Gm (c.fact 4)
  refine ⟨fd, fun base => ?bd0, FunD.bindsN FD fun kV doc pm an cdv ct us hl => ?b1, FunD.kwb FD fun kV doc pm an cdv ct us ws hl hl2 => ?b2, FD⟩
  case bd0 =>
    refine fn_g (N := N__law_places) (m := m__law_places) FD ⟨rfl, rfl, rfl, by decide +kernel, rfl, by decide +kernel, by decide +kernel⟩ (by decide) ?_
    intro cdv A outer s H E hG hr
    have hN : (cxOf CX0 PG w K mg base N__law_places "_law_places" (defScope (top 52)) (ga K "_law_places") cdv A outer s H E).nox.N.Nodup := (by decide : N__law_places.Nodup)
    exact ⟨_, _, (tss_cons (ts_asg (tm_tup (tms_cons (tm_frz (tm_lst tms_nil)) (tms_cons tm_int tms_nil))) (tg_un rfl rfl (tgs_cons (gN 3 hN) (tgs_cons (gN 4 hN) tgs_nil)))) (tss_cons (ts_for passNox rfl (it_any rfl (x_ix hr (v 0) tm_int)) (tg_un rfl rfl (tgs_cons (gN 5 hN) (tgs_cons (gN 6 hN) (tgs_cons (gN 7 hN) tgs_nil)))) (tss_cons (s_set 3 (tm_frz (x_add (v 3) (x_lc [("_law_tag", 1)] rfl hN (blk_of (by kernel_rfl)) (it_any rfl (v 6)) (fun _ _ _ _ _ => (gN 1 hN)) (fun _ _ _ _ _ => tmts_nil) (fun _ _ _ _ _ => (tm_frz (tm_tup (tms_cons tm_str (tms_cons (vi 1) tms_nil)))))))) hN) (tss_cons (s_set 3 (tm_frz (x_add (v 3) (x_lc [("_law_k", 2)] rfl hN (blk_of (by kernel_rfl)) (it_range1 (by rfl) h_free_range (tms_cons (b_len h_free_len (tms_cons (v 7) tms_nil)) tms_nil)) (fun _ _ _ _ _ => (gN 2 hN)) (fun _ _ _ _ _ => tmts_nil) (fun _ _ _ _ _ => (tm_frz (tm_tup (tms_cons tm_str (tms_cons (tm_frz (x_add (v 4) (v 2))) tms_nil)))))))) hN) (tss_one (s_set 4 (tm_frz (x_add (v 4) (b_len h_free_len (tms_cons (v 7) tms_nil)))) hN))))) (tss_one (ts_ret (vi 3))))), by decide⟩
  case b1 => exact match us, hl with | [_], _ => rfl
  case b2 => exact match us, ws, hl, hl2 with | [], [_], _, _ => rfl
def N__law_right_v1 : List Str := ["_law_jar_here", "_law_k", "_law_tag", "_law_each", "_law_turn", "_law_chart_here", "_law_mine", "_law_kind", "_law_one", "_law_two", "_law_both", "_law_first", "_law_last", "_law_joined_here", "_law_at", "_law_fresh", "_law_later", "_law_places_here", "_law_moved", "_law_touched"]
def m__law_right_v1 : M Fl := (mSeq (mFor (mRng rng1 (mCons (mC (.int 3)) mNil)) (mPut 4) (mSeq (mSet 5 (mFrz (mCall c__law_chart [(some 0), none, none, none] (mCons (mLn 0) (mCons (mC (.int 5)) (mCons (mC (.int 8)) (mCons (mC (.int 12)) mNil))))))) (mSeq (mAsg (mTup (mCons (mFrz (mCall c__law_made [none] (mCons (mIm (mRd 5)) mNil))) (mCons (mIm (m2 fIx (mRd 5) (mC (.int 0)))) mNil))) (mUn 2 (mGcons (mPut 6) (mGcons (mPut 7) mGnil)))) (mSeq (mAsg (mTup (mCons (mFrz (mCall c__law_small [(some 0), none] (mCons (mLn 0) (mCons (mIm (mRd 5)) mNil)))) (mCons (mFrz (mCall c__law_small [(some 0), none] (mCons (mLn 0) (mCons (mIm (mRd 5)) mNil)))) mNil))) (mUn 2 (mGcons (mPut 8) (mGcons (mPut 9) mGnil)))) (mSeq (mSet 10 (mLc (mRng rng1 (mCons (mF (c1 fLen) (mCons (mRd 8) mNil)) mNil)) (mPut 1) (ret true) (mFrz (mCall c__law_together [none, none] (mCons (mIm (mRd 7)) (mCons (mFrz (mLst (mCons (mIm (m2 fIx (mRd 8) (mRd 1))) (mCons (mIm (m2 fIx (mRd 9) (mRd 1))) mNil)))) mNil)))) [1])) (mSeq (mAsg (mTup (mCons (mFrz (mCall c_Table_full (none :: [none]) (mCons (mIns "Table" "full" (mIm (mRd 6))) (mCons (mFrz (mF (c1 fTuple) (mCons (mRd 8) mNil))) mNil)))) (mCons (mFrz (mCall c_Table_full (none :: [none]) (mCons (mIns "Table" "full" (mIm (mRd 6))) (mCons (mFrz (mF (c1 fTuple) (mCons (mRd 9) mNil))) mNil)))) (mCons (mFrz (mCall c_Table_full (none :: [none]) (mCons (mIns "Table" "full" (mIm (mRd 6))) (mCons (mFrz (mF (c1 fTuple) (mCons (mRd 10) mNil))) mNil)))) mNil)))) (mUn 3 (mGcons (mPut 11) (mGcons (mPut 12) (mGcons (mPut 13) mGnil))))) (mSeq (mIfS (asB (m2 fNe (mF (c1 fListU) (mCons (mRd 13) mNil)) (mLc (mRng rng1 (mCons (mF (c1 fLen) (mCons (mRd 11) mNil)) mNil)) (mPut 1) (ret true) (mFrz (mCall c__law_together [none, none] (mCons (mIm (mRd 7)) (mCons (mFrz (mLst (mCons (mIm (m2 fIx (mRd 11) (mRd 1))) (mCons (mIm (m2 fIx (mRd 12) (mRd 1))) mNil)))) mNil)))) [1]))) (mRet (mC (.bl false))) (ret .nx)) (mSeq (mIfS (asB (m2 fNe (mCall c_Table_full (none :: [none]) (mCons (mIns "Table" "full" (mIm (mRd 6))) (mCons (mFrz (m2 fMul (mTup (mCons (mC (.int 0)) mNil)) (mF (c1 fLen) (mCons (mRd 8) mNil)))) mNil))) (m2 fMul (mTup (mCons (mC (.int 0)) mNil)) (mF (c1 fLen) (mCons (mRd 11) mNil))))) (mRet (mC (.bl false))) (ret .nx)) (mFor (mRng rng1 (mCons (mF (c1 fLen) (mCons (mRd 8) mNil)) mNil)) (mPut 14) (mSeq (mSet 15 (mFrz (m2 fAdd (m2 fAdd (mSl fCut (mRd 8) mNoP (mPt (mRd 14))) (mLst (mCons (mFrz (mCall c__law_together [none, none] (mCons (mIm (mRd 7)) (mCons (mFrz (mLst (mCons (mIm (m2 fIx (mRd 8) (mRd 14))) (mCons (mC (.int 1)) mNil)))) mNil)))) mNil))) (mSl fCut (mRd 8) (mPt (m2 fAdd (mRd 14) (mC (.int 1)))) mNoP)))) (mSeq (mAsg (mTup (mCons (mFrz (mCall c_Table_full (none :: [none]) (mCons (mIns "Table" "full" (mIm (mRd 6))) (mCons (mFrz (mF (c1 fTuple) (mCons (mRd 15) mNil))) mNil)))) (mCons (mFrz (mCall c__law_places [none] (mCons (mIm (mRd 5)) mNil))) mNil))) (mUn 2 (mGcons (mPut 16) (mGcons (mPut 17) mGnil)))) (mSeq (mSet 18 (mLc (mRng rng1 (mCons (mF (c1 fLen) (mCons (mRd 17) mNil)) mNil)) (mPut 1) (asB (m2 fNe (m2 fIx (mRd 16) (mRd 1)) (m2 fIx (mRd 11) (mRd 1)))) (mIm (m2 fIx (mRd 17) (mRd 1))) [1])) (mSeq (mSet 19 (mFrz (m2 fAdd (mLst (mCons (mFrz (mTup (mCons (mC (.str "datum")) (mCons (mIm (mRd 14)) mNil)))) mNil)) (mLc (mItA (m2 fIx (mCall c__law_pairs [none] (mCons (mIm (mRd 5)) mNil)) (mRd 14))) (mPut 2) (ret true) (mFrz (mTup (mCons (mC (.str "sum")) (mCons (mIm (mRd 2)) mNil)))) [2])))) (mSeq (mIfS (asB (m2 fNe (mF (c1 fSorted) (mCons (mLc (mItA (mRd 18)) (mPut 3) (ret true) (mF (c1 fRepr) (mCons (mRd 3) mNil)) [3]) mNil)) (mF (c1 fSorted) (mCons (mLc (mItA (mRd 19)) (mPut 3) (ret true) (mF (c1 fRepr) (mCons (mRd 3) mNil)) [3]) mNil)))) (mRet (mC (.bl false))) (ret .nx)) (mFor (mRng rng1 (mCons (mF (c1 fLen) (mCons (mRd 17) mNil)) mNil)) (mPut 1) (mIfS (mAnd (asB (m2 fIn (m2 fIx (mRd 17) (mRd 1)) (mRd 19))) (asB (m2 fNe (m2 fIx (mRd 16) (mRd 1)) (mCall c__law_together [none, none] (mCons (mIm (mRd 7)) (mCons (mFrz (mLst (mCons (mIm (m2 fIx (mRd 11) (mRd 1))) (mCons (mC (.int 1)) mNil)))) mNil)))))) (mRet (mC (.bl false))) (ret .nx))))))))))))))))) (mRet (mC (.bl true))))
def c__law_right_v1 : Cal := runB 1 20 [0] m__law_right_v1
theorem f__law_right_v1 (c : SaysM fa fn K) (KX : K.In h) (Gm : h.Ns mainGlobals mg) : ∃ fd, (∀ base : Heap, FnG PG w K mg base CX0 14 (ga K "_law_right") fd ["_law_jar_here"] (spT ⟨K, ga K⟩ [0] c__law_right_v1)) ∧ Binds K fd ["_law_jar_here"] [] ∧ KwB K fd ["_law_jar_here"] 0 ∧ FunD K "_law_right" "_law_right" (defArgs (top 55)) (defBody (top 55)) (defScope (top 55)) [] [] (ga K "_law_right") fd := by
  obtain ⟨fd, FD⟩ := c.defs.def_ 32
  have h_free_range := free_ok KX Gm (c.fact 4)
  have h_free_len := free_ok KX Gm (c.fact 2)
  have h_free_tuple := free_ok KX Gm (c.fact 23)
  have h_cls_Table := cls_ok (c.fact 35)
  have h_meth_Table_full := meth_ok (c.fact 57)
  have h_free_list := free_ok KX Gm (c.fact 34)
  have h_free_repr := free_ok KX Gm (c.fact 58)
  have h_free_sorted := free_ok KX Gm (c.fact 59)
  obtain ⟨fd__law_chart, F__law_chart, b__law_chart, w__law_chart, d__law_chart⟩ := f__law_chart (w := w) c KX Gm
  have k__law_chart := d__law_chart.kp
  have g__law_chart := glo_ok KX Gm (c.fact 60)
  obtain ⟨fd__law_made, F__law_made, b__law_made, w__law_made, d__law_made⟩ := f__law_made (w := w) c KX Gm
  have k__law_made := d__law_made.kp
  have g__law_made := glo_ok KX Gm (c.fact 61)
  obtain ⟨fd__law_small, F__law_small, b__law_small, w__law_small, d__law_small⟩ := f__law_small (w := w) c KX Gm
  have k__law_small := d__law_small.kp
  have g__law_small := glo_ok KX Gm (c.fact 62)
  obtain ⟨fd__law_together, F__law_together, b__law_together, w__law_together, d__law_together⟩ := f__law_together (w := w) c KX Gm
  have k__law_together := d__law_together.kp
  have g__law_together := glo_ok KX Gm (c.fact 63)
  obtain ⟨fd_Table_full, F_Table_full, b_Table_full, w_Table_full, d_Table_full⟩ := f_Table_full (w := w) c KX Gm
  have k_Table_full := d_Table_full.kp
  obtain ⟨fd__law_places, F__law_places, b__law_places, w__law_places, d__law_places⟩ := f__law_places (w := w) c KX Gm
  have k__law_places := d__law_places.kp
  have g__law_places := glo_ok KX Gm (c.fact 64)
  obtain ⟨fd__law_pairs, F__law_pairs, b__law_pairs, w__law_pairs, d__law_pairs⟩ := f__law_pairs (w := w) c KX Gm
  have k__law_pairs := d__law_pairs.kp
  have g__law_pairs := glo_ok KX Gm (c.fact 45)
  refine ⟨fd, fun base => ?bd0, FunD.bindsN FD fun kV doc pm an cdv ct us hl => ?b1, FunD.kwb FD fun kV doc pm an cdv ct us ws hl hl2 => ?b2, FD⟩
  case bd0 =>
    have F__law_chart := F__law_chart base
    have F__law_made := F__law_made base
    have F__law_small := F__law_small base
    have F__law_together := F__law_together base
    have F_Table_full := F_Table_full base
    have F__law_places := F__law_places base
    have F__law_pairs := F__law_pairs base
    refine fn_g (N := N__law_right_v1) (m := m__law_right_v1) FD ⟨rfl, rfl, rfl, by decide +kernel, rfl, by decide +kernel, by decide +kernel⟩ (by decide) ?_
    intro cdv A outer s H E hG hr
    have hN : (cxOf CX0 PG w K mg base N__law_right_v1 "_law_right" (defScope (top 55)) (ga K "_law_right") cdv A outer s H E).nox.N.Nodup := (by decide : N__law_right_v1.Nodup)
    exact ⟨_, _, (tss_cons (ts_for passNox rfl (it_range1 (by rfl) h_free_range (tms_cons tm_int tms_nil)) (gN 4 hN) (tss_cons (s_set 5 (tm_frz (tm_call (F__law_chart.monoG (by decide)) hG hr (by rfl) g__law_chart k__law_chart b__law_chart (tmc_lend (nv 0) (tmc_arg tm_int (tmc_arg tm_int (tmc_arg tm_int tmc_nil)))))) hN) (tss_cons (ts_asg (tm_tup (tms_cons (tm_frz (tm_call (F__law_made.monoG (by decide)) hG hr (by rfl) g__law_made k__law_made b__law_made (tmc_arg (vi 5) tmc_nil))) (tms_cons (tm_im (x_ix hr (v 5) tm_int)) tms_nil))) (tg_un rfl rfl (tgs_cons (gN 6 hN) (tgs_cons (gN 7 hN) tgs_nil)))) (tss_cons (ts_asg (tm_tup (tms_cons (tm_frz (tm_call (F__law_small.monoG (by decide)) hG hr (by rfl) g__law_small k__law_small b__law_small (tmc_lend (nv 0) (tmc_arg (vi 5) tmc_nil)))) (tms_cons (tm_frz (tm_call (F__law_small.monoG (by decide)) hG hr (by rfl) g__law_small k__law_small b__law_small (tmc_lend (nv 0) (tmc_arg (vi 5) tmc_nil)))) tms_nil))) (tg_un rfl rfl (tgs_cons (gN 8 hN) (tgs_cons (gN 9 hN) tgs_nil)))) (tss_cons (s_setLc 10 [("_law_k", 1)] rfl hN (blk_of (by kernel_rfl)) (it_range1 (by rfl) h_free_range (tms_cons (b_len h_free_len (tms_cons (v 8) tms_nil)) tms_nil)) (fun _ _ _ _ _ => (gN 1 hN)) (fun _ _ _ _ _ => tmts_nil) (fun _ _ _ _ _ => (tm_frz (tm_call (F__law_together.monoG (by decide)) hG hr (by rfl) g__law_together k__law_together b__law_together (tmc_arg (vi 7) (tmc_arg (tm_frz (tm_lst (tms_cons (tm_im (x_ix hr (v 8) (v 1))) (tms_cons (tm_im (x_ix hr (v 9) (v 1))) tms_nil)))) tmc_nil)))))) (tss_cons (ts_asg (tm_tup (tms_cons (tm_frz (tm_meth h_cls_Table h_meth_Table_full (F_Table_full.monoG (by decide)) hG hr b_Table_full (vi 6) (tmc_arg (tm_frz (b_tuple h_free_tuple (tms_cons (v 8) tms_nil))) tmc_nil))) (tms_cons (tm_frz (tm_meth h_cls_Table h_meth_Table_full (F_Table_full.monoG (by decide)) hG hr b_Table_full (vi 6) (tmc_arg (tm_frz (b_tuple h_free_tuple (tms_cons (v 9) tms_nil))) tmc_nil))) (tms_cons (tm_frz (tm_meth h_cls_Table h_meth_Table_full (F_Table_full.monoG (by decide)) hG hr b_Table_full (vi 6) (tmc_arg (tm_frz (b_tuple h_free_tuple (tms_cons (v 10) tms_nil))) tmc_nil))) tms_nil)))) (tg_un rfl rfl (tgs_cons (gN 11 hN) (tgs_cons (gN 12 hN) (tgs_cons (gN 13 hN) tgs_nil))))) (tss_cons (ts_if (t_cmp (cNe hr) (b_list rfl h_free_list (tms_cons (v 13) tms_nil)) (x_lc [("_law_k", 1)] rfl hN (blk_of (by kernel_rfl)) (it_range1 (by rfl) h_free_range (tms_cons (b_len h_free_len (tms_cons (v 11) tms_nil)) tms_nil)) (fun _ _ _ _ _ => (gN 1 hN)) (fun _ _ _ _ _ => tmts_nil) (fun _ _ _ _ _ => (tm_frz (tm_call (F__law_together.monoG (by decide)) hG hr (by rfl) g__law_together k__law_together b__law_together (tmc_arg (vi 7) (tmc_arg (tm_frz (tm_lst (tms_cons (tm_im (x_ix hr (v 11) (v 1))) (tms_cons (tm_im (x_ix hr (v 12) (v 1))) tms_nil)))) tmc_nil))))))) (tss_one (ts_ret tm_bl)) tss_nil) (tss_cons (ts_if (t_cmp (cNe hr) (tm_meth h_cls_Table h_meth_Table_full (F_Table_full.monoG (by decide)) hG hr b_Table_full (vi 6) (tmc_arg (tm_frz (x_mul (tm_tup (tms_cons tm_int tms_nil)) (b_len h_free_len (tms_cons (v 8) tms_nil)))) tmc_nil)) (x_mul (tm_tup (tms_cons tm_int tms_nil)) (b_len h_free_len (tms_cons (v 11) tms_nil)))) (tss_one (ts_ret tm_bl)) tss_nil) (tss_one (ts_for passNox rfl (it_range1 (by rfl) h_free_range (tms_cons (b_len h_free_len (tms_cons (v 8) tms_nil)) tms_nil)) (gN 14 hN) (tss_cons (s_set 15 (tm_frz (x_add (x_add (x_cut (v 8) tmo_none (tmo_some (v 14))) (tm_lst (tms_cons (tm_frz (tm_call (F__law_together.monoG (by decide)) hG hr (by rfl) g__law_together k__law_together b__law_together (tmc_arg (vi 7) (tmc_arg (tm_frz (tm_lst (tms_cons (tm_im (x_ix hr (v 8) (v 14))) (tms_cons tm_int tms_nil)))) tmc_nil)))) tms_nil))) (x_cut (v 8) (tmo_some (x_add (v 14) tm_int)) tmo_none))) hN) (tss_cons (ts_asg (tm_tup (tms_cons (tm_frz (tm_meth h_cls_Table h_meth_Table_full (F_Table_full.monoG (by decide)) hG hr b_Table_full (vi 6) (tmc_arg (tm_frz (b_tuple h_free_tuple (tms_cons (v 15) tms_nil))) tmc_nil))) (tms_cons (tm_frz (tm_call (F__law_places.monoG (by decide)) hG hr (by rfl) g__law_places k__law_places b__law_places (tmc_arg (vi 5) tmc_nil))) tms_nil))) (tg_un rfl rfl (tgs_cons (gN 16 hN) (tgs_cons (gN 17 hN) tgs_nil)))) (tss_cons (s_setLc 18 [("_law_k", 1)] rfl hN (blk_of (by kernel_rfl)) (it_range1 (by rfl) h_free_range (tms_cons (b_len h_free_len (tms_cons (v 17) tms_nil)) tms_nil)) (fun _ _ _ _ _ => (gN 1 hN)) (fun _ _ _ _ _ => (tmts_one (t_cmp (cNe hr) (x_ix hr (v 16) (v 1)) (x_ix hr (v 11) (v 1))))) (fun _ _ _ _ _ => (tm_im (x_ix hr (v 17) (v 1))))) (tss_cons (s_set 19 (tm_frz (x_add (tm_lst (tms_cons (tm_frz (tm_tup (tms_cons tm_str (tms_cons (vi 14) tms_nil)))) tms_nil)) (x_lc [("_law_tag", 2)] rfl hN (blk_of (by kernel_rfl)) (it_any rfl (x_ix hr (tm_call (F__law_pairs.monoG (by decide)) hG hr (by rfl) g__law_pairs k__law_pairs b__law_pairs (tmc_arg (vi 5) tmc_nil)) (v 14))) (fun _ _ _ _ _ => (gN 2 hN)) (fun _ _ _ _ _ => tmts_nil) (fun _ _ _ _ _ => (tm_frz (tm_tup (tms_cons tm_str (tms_cons (vi 2) tms_nil)))))))) hN) (tss_cons (ts_if (t_cmp (cNe hr) (b_sorted h_free_sorted (tms_cons (x_lc [("_law_each", 3)] rfl hN (blk_of (by kernel_rfl)) (it_any rfl (v 18)) (fun _ _ _ _ _ => (gN 3 hN)) (fun _ _ _ _ _ => tmts_nil) (fun _ _ _ _ _ => (b_repr hG hr h_free_repr (tms_cons (v 3) tms_nil)))) tms_nil)) (b_sorted h_free_sorted (tms_cons (x_lc [("_law_each", 3)] rfl hN (blk_of (by kernel_rfl)) (it_any rfl (v 19)) (fun _ _ _ _ _ => (gN 3 hN)) (fun _ _ _ _ _ => tmts_nil) (fun _ _ _ _ _ => (b_repr hG hr h_free_repr (tms_cons (v 3) tms_nil)))) tms_nil))) (tss_one (ts_ret tm_bl)) tss_nil) (tss_one (ts_for passNox rfl (it_range1 (by rfl) h_free_range (tms_cons (b_len h_free_len (tms_cons (v 17) tms_nil)) tms_nil)) (gN 1 hN) (tss_one (ts_if (tmt_w (tmt_and (t_cmp (cIn hr) (x_ix hr (v 17) (v 1)) (v 19)) (tmt_and1 (t_cmp (cNe hr) (x_ix hr (v 16) (v 1)) (tm_call (F__law_together.monoG (by decide)) hG hr (by rfl) g__law_together k__law_together b__law_together (tmc_arg (vi 7) (tmc_arg (tm_frz (tm_lst (tms_cons (tm_im (x_ix hr (v 11) (v 1))) (tms_cons tm_int tms_nil)))) tmc_nil))))))) (tss_one (ts_ret tm_bl)) tss_nil))))))))))))))))))) (tss_one (ts_ret tm_bl))), by decide⟩
  case b1 => exact match us, hl with | [_], _ => rfl
  case b2 => exact match us, ws, hl, hl2 with | [], [_], _, _ => rfl
def N__law_jar : List Str := ["_law_cells", "_law_turn", "_law_cell", "_law_mixed", "_law_each"]
def m__law_jar : M Fl := (mSeq (mSet 2 (mIf (asB (m2 fLt (mRd 1) (mF (c1 fLen) (mCons (mRd 0) mNil)))) (mIm (m2 fIx (mRd 0) (mRd 1))) (mFrz (m2 fAdd (m2 fMul (mC (.int 11)) (mRd 1)) (mC (.int 4)))))) (mSeq (mSet 3 (mFrz (m2 fAdd (mC (.int 60013)) (m2 fMul (mC (.int 8009)) (mRd 1))))) (mSeq (mFor (mItA (m2 fAdd (mSl fCut (mRd 0) mNoP (mPt (mC (.int 5)))) (mLst (mCons (mIm (mRd 2)) mNil)))) (mPut 4) (mSet 3 (m2 (fII iMod) (mF (c1 fInt) (mCons (m2 fAdd (m2 fMul (mRd 3) (mC (.int 28411))) (mRd 4)) mNil)) (mC (.int 2147483087))))) (mRet (mLst (mCons (mIf (mOr (asB (m2 fLt (mRd 2) (mC (.int 0)))) (asB (m2 fGe (mRd 2) (m2 (fII iPow) (mC (.int 10)) (mC (.int 18)))))) (mF (c1 fAbs) (mCons (mRd 2) mNil)) (mC (.int 0))) (mCons (mIm (mRd 3)) (mCons (mC (.int 0)) mNil))))))))
def c__law_jar : Cal := runB 2 5 [] m__law_jar
theorem f__law_jar (c : SaysM fa fn K) (KX : K.In h) (Gm : h.Ns mainGlobals mg) : ∃ fd, (∀ base : Heap, FnG PG w K mg base CX0 2 (ga K "_law_jar") fd ["_law_cells", "_law_turn"] (spT ⟨K, ga K⟩ [] c__law_jar)) ∧ Binds K fd ["_law_cells", "_law_turn"] [] ∧ KwB K fd ["_law_cells", "_law_turn"] 0 ∧ FunD K "_law_jar" "_law_jar" (defArgs (top 53)) (defBody (top 53)) (defScope (top 53)) [] [] (ga K "_law_jar") fd := by
  obtain ⟨fd, FD⟩ := c.defs.def_ 33
  have h_free_len := free_ok KX Gm (c.fact 2)
  have h_free_int := free_ok KX Gm (c.fact 1)
  have h_free_abs := free_ok KX Gm (c.fact 65)
  refine ⟨fd, fun base => ?bd0, FunD.bindsN FD fun kV doc pm an cdv ct us hl => ?b1, FunD.kwb FD fun kV doc pm an cdv ct us ws hl hl2 => ?b2, FD⟩
  case bd0 =>
    refine fn_g (N := N__law_jar) (m := m__law_jar) FD ⟨rfl, rfl, rfl, by decide +kernel, rfl, by decide +kernel, by decide +kernel⟩ (by decide) ?_
    intro cdv A outer s H E hG hr
    have hN : (cxOf CX0 PG w K mg base N__law_jar "_law_jar" (defScope (top 53)) (ga K "_law_jar") cdv A outer s H E).nox.N.Nodup := (by decide : N__law_jar.Nodup)
    exact ⟨_, _, (tss_cons (s_set 2 (tm_if (t_cmp cLt (v 1) (b_len h_free_len (tms_cons (v 0) tms_nil))) (tm_im (x_ix hr (v 0) (v 1))) (tm_frz (x_add (x_mul tm_int (v 1)) tm_int))) hN) (tss_cons (s_set 3 (tm_frz (x_add tm_int (x_mul tm_int (v 1)))) hN) (tss_cons (ts_for passNox rfl (it_any rfl (x_add (x_cut (v 0) tmo_none (tmo_some tm_int)) (tm_lst (tms_cons (vi 2) tms_nil)))) (gN 4 hN) (tss_one (s_set 3 (x_mod (b_int h_free_int (tms_cons (x_add (x_mul (v 3) tm_int) (v 4)) tms_nil)) tm_int) hN))) (tss_one (ts_ret (tm_lst (tms_cons (tm_if (tmt_w (tmt_or (t_cmp cLt (v 2) tm_int) (tmt_or1 (t_cmp cGe (v 2) (x_pow tm_int tm_int))))) (b_abs h_free_abs (tms_cons (v 2) tms_nil)) tm_int) (tms_cons (vi 3) (tms_cons tm_int tms_nil))))))))), by decide⟩
  case b1 => exact match us, hl with | [_, _], _ => rfl
  case b2 => exact match us, ws, hl, hl2 with | [], [_, _], _, _ => rfl
def N_law_v1 : List Str := ["_law_cells", "_law_turn"]
def m_law_v1 : M Fl := (mRet (mF (c1 (fBools fun bs => bs.all id)) (mCons (mLc (mRng rng1 (mCons (mF (c2 fMax) (mCons (mC (.int 2)) (mCons (mF (c2 fMin) (mCons (mF (c1 fLen) (mCons (mRd 0) mNil)) (mCons (mC (.int 6)) mNil))) mNil))) mNil)) (mPut 1) (ret true) (mFrz (mGive c__law_right_v1 (mCall c__law_jar [none, none] (mCons (mIm (mRd 0)) (mCons (mIm (mRd 1)) mNil))))) [1]) mNil)))
def c_law_v1 : Cal := runB 1 2 [] m_law_v1
theorem f_law_v1 (c : SaysM fa fn K) (KX : K.In h) (Gm : h.Ns mainGlobals mg) : ∃ fd, (∀ base : Heap, FnG PG w K mg base CX0 16 (ga K "law") fd ["_law_cells"] (spT ⟨K, ga K⟩ [] c_law_v1)) ∧ Binds K fd ["_law_cells"] [] ∧ KwB K fd ["_law_cells"] 0 ∧ FunD K "law" "law" (defArgs (top 56)) (defBody (top 56)) (defScope (top 56)) [] [] (ga K "law") fd := by
  obtain ⟨fd, FD⟩ := c.defs.def_ 34
  have h_free_len := free_ok KX Gm (c.fact 2)
  have h_free_min := free_ok KX Gm (c.fact 7)
  have h_free_max := free_ok KX Gm (c.fact 6)
  have h_free_range := free_ok KX Gm (c.fact 4)
  have h_free_all := free_ok KX Gm (c.fact 22)
  obtain ⟨fd__law_right_v1, F__law_right_v1, b__law_right_v1, w__law_right_v1, d__law_right_v1⟩ := f__law_right_v1 (w := w) c KX Gm
  have k__law_right_v1 := d__law_right_v1.kp
  have g__law_right_v1 := glo_ok KX Gm (c.fact 66)
  obtain ⟨fd__law_jar, F__law_jar, b__law_jar, w__law_jar, d__law_jar⟩ := f__law_jar (w := w) c KX Gm
  have k__law_jar := d__law_jar.kp
  have g__law_jar := glo_ok KX Gm (c.fact 67)
  refine ⟨fd, fun base => ?bd0, FunD.bindsN FD fun kV doc pm an cdv ct us hl => ?b1, FunD.kwb FD fun kV doc pm an cdv ct us ws hl hl2 => ?b2, FD⟩
  case bd0 =>
    have F__law_right_v1 := F__law_right_v1 base
    have F__law_jar := F__law_jar base
    refine fn_g (N := N_law_v1) (m := m_law_v1) FD ⟨rfl, rfl, rfl, by decide +kernel, rfl, by decide +kernel, by decide +kernel⟩ (by decide) ?_
    intro cdv A outer s H E hG hr
    have hN : (cxOf CX0 PG w K mg base N_law_v1 "law" (defScope (top 56)) (ga K "law") cdv A outer s H E).nox.N.Nodup := (by decide : N_law_v1.Nodup)
    exact ⟨_, _, (tss_one (ts_ret (b_all rfl h_free_all (tms_cons (x_lc [("_law_turn", 1)] rfl hN (blk_of (by kernel_rfl)) (it_range1 (by rfl) h_free_range (tms_cons (b_max rfl h_free_max (tms_cons tm_int (tms_cons (b_min rfl h_free_min (tms_cons (b_len h_free_len (tms_cons (v 0) tms_nil)) (tms_cons tm_int tms_nil))) tms_nil))) tms_nil)) (fun _ _ _ _ _ => (gN 1 hN)) (fun _ _ _ _ _ => tmts_nil) (fun _ _ _ _ _ => (tm_frz (tm_give (F__law_right_v1.monoG (by decide)) hG hr (by rfl) g__law_right_v1 k__law_right_v1 b__law_right_v1 (tm_call (F__law_jar.monoG (by decide)) hG hr (by rfl) g__law_jar k__law_jar b__law_jar (tmc_arg (vi 0) (tmc_arg (vi 1) tmc_nil))))))) tms_nil)))), by decide⟩
  case b1 => exact match us, hl with | [_], _ => rfl
  case b2 => exact match us, ws, hl, hl2 with | [], [_], _, _ => rfl
end
end MI
/-! P0: what a mirror comes to, step by step. -/
namespace MI
open PySem L2
section
variable {α β : Type}
@[simp] theorem ex_pair {x : α} {y : β} {Q : α → β → Prop} : (∃ a b, (x = a ∧ y = b) ∧ Q a b) ↔ Q x y := ⟨fun ⟨_, _, ⟨rfl, rfl⟩, q⟩ => q, fun q => ⟨_, _, ⟨rfl, rfl⟩, q⟩⟩
@[simp] theorem ex_pair_u {x : β} {Q : Unit → β → Prop} : (∃ (a : Unit) (b : β), x = b ∧ Q a b) ↔ Q () x := ⟨fun ⟨_, _, rfl, q⟩ => q, fun q => ⟨_, _, rfl, q⟩⟩
def Ev0 (m : M α) (Ts : List T) (Q : α → List T → Prop) : Prop := ∃ a Ts', m Ts = some (a, Ts') ∧ Q a Ts'
def EvO0 (o : Option α) (Q : α → Prop) : Prop := ∃ a, o = some a ∧ Q a
@[simp] theorem EvO0_some {a : α} {Q : α → Prop} : EvO0 (some a) Q ↔ Q a := by simp [EvO0]
@[simp] theorem EvO0_none {Q : α → Prop} : EvO0 none Q ↔ False := by simp [EvO0]
theorem EvO0.eq {o : Option α} {a : α} (h : EvO0 o (· = a)) : o = some a := by
  obtain ⟨b, e, rfl⟩ := h; exact e
theorem EvO0_of {o : Option α} {a : α} {Q : α → Prop} (h : o = some a) (q : Q a) : EvO0 o Q := ⟨a, h, q⟩
theorem EvO0.mono {o : Option α} {P Q : α → Prop} (h : EvO0 o P) (i : ∀ a, P a → Q a) : EvO0 o Q := let ⟨a, e, p⟩ := h; ⟨a, e, i a p⟩
theorem Ev0.mono {m : M α} {Ts : List T} {P Q : α → List T → Prop} (h : Ev0 m Ts P) (i : ∀ a Ts', P a Ts' → Q a Ts') : Ev0 m Ts Q := let ⟨a, s, e, p⟩ := h; ⟨a, s, e, i a s p⟩
@[simp] theorem EvO0_ite {c : Prop} [Decidable c] {o o' : Option α} {Q : α → Prop} : EvO0 (if c then o else o') Q ↔ if c then EvO0 o Q else EvO0 o' Q := by split <;> rfl
@[simp] theorem EvO0_bind {o : Option α} {f : α → Option β} {Q : β → Prop} : EvO0 (o.bind f) Q ↔ EvO0 o fun a => EvO0 (f a) Q := by cases o <;> simp [EvO0]
@[simp] theorem EvO0_map {o : Option α} {f : α → β} {Q : β → Prop} : EvO0 (o.map f) Q ↔ EvO0 o fun a => Q (f a) := by cases o <;> simp [EvO0]
theorem Ev0_is {m : M α} {Ts s : List T} {a : α} {Q : α → List T → Prop} (h : m Ts = some (a, s)) : Ev0 m Ts Q ↔ Q a s := ⟨fun ⟨b, s', e, q⟩ => by rw [h] at e; injection e with e; injection e with e1 e2; subst e1; subst e2; exact q, fun q => ⟨a, s, h, q⟩⟩
theorem Ev0_no {m : M α} {Ts : List T} {Q : α → List T → Prop} (h : m Ts = none) : Ev0 m Ts Q ↔ False := ⟨fun ⟨b, s', e, q⟩ => (by rw [h] at e; cases e), fun q => q.elim⟩
@[simp] theorem Ev0_bnd {x : M α} {f : α → M β} {Ts : List T} {Q : β → List T → Prop} : Ev0 (bnd x f) Ts Q ↔ Ev0 x Ts fun a Ts' => Ev0 (f a) Ts' Q := by
  constructor
  · rintro ⟨b, s2, e, q⟩
    obtain ⟨a, s1, e1, e2⟩ := bnd_some e
    exact ⟨a, s1, e1, b, s2, e2, q⟩
  · rintro ⟨a, s1, e1, b, s2, e2, q⟩
    refine ⟨b, s2, ?_, q⟩
    unfold bnd; rw [e1]; exact e2
@[simp] theorem Ev0_ret {a : α} {Ts : List T} {Q : α → List T → Prop} : Ev0 (ret a) Ts Q ↔ Q a Ts := by simp [Ev0, ret]
@[simp] theorem Ev0_lft {o : Option α} {Ts : List T} {Q : α → List T → Prop} : Ev0 (lft o) Ts Q ↔ EvO0 o fun a => Q a Ts := by
  cases o with
  | none => simp [Ev0, EvO0, lft]
  | some a => simp [Ev0, EvO0, lft]
@[simp] theorem Ev0_fail {Ts : List T} {Q : α → List T → Prop} : Ev0 (fun _ => none) Ts Q ↔ False := by simp [Ev0]
@[simp] theorem Ev0_ite {c : Prop} [Decidable c] {f g : M α} {Ts : List T} {Q : α → List T → Prop} : Ev0 (if c then f else g) Ts Q ↔ if c then Ev0 f Ts Q else Ev0 g Ts Q := by split <;> rfl
theorem Ev0.run {m : M α} {Ts Ts' : List T} {a : α} (h : Ev0 m Ts fun x s => x = a ∧ s = Ts') : m Ts = some (a, Ts') := by
  obtain ⟨b, s, e, rfl, rfl⟩ := h; exact e
theorem Ev0_of {m : M α} {Ts Ts' : List T} {a : α} {Q : α → List T → Prop} (h : m Ts = some (a, Ts')) (q : Q a Ts') : Ev0 m Ts Q := ⟨a, Ts', h, q⟩
end
/-! ### trees -/
def T.live : T → Bool
  | .dead => false
  | _ => true
@[simp] theorem live_dead : T.live .dead = false := rfl
@[simp] theorem live_non : T.live .non = true := rfl
@[simp] theorem live_bl (b : Bool) : T.live (.bl b) = true := rfl
@[simp] theorem live_int (b : Int) : T.live (.int b) = true := rfl
@[simp] theorem live_str (b : Str) : T.live (.str b) = true := rfl
@[simp] theorem live_nd (k : Kd) (ts : List T) : T.live (.nd k ts) = true := rfl
theorem live_ne {t : T} : t.live = true ↔ t ≠ .dead := by cases t <;> simp [T.live]
@[simp] theorem own_tup : Kd.own .tup = false := rfl
@[simp] theorem own_scr : Kd.own .scr = false := rfl
@[simp] theorem own_lst' (o : Bool) : Kd.own (.lst o) = o := rfl
@[simp] theorem own_dK (o : Bool) (ks : List Key) : Kd.own (.dK o ks) = o := rfl
@[simp] theorem own_dT (o : Bool) (ks : List (List Key)) : Kd.own (.dT o ks) = o := rfl
@[simp] theorem own_ins (o : Bool) (c : Str) (fs : List Str) : Kd.own (.ins o c fs) = o := rfl
@[simp] theorem kfz_tup : Kd.fz .tup = .tup := rfl
@[simp] theorem kfz_scr : Kd.fz .scr = .scr := rfl
@[simp] theorem kfz_lst (o : Bool) : Kd.fz (.lst o) = .lst false := rfl
@[simp] theorem kfz_dK (o : Bool) (ks : List Key) : Kd.fz (.dK o ks) = .dK false ks := rfl
@[simp] theorem kfz_ins (o : Bool) (c : Str) (fs : List Str) : Kd.fz (.ins o c fs) = .ins false c fs := rfl
@[simp] theorem ownNd_nd (k : Kd) (ts : List T) : T.ownNd (.nd k ts) = k.own := rfl
@[simp] theorem imm_dead : T.imm .dead = false := by rw [T.imm]
@[simp] theorem imm_non : T.imm .non = true := by rw [T.imm]
@[simp] theorem imm_bl (b : Bool) : T.imm (.bl b) = true := by rw [T.imm]
@[simp] theorem imm_int (b : Int) : T.imm (.int b) = true := by rw [T.imm]
@[simp] theorem imm_str (b : Str) : T.imm (.str b) = true := by rw [T.imm]
@[simp] theorem imm_nd (k : Kd) (ts : List T) : T.imm (.nd k ts) = (!k.own && immL ts) := by rw [T.imm]
@[simp] theorem immL_nil : immL [] = true := by rw [immL]
@[simp] theorem immL_cons (t : T) (ts : List T) : immL (t :: ts) = (t.imm && immL ts) := by rw [immL]
@[simp] theorem immL_append (ts us : List T) : immL (ts ++ us) = (immL ts && immL us) := by simp [immL_eq]
theorem immL_map {α : Type} {f : α → T} (h : ∀ a, (f a).imm = true) (xs : List α) : immL (xs.map f) = true := by
  rw [immL_eq]; simp [h]
theorem immL_map' {α : Type} {f : α → T} {xs : List α} (h : ∀ a ∈ xs, (f a).imm = true) : immL (xs.map f) = true := by
  rw [immL_eq]; simpa using h
theorem immL_all {ts : List T} : immL ts = true ↔ ∀ t ∈ ts, t.imm = true := by rw [immL_eq]; simp
@[simp] theorem immL_map_int {xs : List Int} : immL (xs.map T.int) = true := immL_map (fun _ => by simp) xs
@[simp] theorem immL_map_str {xs : List Str} : immL (xs.map T.str) = true := immL_map (fun _ => by simp) xs
@[simp] theorem immL_map_bl {xs : List Bool} : immL (xs.map T.bl) = true := immL_map (fun _ => by simp) xs
@[simp] theorem fz_dead : T.fz .dead = .dead := by rw [T.fz]
@[simp] theorem fz_non : T.fz .non = .non := by rw [T.fz]
@[simp] theorem fz_bl (b : Bool) : T.fz (.bl b) = .bl b := by rw [T.fz]
@[simp] theorem fz_int (b : Int) : T.fz (.int b) = .int b := by rw [T.fz]
@[simp] theorem fz_str (b : Str) : T.fz (.str b) = .str b := by rw [T.fz]
@[simp] theorem fz_nd (k : Kd) (ts : List T) : T.fz (.nd k ts) = .nd k.fz (fzL ts) := by rw [T.fz]
@[simp] theorem fzL_nil : fzL [] = [] := by rw [fzL]
@[simp] theorem fzL_cons (t : T) (ts : List T) : fzL (t :: ts) = t.fz :: fzL ts := by rw [fzL]
@[simp] theorem fzL_append (ts us : List T) : fzL (ts ++ us) = fzL ts ++ fzL us := by simp [fzL_eq]
theorem fzL_map {α : Type} {f : α → T} (h : ∀ a, (f a).imm = true) (xs : List α) : fzL (xs.map f) = xs.map f := fzL_imm _ (immL_map h xs)
@[simp] theorem fzL_map_int {xs : List Int} : fzL (xs.map T.int) = xs.map T.int := fzL_imm _ immL_map_int
@[simp] theorem fzL_map_str {xs : List Str} : fzL (xs.map T.str) = xs.map T.str := fzL_imm _ immL_map_str
@[simp] theorem fzL_map_bl {xs : List Bool} : fzL (xs.map T.bl) = xs.map T.bl := fzL_imm _ immL_map_bl
@[simp] theorem live_fz {t : T} : t.fz.live = t.live := by cases t <;> simp
@[simp] theorem sizeLine_val : sizeLine = 16777216 := by decide +kernel
@[simp] theorem slot_zero {t : T} {ts : List T} : slot (t :: ts) 0 = t := rfl
@[simp] theorem slot_succ {t : T} {ts : List T} {n : Nat} : slot (t :: ts) (n + 1) = slot ts n := by simp [slot]
@[simp] theorem slot_nil {n : Nat} : slot [] n = .dead := by simp [slot]
theorem slot_lt {Ts : List T} {i : Nat} (h : (slot Ts i).live = true) : i < Ts.length := by
  by_cases q : i < Ts.length
  · exact q
  · rw [slot, List.getD_eq_getElem?_getD, List.getElem?_eq_none (by omega)] at h; cases h
theorem slot_set_self {Ts : List T} {i : Nat} (h : i < Ts.length) : Ts.set i (slot Ts i) = Ts := by
  apply List.ext_getElem?
  intro j
  by_cases hj : i = j
  · subst hj
    rw [List.getElem?_set_self h, slot, List.getD_eq_getElem?_getD, List.getElem?_eq_getElem h]; rfl
  · rw [List.getElem?_set_ne hj]
/-! ### the combinators -/
section
variable {Ts : List T} {Q : T → List T → Prop} {QB : Bool → List T → Prop} {QL : List T → List T → Prop} {QF : Fl → List T → Prop} {QU : Unit → List T → Prop} {QN : List Nat → List T → Prop}
@[simp] theorem Ev0_mC {t : T} : Ev0 (mC t) Ts Q ↔ Q t Ts := by simp [mC]
@[simp] theorem Ev0_mRd {i : Nat} : Ev0 (mRd i) Ts Q ↔ (slot Ts i).live = true ∧ Q (slot Ts i) Ts := by
  unfold Ev0 mRd
  cases h : slot Ts i <;> simp
@[simp] theorem Ev0_mIm {fa : M T} : Ev0 (mIm fa) Ts Q ↔ Ev0 fa Ts fun t Ts => t.imm = true ∧ Q t Ts := by
  unfold mIm
  rw [Ev0_bnd]
  refine iff_of_eq (congrArg (Ev0 fa Ts) (funext fun t => funext fun s => propext ?_))
  rw [Ev0_lft]
  by_cases h : t.imm = true <;> simp [h, EvO0]
theorem mFz_eq {i : Nat} (h : (slot Ts i).live = true) : mFz i Ts = some ((slot Ts i).fz, Ts.set i (slot Ts i).fz) := by
  have hl := slot_lt h
  have hs := slot_set_self hl
  unfold mFz
  cases e : slot Ts i with
  | dead => rw [e] at h; cases h
  | nd k ts =>
    by_cases hi : (T.nd k ts).imm = true
    · show (if _ then _ else _) = _
      rw [if_pos hi, T.fz_imm _ hi, ← e, hs]
    · show (if _ then _ else _) = _
      rw [if_neg hi]
  | _ => rw [e] at hs; simp [hs]
@[simp] theorem Ev0_mFz {i : Nat} : Ev0 (mFz i) Ts Q ↔ (slot Ts i).live = true ∧ Q (slot Ts i).fz (Ts.set i (slot Ts i).fz) := by
  constructor
  · rintro ⟨a, s, e, q⟩
    have h : (slot Ts i).live = true := by
      cases h : slot Ts i <;> first | rfl | (unfold mFz at e; rw [h] at e; cases e)
    rw [mFz_eq h] at e
    injection e with e; injection e with e1 e2
    subst e1; subst e2
    exact ⟨h, q⟩
  · rintro ⟨h, q⟩; exact ⟨_, _, mFz_eq h, q⟩
@[simp] theorem Ev0_mMv {i : Nat} : Ev0 (mMv i) Ts Q ↔ (slot Ts i).live = true ∧ (if (slot Ts i).imm = true then Q (slot Ts i) Ts else Q (slot Ts i) (Ts.set i .dead)) := by
  unfold Ev0 mMv
  cases h : slot Ts i with
  | nd k ts => by_cases hi : (T.nd k ts).imm = true <;> simp [hi] <;> simp at hi <;> simp [hi]
  | _ => simp
@[simp] theorem Ev0_mLn {i : Nat} : Ev0 (mLn i) Ts Q ↔ (slot Ts i).live = true ∧ Q (slot Ts i) (Ts.set i .dead) := by
  unfold Ev0 mLn
  cases h : slot Ts i <;> simp
@[simp] theorem Ev0_mNil : Ev0 mNil Ts QL ↔ QL [] Ts := by simp [mNil]
@[simp] theorem Ev0_mCons {fa : M T} {fs : M (List T)} : Ev0 (mCons fa fs) Ts QL ↔ Ev0 fa Ts fun a Ts => Ev0 fs Ts fun as Ts => QL (a :: as) Ts := by simp [mCons]
@[simp] theorem Ev0_mStar {fa : M T} {fs : M (List T)} : Ev0 (mStar fa fs) Ts QL ↔ Ev0 fa Ts fun a Ts => EvO0 (kidsI a) fun ks => Ev0 fs Ts fun as Ts => QL (ks ++ as) Ts := by simp [mStar]
@[simp] theorem Ev0_mTup {fs : M (List T)} : Ev0 (mTup fs) Ts Q ↔ Ev0 fs Ts fun ts Ts => ts.length ≤ sizeLine ∧ Q (.nd .tup ts) Ts := by
  unfold mTup
  rw [Ev0_bnd]
  refine iff_of_eq (congrArg (Ev0 fs Ts) (funext fun t => funext fun s => propext ?_))
  rw [Ev0_lft]
  by_cases h : t.length ≤ sizeLine
  · simp only [h, if_true, EvO0_some, true_and]
  · simp only [h, if_false, EvO0_none, false_and]
@[simp] theorem Ev0_mLst {fs : M (List T)} : Ev0 (mLst fs) Ts Q ↔ Ev0 fs Ts fun ts Ts => ts.length ≤ sizeLine ∧ Q (.nd (.lst true) ts) Ts := by
  unfold mLst
  rw [Ev0_bnd]
  refine iff_of_eq (congrArg (Ev0 fs Ts) (funext fun t => funext fun s => propext ?_))
  rw [Ev0_lft]
  by_cases h : t.length ≤ sizeLine
  · simp only [h, if_true, EvO0_some, true_and]
  · simp only [h, if_false, EvO0_none, false_and]
@[simp] theorem Ev0_mF {f : List T → Option T} {fs : M (List T)} : Ev0 (mF f fs) Ts Q ↔ Ev0 fs Ts fun ts Ts => EvO0 (f ts) fun t => Q t Ts := by simp [mF]
@[simp] theorem Ev0_m1 {f : T → Option T} {fa : M T} : Ev0 (m1 f fa) Ts Q ↔ Ev0 fa Ts fun a Ts => EvO0 (f a) fun t => Q t Ts := by simp [m1]
@[simp] theorem Ev0_m2 {f : T → T → Option T} {fa fb : M T} : Ev0 (m2 f fa fb) Ts Q ↔ Ev0 fa Ts fun a Ts => Ev0 fb Ts fun b Ts => EvO0 (f a b) fun t => Q t Ts := by simp [m2]
@[simp] theorem Ev0_mFrz {fa : M T} : Ev0 (mFrz fa) Ts Q ↔ Ev0 fa Ts fun a Ts => Q a.fz Ts := by simp [mFrz]
@[simp] theorem Ev0_asB {fa : M T} : Ev0 (asB fa) Ts QB ↔ Ev0 fa Ts fun a Ts => EvO0 (bOf a) fun b => QB b Ts := by
  unfold asB
  rw [Ev0_bnd]
  refine iff_of_eq (congrArg (Ev0 fa Ts) (funext fun t => funext fun s => propext ?_))
  rw [Ev0_lft]
  cases t <;> simp [bOf]
@[simp] theorem Ev0_mAnd {fa fb : M Bool} : Ev0 (mAnd fa fb) Ts QB ↔ Ev0 fa Ts fun a Ts => if a = true then Ev0 fb Ts QB else QB false Ts := by simp [mAnd]
@[simp] theorem Ev0_mOr {fa fb : M Bool} : Ev0 (mOr fa fb) Ts QB ↔ Ev0 fa Ts fun a Ts => if a = true then QB true Ts else Ev0 fb Ts QB := by simp [mOr]
@[simp] theorem Ev0_mNot {fa : M Bool} : Ev0 (mNot fa) Ts QB ↔ Ev0 fa Ts fun a Ts => QB (!a) Ts := by simp [mNot]
@[simp] theorem Ev0_mTru {fa : M T} : Ev0 (mTru fa) Ts QB ↔ Ev0 fa Ts fun a Ts => EvO0 (tru a) fun b => QB b Ts := by simp [mTru]
@[simp] theorem Ev0_mIf {c : M Bool} {fa fb : M T} : Ev0 (mIf c fa fb) Ts Q ↔ Ev0 c Ts fun b Ts => if b = true then Ev0 fa Ts Q else Ev0 fb Ts Q := by simp [mIf]
@[simp] theorem Ev0_mAndV {fa fb : M T} : Ev0 (mAndV fa fb) Ts Q ↔ Ev0 fa Ts fun a Ts => EvO0 (bOf a) fun b => if b = true then Ev0 fb Ts Q else Q (.bl false) Ts := by simp [mAndV]
@[simp] theorem Ev0_mOrV {fa fb : M T} : Ev0 (mOrV fa fb) Ts Q ↔ Ev0 fa Ts fun a Ts => EvO0 (bOf a) fun b => if b = true then Q (.bl true) Ts else Ev0 fb Ts Q := by simp [mOrV]
@[simp] theorem Ev0_mNotV {fa : M T} : Ev0 (mNotV fa) Ts Q ↔ Ev0 fa Ts fun a Ts => EvO0 (bOf a) fun b => Q (.bl (!b)) Ts := by simp [mNotV]
@[simp] theorem Ev0_mChain {f f' : T → T → Option T} {fa fb fc : M T} : Ev0 (mChain f f' fa fb fc) Ts Q ↔ Ev0 fa Ts fun a Ts => Ev0 fb Ts fun b Ts => EvO0 (f a b) fun z => EvO0 (bOf z) fun k => if k = true then (Ev0 fc Ts fun c Ts => EvO0 (f' b c) fun r => Q r Ts) else Q (.bl false) Ts := by simp [mChain]
@[simp] theorem bOf_bl {b : Bool} : bOf (.bl b) = some b := rfl
@[simp] theorem tru_bl {b : Bool} : tru (.bl b) = some b := rfl
/-- behind a statement -/
def Fl.then0 (fl : Fl) (k : Prop) (o : Fl → Prop) : Prop := match fl with
  | .nx => k
  | f => o f
@[simp] theorem then0_nx {k : Prop} {o : Fl → Prop} : Fl.then0 .nx k o = k := rfl
@[simp] theorem then0_rt {t : T} {k : Prop} {o : Fl → Prop} : Fl.then0 (.rt t) k o = o (.rt t) := rfl
@[simp] theorem then0_bk {k : Prop} {o : Fl → Prop} : Fl.then0 .bk k o = o .bk := rfl
@[simp] theorem then0_ct {k : Prop} {o : Fl → Prop} : Fl.then0 .ct k o = o .ct := rfl
@[simp] theorem Ev0_mSeq {f g : M Fl} : Ev0 (mSeq f g) Ts QF ↔ Ev0 f Ts fun fl Ts => fl.then0 (Ev0 g Ts QF) fun o => QF o Ts := by
  unfold mSeq
  rw [Ev0_bnd]
  refine iff_of_eq (congrArg (Ev0 f Ts) (funext fun t => funext fun s => propext ?_))
  cases t <;> simp
@[simp] theorem Ev0_mRet {fa : M T} : Ev0 (mRet fa) Ts QF ↔ Ev0 fa Ts fun t Ts => QF (.rt t) Ts := by simp [mRet]
@[simp] theorem Ev0_mDrop {fa : M T} : Ev0 (mDrop fa) Ts QF ↔ Ev0 fa Ts fun t Ts => QF .nx Ts := by simp [mDrop]
@[simp] theorem Ev0_mIfS {c : M Bool} {f g : M Fl} : Ev0 (mIfS c f g) Ts QF ↔ Ev0 c Ts fun b Ts => if b = true then Ev0 f Ts QF else Ev0 g Ts QF := by simp [mIfS]
@[simp] theorem Ev0_mPut {i : Nat} {t : T} : Ev0 (mPut i t) Ts QU ↔ i < Ts.length ∧ QU () (Ts.set i t) := by
  by_cases h : i < Ts.length
  · rw [Ev0_is (a := ()) (s := Ts.set i t) (by unfold mPut; rw [if_pos h])]; simp [h]
  · rw [Ev0_no (by unfold mPut; rw [if_neg h])]; simp [h]
@[simp] theorem Ev0_mGnil : Ev0 (mGnil []) Ts QU ↔ QU () Ts := by simp [mGnil]
@[simp] theorem Ev0_mGcons {m : T → M Unit} {ms : List T → M Unit} {t : T} {ts : List T} : Ev0 (mGcons m ms (t :: ts)) Ts QU ↔ Ev0 (m t) Ts fun _ Ts => Ev0 (ms ts) Ts QU := by simp [mGcons]
@[simp] theorem Ev0_mUnT {n : Nat} {ms : List T → M Unit} {ts : List T} : Ev0 (mUn n ms (.nd .tup ts)) Ts QU ↔ ts.length = n ∧ Ev0 (ms ts) Ts QU := by
  show Ev0 (if ts.length = n then ms ts else fun _ => none) Ts QU ↔ _
  by_cases h : ts.length = n <;> simp [h]
@[simp] theorem Ev0_mUnL {n : Nat} {ms : List T → M Unit} {ts : List T} {o : Bool} : Ev0 (mUn n ms (.nd (.lst o) ts)) Ts QU ↔ ts.length = n ∧ Ev0 (ms ts) Ts QU := by
  show Ev0 (if ts.length = n then ms ts else fun _ => none) Ts QU ↔ _
  by_cases h : ts.length = n <;> simp [h]
@[simp] theorem Ev0_mAsg {fa : M T} {m : T → M Unit} : Ev0 (mAsg fa m) Ts QF ↔ Ev0 fa Ts fun t Ts => Ev0 (m t) Ts fun _ Ts => QF .nx Ts := by simp [mAsg]
@[simp] theorem Ev0_mSet {fa : M T} {i : Nat} : Ev0 (mSet i fa) Ts QF ↔ Ev0 fa Ts fun t Ts => i < Ts.length ∧ QF .nx (Ts.set i t) := by simp [mSet]
@[simp] theorem Ev0_mPar {i j : Nat} {fs : M (List T)} : Ev0 (mPar i j fs) Ts QF ↔ Ev0 fs Ts fun ts Ts => Ev0 (mGcons (mPut i) (mGcons (mPut j) mGnil) ts) Ts fun _ Ts => QF .nx Ts := by simp [mPar]
@[simp] theorem Ev0_mPar3 {i j l : Nat} {fs : M (List T)} : Ev0 (mPar3 i j l fs) Ts QF ↔ Ev0 fs Ts fun ts Ts => Ev0 (mGcons (mPut i) (mGcons (mPut j) (mGcons (mPut l) mGnil)) ts) Ts fun _ Ts => QF .nx Ts := by simp [mPar3]
@[simp] theorem Ev0_mAug {i : Nat} {f : T → T → Option T} {fa : M T} : Ev0 (mAug i f fa) Ts QF ↔ Ev0 (mRd i) Ts fun x Ts => Ev0 fa Ts fun y Ts => EvO0 (f x y) fun z => i < Ts.length ∧ QF .nx (Ts.set i z) := by
  simp [mAug]
@[simp] theorem Ev0_mFor {mi : M (List T)} {m : T → M Unit} {f : M Fl} : Ev0 (mFor mi m f) Ts QF ↔ Ev0 mi Ts fun items Ts => Ev0 (loopM m f items) Ts QF := by simp [mFor]
@[simp] theorem Ev0_mRng {f : List T → Option (List T)} {fs : M (List T)} : Ev0 (mRng f fs) Ts QL ↔ Ev0 fs Ts fun ts Ts => EvO0 (f ts) fun r => QL r Ts := by simp [mRng]
@[simp] theorem Ev0_mItA {fa : M T} : Ev0 (mItA fa) Ts QL ↔ Ev0 fa Ts fun t Ts => EvO0 (match t with
  | .str x => if x.length ≤ sizeLine then some (signsT x) else none
  | t => kidsI t) fun r => QL r Ts := by
  unfold mItA
  rw [Ev0_bnd]
  refine iff_of_eq (congrArg (Ev0 fa Ts) (funext fun t => funext fun s => propext ?_))
  cases t <;> simp
@[simp] theorem kidsI_tup' {ts : List T} : kidsI (.nd .tup ts) = if immL ts = true then some ts else none := rfl
@[simp] theorem kidsI_lst' {o : Bool} {ts : List T} : kidsI (.nd (.lst o) ts) = if immL ts = true then some ts else none := rfl
@[simp] theorem kidsI_scr' {ts : List T} : kidsI (.nd .scr ts) = if immL ts = true then some ts else none := rfl
@[simp] theorem fzA_nil {ts : List T} : fzA [] ts = [] := by simp [fzA]
@[simp] theorem fzA_none {ln : List (Option Nat)} {t : T} {ts : List T} : fzA (none :: ln) (t :: ts) = t.fz :: fzA ln ts := by simp [fzA]
@[simp] theorem fzA_some {ln : List (Option Nat)} {i : Nat} {t : T} {ts : List T} : fzA (some i :: ln) (t :: ts) = t :: fzA ln ts := by simp [fzA]
@[simp] theorem Ev0_putO_nil {os : List T} : Ev0 (putO [] os) Ts QU ↔ QU () Ts := by simp [putO]
@[simp] theorem Ev0_putO_none {ln : List (Option Nat)} {os : List T} : Ev0 (putO (none :: ln) os) Ts QU ↔ Ev0 (putO ln os) Ts QU := by simp [putO]
@[simp] theorem Ev0_putO_some {ln : List (Option Nat)} {i : Nat} {o : T} {os : List T} : Ev0 (putO (some i :: ln) (o :: os)) Ts QU ↔ i < Ts.length ∧ Ev0 (putO ln os) (Ts.set i o) QU := by
  unfold Ev0
  simp only [putO]
  by_cases h : i < Ts.length <;> simp [h]
@[simp] theorem Ev0_mCall {c : Cal} {ln : List (Option Nat)} {fs : M (List T)} : Ev0 (mCall c ln fs) Ts Q ↔ Ev0 fs Ts fun ts Ts => EvO0 (c (fzA ln ts)) fun p => Ev0 (putO ln p.2) Ts fun _ Ts => Q p.1 Ts := by simp [mCall]
@[simp] theorem Ev0_mCallP {c : Cal} {ln : List (Option Nat)} {fs : M (List T)} : Ev0 (mCallP c ln fs) Ts Q ↔ Ev0 fs Ts fun ts Ts => EvO0 (c (fzA ln ts)) fun p => (p.1.nofz && nofzL p.2) = true ∧ Ev0 (putO ln p.2) Ts fun _ Ts => Q p.1 Ts := by
  unfold mCallP
  rw [Ev0_bnd]
  refine iff_of_eq (congrArg (Ev0 fs Ts) (funext fun t => funext fun s => propext ?_))
  rw [Ev0_bnd, Ev0_lft]
  refine iff_of_eq (congrArg (EvO0 _) (funext fun p => propext ?_))
  by_cases h : (p.1.nofz && nofzL p.2) = true
  · rw [if_pos h]; simp [h]
  · rw [if_neg h]; simp only [Ev0_fail, false_iff]; exact fun z => h z.1
@[simp] theorem Ev0_mGive {c : Cal} {fa : M T} : Ev0 (mGive c fa) Ts Q ↔ Ev0 fa Ts fun t Ts => EvO0 (c [t]) fun p => Q p.1 Ts := by simp [mGive]
@[simp] theorem Ev0_mMake {c : Cal} {cls : Str} {ln : List (Option Nat)} {fs : M (List T)} : Ev0 (mMake c cls ln fs) Ts Q ↔ Ev0 fs Ts fun ts Ts => EvO0 (c (.nd (.ins true cls []) [] :: fzA ln ts)) fun p => ∃ s, p = (.non, [s]) ∧ Q s Ts := by
  unfold mMake
  rw [Ev0_bnd]
  refine iff_of_eq (congrArg (Ev0 fs Ts) (funext fun t => funext fun s => propext ?_))
  rw [Ev0_bnd, Ev0_lft]
  refine iff_of_eq (congrArg (EvO0 _) (funext fun p => propext ?_))
  obtain ⟨t, o⟩ := p
  cases t <;> simp
  match o with
  | [] => simp
  | [s] => simp
  | _ :: _ :: _ => simp
@[simp] theorem Ev0_mIns {cls m : Str} {fa : M T} : Ev0 (mIns cls m fa) Ts Q ↔ Ev0 fa Ts fun t Ts => EvO0 (isIns cls m t) fun t => Q t Ts := by simp [mIns]
@[simp] theorem Ev0_mNoP {q : Option Int → List T → Prop} : Ev0 mNoP Ts q ↔ q none Ts := by simp [mNoP]
@[simp] theorem Ev0_mPt {q : Option Int → List T → Prop} {fa : M T} : Ev0 (mPt fa) Ts q ↔ Ev0 fa Ts fun t Ts => EvO0 (iOf t) fun i => q (some i) Ts := by simp [mPt]
@[simp] theorem iOf_int {i : Int} : iOf (.int i) = some i := rfl
@[simp] theorem Ev0_mSl {f : T → Option Int → Option Int → Option T} {fa : M T} {fl fh : M (Option Int)} : Ev0 (mSl f fa fl fh) Ts Q ↔ Ev0 fa Ts fun t Ts => Ev0 fl Ts fun l Ts => Ev0 fh Ts fun h Ts => EvO0 (f t l h) fun r => Q r Ts := by simp [mSl]
@[simp] theorem Ev0_mHere {i : Nat} : Ev0 (mHere i) Ts QN ↔ (slot Ts i).live = true ∧ QN [] Ts := by
  cases h : slot Ts i with
  | dead => rw [Ev0_no (by unfold mHere; rw [h])]; simp
  | _ => rw [Ev0_is (a := []) (s := Ts) (by unfold mHere; rw [h])]; simp
@[simp] theorem Ev0_mStepL {i : Nat} {mp : M (List Nat)} {fk : M T} : Ev0 (mStepL i mp fk) Ts QN ↔ Ev0 mp Ts fun p Ts => Ev0 fk Ts fun k Ts => EvO0 ((subT p (slot Ts i)).bind fun n => stepL n k) fun j => QN (p ++ [j]) Ts := by
  simp only [mStepL, Ev0_bnd]
  refine iff_of_eq (congrArg (Ev0 mp Ts) (funext fun p => funext fun s => congrArg (Ev0 fk s) (funext fun k => funext fun u => propext ?_)))
  cases h : subT p (slot u i) with
  | none => rw [Ev0_no (by simp only [h])]; simp
  | some n =>
    cases h2 : stepL n k with
    | none => rw [Ev0_no (by simp only [h, h2])]; simp [h2]
    | some j => rw [Ev0_is (a := p ++ [j]) (s := u) (by simp only [h, h2])]; simp [h2]
@[simp] theorem Ev0_mStepF {i : Nat} {mp : M (List Nat)} {c f : Str} : Ev0 (mStepF i c f mp) Ts QN ↔ Ev0 mp Ts fun p Ts => EvO0 ((subT p (slot Ts i)).bind fun n => stepF c f n) fun j => QN (p ++ [j]) Ts := by
  simp only [mStepF, Ev0_bnd]
  refine iff_of_eq (congrArg (Ev0 mp Ts) (funext fun p => funext fun u => propext ?_))
  cases h : subT p (slot u i) with
  | none => rw [Ev0_no (by simp only [h])]; simp
  | some n =>
    cases h2 : stepF c f n with
    | none => rw [Ev0_no (by simp only [h, h2])]; simp [h2]
    | some j => rw [Ev0_is (a := p ++ [j]) (s := u) (by simp only [h, h2])]; simp [h2]
@[simp] theorem Ev0_mMut {i : Nat} {mp : M (List Nat)} {ck : T → Bool} {fs : M (List T)} {f : T → List T → Option (T × T)} : Ev0 (mMut i mp ck fs f) Ts Q ↔ Ev0 mp Ts fun p Ts => EvO0 (subT p (slot Ts i)) fun n => ck n = true ∧ Ev0 fs Ts fun ts Ts => EvO0 (subT p (slot Ts i)) fun n => n.ownNd = true ∧ EvO0 (f n ts) fun r => Q r.1 (Ts.set i (setT p (slot Ts i) r.2)) := by
  simp only [mMut, Ev0_bnd]
  refine iff_of_eq (congrArg (Ev0 mp Ts) (funext fun p => funext fun s => propext ?_))
  have e1 : ∀ R : Unit → List T → Prop, Ev0 (chk i p ck) s R ↔ EvO0 (subT p (slot s i)) fun n => ck n = true ∧ R () s := fun R => by
    cases h : subT p (slot s i) with
    | none => rw [Ev0_no (by unfold chk; simp only [h])]; simp
    | some n =>
      by_cases q : ck n = true
      · rw [Ev0_is (a := ()) (s := s) (by unfold chk; simp only [h, q, if_true])]; simp [q]
      · rw [Ev0_no (by unfold chk; simp only [h]; rw [if_neg q])]; simp [q]
  rw [e1]
  refine iff_of_eq (congrArg (EvO0 _) (funext fun n => propext (and_congr_right fun _ => ?_)))
  refine iff_of_eq (congrArg (Ev0 fs s) (funext fun ts => funext fun u => propext ?_))
  cases h : subT p (slot u i) with
  | none => rw [Ev0_no (by simp only [h])]; simp
  | some n =>
    by_cases q : n.ownNd = true
    · cases h2 : f n ts with
      | none => rw [Ev0_no (by simp only [h, q, h2, if_true])]; simp [h2]
      | some r => obtain ⟨r1, r2⟩ := r; rw [Ev0_is (a := r1) (s := u.set i (setT p (slot u i) r2)) (by simp only [h, q, h2, if_true])]; simp [q, h2]
    · rw [Ev0_no (by simp only [h]; rw [if_neg q])]; simp [q]
@[simp] theorem Ev0_mSetI {i : Nat} {mp : M (List Nat)} {fk fa : M T} : Ev0 (mSetI i mp fk fa) Ts QF ↔ Ev0 fa Ts fun v Ts => Ev0 mp Ts fun p Ts => Ev0 fk Ts fun k Ts => Ev0 (wr i p k v) Ts QF := by simp [mSetI]
@[simp] theorem Ev0_wr {i : Nat} {p : List Nat} {k v : T} : Ev0 (wr i p k v) Ts QF ↔ EvO0 (subT p (slot Ts i)) fun n => n.ownNd = true ∧ EvO0 (fSt n [k, v]) fun r => QF .nx (Ts.set i (setT p (slot Ts i) r.2)) := by
  cases h : subT p (slot Ts i) with
  | none => rw [Ev0_no (by unfold wr; simp only [h])]; simp
  | some n =>
    by_cases q : n.ownNd = true
    · cases h2 : fSt n [k, v] with
      | none => rw [Ev0_no (by unfold wr; simp only [h, q, h2, if_true])]; simp [h2]
      | some r => obtain ⟨r1, r2⟩ := r; rw [Ev0_is (a := .nx) (s := Ts.set i (setT p (slot Ts i) r2)) (by unfold wr; simp only [h, q, h2, if_true])]; simp [q, h2]
    · rw [Ev0_no (by unfold wr; simp only [h]; rw [if_neg q])]; simp [q]
@[simp] theorem Ev0_mSetP {i j : Nat} {mp : M (List Nat)} {fk fa : M T} : Ev0 (mSetP i mp fk j fa) Ts QF ↔ Ev0 fa Ts fun t Ts => ∃ v w, t = .nd .tup [v, w] ∧ v.imm = true ∧ w.imm = true ∧ Ev0 mp Ts fun p Ts => Ev0 fk Ts fun k Ts => Ev0 (wr i p k v) Ts fun _ Ts => j < Ts.length ∧ QF .nx (Ts.set j w) := by
  unfold mSetP
  rw [Ev0_bnd]
  refine iff_of_eq (congrArg (Ev0 fa Ts) (funext fun t => funext fun s => propext ?_))
  constructor
  · intro h
    split at h
    · rename_i v w
      by_cases q : (v.imm && w.imm) = true
      · rw [if_pos q] at h
        obtain ⟨q1, q2⟩ := Bool.and_eq_true_iff.mp q
        refine ⟨v, w, rfl, q1, q2, ?_⟩
        simpa using h
      · rw [if_neg q] at h; simp at h
    · simp at h
  · rintro ⟨v, w, rfl, q1, q2, h⟩
    simp only [q1, q2, Bool.and_self, if_true]
    simpa using h
@[simp] theorem Ev0_mSetF {i : Nat} {mp : M (List Nat)} {cls f : Str} {fa : M T} : Ev0 (mSetF i mp cls f fa) Ts QF ↔ Ev0 fa Ts fun v Ts => Ev0 mp Ts fun p Ts => EvO0 (subT p (slot Ts i)) fun n => n.ownNd = true ∧ EvO0 (fFl cls f n [v]) fun r => QF .nx (Ts.set i (setT p (slot Ts i) r.2)) := by
  simp only [mSetF, Ev0_bnd]
  refine iff_of_eq (congrArg (Ev0 fa Ts) (funext fun v => funext fun s => congrArg (Ev0 mp s) (funext fun p => funext fun u => propext ?_)))
  cases h : subT p (slot u i) with
  | none => rw [Ev0_no (by unfold wrF; simp only [h])]; simp
  | some n =>
    by_cases q : n.ownNd = true
    · cases h2 : fFl cls f n [v] with
      | none => rw [Ev0_no (by unfold wrF; simp only [h, q, h2, if_true])]; simp [h2]
      | some r => obtain ⟨r1, r2⟩ := r; rw [Ev0_is (a := .nx) (s := u.set i (setT p (slot u i) r2)) (by unfold wrF; simp only [h, q, h2, if_true])]; simp [q, h2]
    · rw [Ev0_no (by unfold wrF; simp only [h]; rw [if_neg q])]; simp [q]
@[simp] theorem subT_nil {t : T} : subT [] t = some t := by simp [subT]
@[simp] theorem subT_cons {j : Nat} {p : List Nat} {k : Kd} {ts : List T} : subT (j :: p) (.nd k ts) = (ts[j]?).bind (subT p) := by
  simp only [subT]
  cases ts[j]? <;> rfl
@[simp] theorem setT_nil {t n : T} : setT [] t n = n := by simp [setT]
@[simp] theorem setT_cons {j : Nat} {p : List Nat} {k : Kd} {ts : List T} {n : T} : setT (j :: p) (.nd k ts) n = .nd k (ts.set j (setT p (ts.getD j .dead) n)) := by simp [setT]
@[simp] theorem stepL_lst {o : Bool} {ts : List T} {j : Int} : stepL (.nd (.lst o) ts) (.int j) = ixN ts.length j := rfl
/-- a comprehension, its source worked out -/
def lcRun (m : T → M Unit) (tt : M Bool) (te : M T) (vs : List Nat) (items : List T) : M T := fun Ts => if vs.all (fun i => hidOk (slot Ts i)) then (match lcM m tt te vs items [] (wipeT Ts vs) with
  | some (acc, Ts2) => some (.nd (.lst true) acc, rest Ts Ts2 vs)
  | none => none) else none
@[simp] theorem Ev0_mLc {mi : M (List T)} {m : T → M Unit} {tt : M Bool} {te : M T} {vs : List Nat} : Ev0 (mLc mi m tt te vs) Ts Q ↔ Ev0 mi Ts fun items Ts => Ev0 (lcRun m tt te vs items) Ts Q := by
  unfold mLc
  rw [Ev0_bnd]; rfl
def lc2Run (m : T → M Unit) (mi1 : M (List T)) (m1 : T → M Unit) (tt1 : M Bool) (te : M T) (vs vs1 : List Nat) (items : List T) : M T := fun Ts => if vs.all (fun i => hidOk (slot Ts i)) then (match lc2M m mi1 m1 tt1 te vs vs1 items [] (wipeT Ts vs) with
  | some (acc, Ts2) => some (.nd (.lst true) acc, rest Ts Ts2 vs)
  | none => none) else none
@[simp] theorem Ev0_mLc2 {mi mi1 : M (List T)} {m m1 : T → M Unit} {tt : M Bool} {te : M T} {vs vs1 : List Nat} : Ev0 (mLc2 mi m mi1 m1 tt te vs vs1) Ts Q ↔ Ev0 mi Ts fun items Ts => Ev0 (lc2Run m mi1 m1 tt te vs vs1 items) Ts Q := by
  unfold mLc2
  rw [Ev0_bnd]; rfl
end
/-! ### loops -/
section
variable {α : Type}
/-- behind a turn -/
def Fl.turn0 (fl : Fl) (I : Prop) (q : Fl → Prop) : Prop := match fl with
  | .rt r => q (.rt r)
  | .bk => q .nx
  | _ => I
@[simp] theorem turn0_nx {k : Prop} {o : Fl → Prop} : Fl.turn0 .nx k o = k := rfl
@[simp] theorem turn0_ct {k : Prop} {o : Fl → Prop} : Fl.turn0 .ct k o = k := rfl
@[simp] theorem turn0_rt {t : T} {k : Prop} {o : Fl → Prop} : Fl.turn0 (.rt t) k o = o (.rt t) := rfl
@[simp] theorem turn0_bk {k : Prop} {o : Fl → Prop} : Fl.turn0 .bk k o = o .nx := rfl
theorem loop0_cons {m : T → M Unit} {f : M Fl} {t : T} {ts : List T} {Ts : List T} {Q : Fl → List T → Prop} (h : Ev0 (m t) Ts fun _ Ts => Ev0 f Ts fun fl Ts => fl.turn0 (Ev0 (loopM m f ts) Ts Q) fun o => Q o Ts) : Ev0 (loopM m f (t :: ts)) Ts Q := by
  simp only [loopM, Ev0_bnd]
  refine h.mono fun _ s h => h.mono fun fl s h => ?_
  cases fl <;> simpa using h
theorem loop0_at {m : T → M Unit} {f : M Fl} {enc : α → T} {Q : Fl → List T → Prop} (xs : List α) (Inv : List α → List T → Prop)
    (hb : ∀ pre x post, xs = pre ++ x :: post → ∀ Ts, Inv pre Ts → Ev0 (m (enc x)) Ts fun _ Ts => Ev0 f Ts fun fl Ts => fl.turn0 (Inv (pre ++ [x]) Ts) fun o => Q o Ts)
    (hq : ∀ Ts, Inv xs Ts → Q .nx Ts) : ∀ pre post, xs = pre ++ post → ∀ Ts, Inv pre Ts → Ev0 (loopM m f (post.map enc)) Ts Q
  | pre, [], e, Ts, h => by
    rw [List.append_nil] at e; subst e
    simp only [List.map_nil, loopM, Ev0_ret]
    exact hq Ts h
  | pre, x :: post, e, Ts, h => by
    rw [List.map_cons]
    refine loop0_cons ((hb pre x post e Ts h).mono fun _ s h => h.mono fun fl s h => ?_)
    cases fl with
    | nx => exact loop0_at xs Inv hb hq (pre ++ [x]) post (by rw [e]; simp) s h
    | ct => exact loop0_at xs Inv hb hq (pre ++ [x]) post (by rw [e]; simp) s h
    | bk => exact h
    | rt r => exact h
/-- a loop over the encodings of xs, by an invariant over what has been gone through -/
theorem loop0_inv {m : T → M Unit} {f : M Fl} {enc : α → T} {xs : List α} {Ts : List T} {Q : Fl → List T → Prop} (Inv : List α → List T → Prop) (h0 : Inv [] Ts)
    (hb : ∀ pre x post, xs = pre ++ x :: post → ∀ Ts, Inv pre Ts → Ev0 (m (enc x)) Ts fun _ Ts => Ev0 f Ts fun fl Ts => fl.turn0 (Inv (pre ++ [x]) Ts) fun o => Q o Ts)
    (hq : ∀ Ts, Inv xs Ts → Q .nx Ts) : Ev0 (loopM m f (xs.map enc)) Ts Q := loop0_at xs Inv hb hq [] xs rfl Ts h0
/-! comprehensions -/
@[simp] theorem wipeT_nil {Ts : List T} : wipeT Ts [] = Ts := rfl
@[simp] theorem wipeT_cons {Ts : List T} {i : Nat} {vs : List Nat} : wipeT Ts (i :: vs) = wipeT (Ts.set i .dead) vs := rfl
@[simp] theorem rest_nil {Ts Ts2 : List T} : rest Ts Ts2 [] = Ts2 := rfl
@[simp] theorem rest_cons {Ts Ts2 : List T} {i : Nat} {vs : List Nat} : rest Ts Ts2 (i :: vs) = rest Ts (Ts2.set i (slot Ts i)) vs := rfl
@[simp] theorem hidOk_dead : hidOk .dead = true := rfl
theorem hidOk_imm {t : T} (h : t.imm = true) : hidOk t = true := by cases t <;> first | rfl | exact h
@[simp] theorem hidOk_non : hidOk .non = true := by simp [hidOk]
@[simp] theorem hidOk_int {i : Int} : hidOk (.int i) = true := by simp [hidOk]
@[simp] theorem hidOk_bl {i : Bool} : hidOk (.bl i) = true := by simp [hidOk]
@[simp] theorem hidOk_str {i : Str} : hidOk (.str i) = true := by simp [hidOk]
@[simp] theorem hidOk_nd {k : Kd} {ts : List T} : hidOk (.nd k ts) = (!k.own && immL ts) := by simp [hidOk]
theorem lcM0_at {m : T → M Unit} {tt : M Bool} {te : M T} {vs : List Nat} {enc : α → T} {Q : List T → List T → Prop} (xs : List α) (Inv : List α → List T → List T → Prop)
    (hb : ∀ pre x post, xs = pre ++ x :: post → ∀ acc Ts, Inv pre acc Ts → Ev0 (m (enc x)) Ts fun _ Ts => Ev0 tt Ts fun b Ts => if b = true then (Ev0 te Ts fun r Ts => acc.length < sizeLine ∧ Inv (pre ++ [x]) (acc ++ [r]) (wipeT Ts vs)) else Inv (pre ++ [x]) acc (wipeT Ts vs))
    (hq : ∀ acc Ts, Inv xs acc Ts → Q acc Ts) : ∀ pre post, xs = pre ++ post → ∀ acc Ts, Inv pre acc Ts → Ev0 (lcM m tt te vs (post.map enc) acc) Ts Q
  | pre, [], e, acc, Ts, h => by
    rw [List.append_nil] at e; subst e
    simp only [List.map_nil, lcM, Ev0_ret]
    exact hq acc Ts h
  | pre, x :: post, e, acc, Ts, h => by
    rw [List.map_cons]
    simp only [lcM, Ev0_bnd]
    refine (hb pre x post e acc Ts h).mono fun _ s h => h.mono fun b s h => ?_
    cases b with
    | true =>
      simp only [if_true] at h ⊢
      rw [Ev0_bnd]
      refine h.mono fun r s h => ?_
      rw [if_pos h.1]
      exact lcM0_at xs Inv hb hq (pre ++ [x]) post (by rw [e]; simp) _ _ h.2
    | false =>
      have h : Inv (pre ++ [x]) acc (wipeT s vs) := h
      exact lcM0_at xs Inv hb hq (pre ++ [x]) post (by rw [e]; simp) _ _ h
theorem lc0_inv {m : T → M Unit} {tt : M Bool} {te : M T} {vs : List Nat} {enc : α → T} {xs : List α} {Ts : List T} {Q : T → List T → Prop} (Inv : List α → List T → List T → Prop)
    (hv : vs.all (fun i => hidOk (slot Ts i)) = true) (h0 : Inv [] [] (wipeT Ts vs))
    (hb : ∀ pre x post, xs = pre ++ x :: post → ∀ acc Ts, Inv pre acc Ts → Ev0 (m (enc x)) Ts fun _ Ts => Ev0 tt Ts fun b Ts => if b = true then (Ev0 te Ts fun r Ts => acc.length < sizeLine ∧ Inv (pre ++ [x]) (acc ++ [r]) (wipeT Ts vs)) else Inv (pre ++ [x]) acc (wipeT Ts vs))
    (hq : ∀ acc Ts', Inv xs acc Ts' → Q (.nd (.lst true) acc) (rest Ts Ts' vs)) : Ev0 (lcRun m tt te vs (xs.map enc)) Ts Q := by
  obtain ⟨acc, s, e, q⟩ := lcM0_at (Q := fun acc Ts' => Q (.nd (.lst true) acc) (rest Ts Ts' vs)) xs Inv hb hq [] xs rfl [] _ h0
  refine ⟨_, _, ?_, q⟩
  unfold lcRun
  rw [if_pos hv, e]
/-- a comprehension that leaves the slots as they are -/
theorem lc0_pure {m : T → M Unit} {tt : M Bool} {te : M T} {vs : List Nat} {enc : α → T} {xs : List α} {Ts : List T} {Q : T → List T → Prop} (p : α → Bool) (g : α → T)
    (hv : vs.all (fun i => hidOk (slot Ts i)) = true) (hl : xs.length ≤ sizeLine)
    (hb : ∀ x ∈ xs, Ev0 (m (enc x)) (wipeT Ts vs) fun _ Ts1 => Ev0 tt Ts1 fun b Ts1 => b = p x ∧ if b = true then (Ev0 te Ts1 fun r Ts1 => r = g x ∧ wipeT Ts1 vs = wipeT Ts vs) else wipeT Ts1 vs = wipeT Ts vs)
    (hq : Q (.nd (.lst true) ((xs.filter p).map g)) (rest Ts (wipeT Ts vs) vs)) : Ev0 (lcRun m tt te vs (xs.map enc)) Ts Q := by
  refine lc0_inv (fun pre acc s => acc = (pre.filter p).map g ∧ s = wipeT Ts vs) hv ⟨rfl, rfl⟩ (fun pre x post e acc s h => ?_) fun acc s h => ?_
  · obtain ⟨rfl, rfl⟩ := h
    refine (hb x (by rw [e]; simp)).mono fun _ s h => h.mono fun b s h => ?_
    obtain ⟨rfl, h⟩ := h
    by_cases hp : p x = true
    · rw [if_pos hp] at h ⊢
      refine h.mono fun r s h => ⟨?_, ?_, h.2⟩
      · have h1 := List.length_filter_le p pre
        have h2 : xs.length = pre.length + (post.length + 1) := by rw [e]; simp
        rw [List.length_map]
        omega
      · rw [List.filter_append, List.map_append, h.1]; simp [hp]
    · rw [if_neg hp] at h ⊢
      refine ⟨?_, h⟩
      rw [List.filter_append]; simp [hp]
  · obtain ⟨rfl, rfl⟩ := h; exact hq
/-- two sources -/
theorem lc2M0_at {m : T → M Unit} {mi1 : M (List T)} {m1 : T → M Unit} {tt : M Bool} {te : M T} {vs vs1 : List Nat} {enc : α → T} {Q : List T → List T → Prop} (xs : List α) (Inv : List α → List T → List T → Prop)
    (hb : ∀ pre x post, xs = pre ++ x :: post → ∀ acc Ts, Inv pre acc Ts → Ev0 (m (enc x)) Ts fun _ Ts => Ev0 mi1 Ts fun items Ts => Ev0 (lcM m1 tt te vs1 items acc) (wipeT Ts vs1) fun acc' Ts => Inv (pre ++ [x]) acc' (wipeT Ts vs))
    (hq : ∀ acc Ts, Inv xs acc Ts → Q acc Ts) : ∀ pre post, xs = pre ++ post → ∀ acc Ts, Inv pre acc Ts → Ev0 (lc2M m mi1 m1 tt te vs vs1 (post.map enc) acc) Ts Q
  | pre, [], e, acc, Ts, h => by
    rw [List.append_nil] at e; subst e
    simp only [List.map_nil, lc2M, Ev0_ret]
    exact hq acc Ts h
  | pre, x :: post, e, acc, Ts, h => by
    rw [List.map_cons]
    simp only [lc2M, Ev0_bnd]
    refine (hb pre x post e acc Ts h).mono fun _ s h => h.mono fun items s h => ?_
    obtain ⟨acc', s', e1, q⟩ := h
    obtain ⟨r, s2, e2, q2⟩ := lc2M0_at xs Inv hb hq (pre ++ [x]) post (by rw [e]; simp) _ _ q
    refine ⟨r, s2, ?_, q2⟩
    simp only [e1]
    exact e2
theorem lc20_inv {m : T → M Unit} {mi1 : M (List T)} {m1 : T → M Unit} {tt : M Bool} {te : M T} {vs vs1 : List Nat} {enc : α → T} {xs : List α} {Ts : List T} {Q : T → List T → Prop} (Inv : List α → List T → List T → Prop)
    (hv : vs.all (fun i => hidOk (slot Ts i)) = true) (h0 : Inv [] [] (wipeT Ts vs))
    (hb : ∀ pre x post, xs = pre ++ x :: post → ∀ acc Ts, Inv pre acc Ts → Ev0 (m (enc x)) Ts fun _ Ts => Ev0 mi1 Ts fun items Ts => Ev0 (lcM m1 tt te vs1 items acc) (wipeT Ts vs1) fun acc' Ts => Inv (pre ++ [x]) acc' (wipeT Ts vs))
    (hq : ∀ acc Ts', Inv xs acc Ts' → Q (.nd (.lst true) acc) (rest Ts Ts' vs)) : Ev0 (lc2Run m mi1 m1 tt te vs vs1 (xs.map enc)) Ts Q := by
  obtain ⟨acc, s, e, q⟩ := lc2M0_at (Q := fun acc Ts' => Q (.nd (.lst true) acc) (rest Ts Ts' vs)) xs Inv hb hq [] xs rfl [] _ h0
  refine ⟨_, _, ?_, q⟩
  unfold lc2Run
  rw [if_pos hv, e]
/-- the inner source of a comprehension, the slots left as they are -/
theorem lcM0_pure {m : T → M Unit} {tt : M Bool} {te : M T} {vs : List Nat} {enc : α → T} {xs : List α} {W : List T} {acc : List T} {Q : List T → List T → Prop} (p : α → Bool) (g : α → T)
    (hl : acc.length + xs.length ≤ sizeLine)
    (hb : ∀ x ∈ xs, Ev0 (m (enc x)) W fun _ Ts1 => Ev0 tt Ts1 fun b Ts1 => b = p x ∧ if b = true then (Ev0 te Ts1 fun r Ts1 => r = g x ∧ wipeT Ts1 vs = W) else wipeT Ts1 vs = W)
    (hq : Q (acc ++ (xs.filter p).map g) W) : Ev0 (lcM m tt te vs (xs.map enc) acc) W Q := by
  refine lcM0_at xs (fun pre acc' s => acc' = acc ++ (pre.filter p).map g ∧ s = W) (fun pre x post e acc' s h => ?_) (fun acc' s h => ?_) [] xs rfl acc W ⟨by simp, rfl⟩
  · obtain ⟨rfl, rfl⟩ := h
    refine (hb x (by rw [e]; simp)).mono fun _ s h => h.mono fun b s h => ?_
    obtain ⟨rfl, h⟩ := h
    by_cases hp : p x = true
    · rw [if_pos hp] at h ⊢
      refine h.mono fun r s h => ⟨?_, ?_, h.2⟩
      · have h1 := List.length_filter_le p pre
        have h2 : xs.length = pre.length + (post.length + 1) := by rw [e]; simp
        rw [List.length_append, List.length_map]
        omega
      · rw [List.filter_append, List.map_append, h.1]; simp [hp]
    · rw [if_neg hp] at h ⊢
      refine ⟨?_, h⟩
      rw [List.filter_append]; simp [hp]
  · obtain ⟨rfl, rfl⟩ := h; exact hq
end
/-! ### a def -/
def outO0 (io : List Nat) (fl : Fl) (Ts : List T) (Q : T × List T → Prop) : Prop := match fl with
  | .rt r => Q (r, io.map (slot Ts))
  | .nx => Q (.non, io.map (slot Ts))
  | _ => False
@[simp] theorem outO0_rt {io : List Nat} {r : T} {Ts : List T} {Q : T × List T → Prop} : outO0 io (.rt r) Ts Q = Q (r, io.map (slot Ts)) := rfl
@[simp] theorem outO0_nx {io : List Nat} {Ts : List T} {Q : T × List T → Prop} : outO0 io .nx Ts Q = Q (.non, io.map (slot Ts)) := rfl
theorem EvO0_runB {np n : Nat} {io : List Nat} {f : M Fl} {ts : List T} {Q : T × List T → Prop} (hl : ts.length = np) (h : Ev0 f (ts ++ List.replicate (n - np) .dead) fun fl Ts => outO0 io fl Ts Q) : EvO0 (runB np n io f ts) Q := by
  obtain ⟨fl, Ts', e, q⟩ := h
  unfold runB
  rw [if_pos hl, e]
  cases fl with
  | rt r => exact ⟨_, rfl, q⟩
  | nx => exact ⟨_, rfl, q⟩
  | bk => exact False.elim q
  | ct => exact False.elim q
/-! ### the same, closed for simp -/
section
variable {α β : Type}
abbrev Dep {β : Sort _} (_ : β) : Type := Unit
def Ev (m : M α) (Ts : List T) (Q : α → List T → Prop) (u : Dep (m, Q) := ()) : Prop := Ev0 m Ts Q
def EvO (o : Option α) (Q : α → Prop) (u : Dep Q := ()) : Prop := EvO0 o Q
def Inn (I : List T → Prop) (Ts : List T) (u : Dep I := ()) : Prop := I Ts
theorem Inn.mk {I : List T → Prop} {Ts : List T} (h : I Ts) : Inn I Ts := h
def Fl.then (fl : Fl) (k : Prop) (o : Fl → Prop) (u : Dep (k, o) := ()) : Prop := fl.then0 k o
def Fl.turn (fl : Fl) (I : Prop) (q : Fl → Prop) (u : Dep q := ()) : Prop := fl.turn0 I q
def outO (io : List Nat) (fl : Fl) (Ts : List T) (Q : T × List T → Prop) (u : Dep Q := ()) : Prop := outO0 io fl Ts Q
theorem EvO.eq {o : Option α} {a : α} (h : EvO o (· = a)) : o = some a := EvO0.eq h
theorem EvO_of {o : Option α} {a : α} {Q : α → Prop} (h : o = some a) (q : Q a) : EvO o Q := ⟨a, h, q⟩
theorem EvO.mono {o : Option α} {P Q : α → Prop} (h : EvO o P) (i : ∀ a, P a → Q a) : EvO o Q := EvO0.mono h i
theorem Ev.mono {m : M α} {Ts : List T} {P Q : α → List T → Prop} (h : Ev m Ts P) (i : ∀ a Ts', P a Ts' → Q a Ts') : Ev m Ts Q := Ev0.mono h i
theorem Ev_of {m : M α} {Ts Ts' : List T} {a : α} {Q : α → List T → Prop} (h : m Ts = some (a, Ts')) (q : Q a Ts') : Ev m Ts Q := ⟨a, Ts', h, q⟩
@[simp] theorem EvO_some {a : α} {Q : α → Prop} : EvO (some a) Q ↔ Q a := EvO0_some
@[simp] theorem EvO_none {Q : α → Prop} : EvO none Q ↔ False := EvO0_none
@[simp] theorem EvO_ite {c : Prop} [Decidable c] {o o' : Option α} {Q : α → Prop} : EvO (if c then o else o') Q ↔ if c then EvO o Q else EvO o' Q := EvO0_ite
@[simp] theorem EvO_bind {o : Option α} {f : α → Option β} {Q : β → Prop} : EvO (o.bind f) Q ↔ EvO o fun a => EvO (f a) Q := EvO0_bind
@[simp] theorem EvO_map {o : Option α} {f : α → β} {Q : β → Prop} : EvO (o.map f) Q ↔ EvO o fun a => Q (f a) := EvO0_map
@[simp] theorem Ev_bnd {x : M α} {f : α → M β} {Ts : List T} {Q : β → List T → Prop} : Ev (bnd x f) Ts Q ↔ Ev x Ts fun a Ts' => Ev (f a) Ts' Q := Ev0_bnd
@[simp] theorem Ev_ret {a : α} {Ts : List T} {Q : α → List T → Prop} : Ev (ret a) Ts Q ↔ Q a Ts := Ev0_ret
@[simp] theorem Ev_lft {o : Option α} {Ts : List T} {Q : α → List T → Prop} : Ev (lft o) Ts Q ↔ EvO o fun a => Q a Ts := Ev0_lft
@[simp] theorem Ev_fail {Ts : List T} {Q : α → List T → Prop} : Ev (fun _ => none) Ts Q ↔ False := Ev0_fail
@[simp] theorem Ev_ite {c : Prop} [Decidable c] {f g : M α} {Ts : List T} {Q : α → List T → Prop} : Ev (if c then f else g) Ts Q ↔ if c then Ev f Ts Q else Ev g Ts Q := Ev0_ite
end
section
variable {Ts : List T} {Q : T → List T → Prop} {QB : Bool → List T → Prop} {QL : List T → List T → Prop} {QF : Fl → List T → Prop} {QU : Unit → List T → Prop} {QN : List Nat → List T → Prop}
@[simp] theorem then_nx {k : Prop} {o : Fl → Prop} : Fl.then .nx k o = k := then0_nx
@[simp] theorem then_rt {t : T} {k : Prop} {o : Fl → Prop} : Fl.then (.rt t) k o = o (.rt t) := then0_rt
@[simp] theorem then_bk {k : Prop} {o : Fl → Prop} : Fl.then .bk k o = o .bk := then0_bk
@[simp] theorem then_ct {k : Prop} {o : Fl → Prop} : Fl.then .ct k o = o .ct := then0_ct
@[simp] theorem turn_nx {k : Prop} {o : Fl → Prop} : Fl.turn .nx k o = k := turn0_nx
@[simp] theorem turn_ct {k : Prop} {o : Fl → Prop} : Fl.turn .ct k o = k := turn0_ct
@[simp] theorem turn_rt {t : T} {k : Prop} {o : Fl → Prop} : Fl.turn (.rt t) k o = o (.rt t) := turn0_rt
@[simp] theorem turn_bk {k : Prop} {o : Fl → Prop} : Fl.turn .bk k o = o .nx := turn0_bk
@[simp] theorem Ev_mC {t : T} : Ev (mC t) Ts Q ↔ Q t Ts := Ev0_mC
@[simp] theorem Ev_mRd {i : Nat} : Ev (mRd i) Ts Q ↔ (slot Ts i).live = true ∧ Q (slot Ts i) Ts := Ev0_mRd
@[simp] theorem Ev_mIm {fa : M T} : Ev (mIm fa) Ts Q ↔ Ev fa Ts fun t Ts => t.imm = true ∧ Q t Ts := Ev0_mIm
@[simp] theorem Ev_mFz {i : Nat} : Ev (mFz i) Ts Q ↔ (slot Ts i).live = true ∧ Q (slot Ts i).fz (Ts.set i (slot Ts i).fz) := Ev0_mFz
@[simp] theorem Ev_mMv {i : Nat} : Ev (mMv i) Ts Q ↔ (slot Ts i).live = true ∧ (if (slot Ts i).imm = true then Q (slot Ts i) Ts else Q (slot Ts i) (Ts.set i .dead)) := Ev0_mMv
@[simp] theorem Ev_mLn {i : Nat} : Ev (mLn i) Ts Q ↔ (slot Ts i).live = true ∧ Q (slot Ts i) (Ts.set i .dead) := Ev0_mLn
@[simp] theorem Ev_mNil : Ev mNil Ts QL ↔ QL [] Ts := Ev0_mNil
@[simp] theorem Ev_mCons {fa : M T} {fs : M (List T)} : Ev (mCons fa fs) Ts QL ↔ Ev fa Ts fun a Ts => Ev fs Ts fun as Ts => QL (a :: as) Ts := Ev0_mCons
@[simp] theorem Ev_mStar {fa : M T} {fs : M (List T)} : Ev (mStar fa fs) Ts QL ↔ Ev fa Ts fun a Ts => EvO (kidsI a) fun ks => Ev fs Ts fun as Ts => QL (ks ++ as) Ts := Ev0_mStar
@[simp] theorem Ev_mTup {fs : M (List T)} : Ev (mTup fs) Ts Q ↔ Ev fs Ts fun ts Ts => ts.length ≤ sizeLine ∧ Q (.nd .tup ts) Ts := Ev0_mTup
@[simp] theorem Ev_mLst {fs : M (List T)} : Ev (mLst fs) Ts Q ↔ Ev fs Ts fun ts Ts => ts.length ≤ sizeLine ∧ Q (.nd (.lst true) ts) Ts := Ev0_mLst
@[simp] theorem Ev_mF {f : List T → Option T} {fs : M (List T)} : Ev (mF f fs) Ts Q ↔ Ev fs Ts fun ts Ts => EvO (f ts) fun t => Q t Ts := Ev0_mF
@[simp] theorem Ev_m1 {f : T → Option T} {fa : M T} : Ev (m1 f fa) Ts Q ↔ Ev fa Ts fun a Ts => EvO (f a) fun t => Q t Ts := Ev0_m1
@[simp] theorem Ev_m2 {f : T → T → Option T} {fa fb : M T} : Ev (m2 f fa fb) Ts Q ↔ Ev fa Ts fun a Ts => Ev fb Ts fun b Ts => EvO (f a b) fun t => Q t Ts := Ev0_m2
@[simp] theorem Ev_mFrz {fa : M T} : Ev (mFrz fa) Ts Q ↔ Ev fa Ts fun a Ts => Q a.fz Ts := Ev0_mFrz
@[simp] theorem Ev_asB {fa : M T} : Ev (asB fa) Ts QB ↔ Ev fa Ts fun a Ts => EvO (bOf a) fun b => QB b Ts := Ev0_asB
@[simp] theorem Ev_mAnd {fa fb : M Bool} : Ev (mAnd fa fb) Ts QB ↔ Ev fa Ts fun a Ts => if a = true then Ev fb Ts QB else QB false Ts := Ev0_mAnd
@[simp] theorem Ev_mOr {fa fb : M Bool} : Ev (mOr fa fb) Ts QB ↔ Ev fa Ts fun a Ts => if a = true then QB true Ts else Ev fb Ts QB := Ev0_mOr
@[simp] theorem Ev_mNot {fa : M Bool} : Ev (mNot fa) Ts QB ↔ Ev fa Ts fun a Ts => QB (!a) Ts := Ev0_mNot
@[simp] theorem Ev_mTru {fa : M T} : Ev (mTru fa) Ts QB ↔ Ev fa Ts fun a Ts => EvO (tru a) fun b => QB b Ts := Ev0_mTru
@[simp] theorem Ev_mIf {c : M Bool} {fa fb : M T} : Ev (mIf c fa fb) Ts Q ↔ Ev c Ts fun b Ts => if b = true then Ev fa Ts Q else Ev fb Ts Q := Ev0_mIf
@[simp] theorem Ev_mAndV {fa fb : M T} : Ev (mAndV fa fb) Ts Q ↔ Ev fa Ts fun a Ts => EvO (bOf a) fun b => if b = true then Ev fb Ts Q else Q (.bl false) Ts := Ev0_mAndV
@[simp] theorem Ev_mOrV {fa fb : M T} : Ev (mOrV fa fb) Ts Q ↔ Ev fa Ts fun a Ts => EvO (bOf a) fun b => if b = true then Q (.bl true) Ts else Ev fb Ts Q := Ev0_mOrV
@[simp] theorem Ev_mNotV {fa : M T} : Ev (mNotV fa) Ts Q ↔ Ev fa Ts fun a Ts => EvO (bOf a) fun b => Q (.bl (!b)) Ts := Ev0_mNotV
@[simp] theorem Ev_mChain {f f' : T → T → Option T} {fa fb fc : M T} : Ev (mChain f f' fa fb fc) Ts Q ↔ Ev fa Ts fun a Ts => Ev fb Ts fun b Ts => EvO (f a b) fun z => EvO (bOf z) fun k => if k = true then (Ev fc Ts fun c Ts => EvO (f' b c) fun r => Q r Ts) else Q (.bl false) Ts := Ev0_mChain
@[simp] theorem Ev_mSeq {f g : M Fl} : Ev (mSeq f g) Ts QF ↔ Ev f Ts fun fl Ts => fl.then (Ev g Ts QF) fun o => QF o Ts := Ev0_mSeq
@[simp] theorem Ev_mRet {fa : M T} : Ev (mRet fa) Ts QF ↔ Ev fa Ts fun t Ts => QF (.rt t) Ts := Ev0_mRet
@[simp] theorem Ev_mDrop {fa : M T} : Ev (mDrop fa) Ts QF ↔ Ev fa Ts fun t Ts => QF .nx Ts := Ev0_mDrop
@[simp] theorem Ev_mIfS {c : M Bool} {f g : M Fl} : Ev (mIfS c f g) Ts QF ↔ Ev c Ts fun b Ts => if b = true then Ev f Ts QF else Ev g Ts QF := Ev0_mIfS
@[simp] theorem Ev_mPut {i : Nat} {t : T} : Ev (mPut i t) Ts QU ↔ i < Ts.length ∧ QU () (Ts.set i t) := Ev0_mPut
@[simp] theorem Ev_mGnil : Ev (mGnil []) Ts QU ↔ QU () Ts := Ev0_mGnil
@[simp] theorem Ev_mGcons {m : T → M Unit} {ms : List T → M Unit} {t : T} {ts : List T} : Ev (mGcons m ms (t :: ts)) Ts QU ↔ Ev (m t) Ts fun _ Ts => Ev (ms ts) Ts QU := Ev0_mGcons
@[simp] theorem Ev_mUnT {n : Nat} {ms : List T → M Unit} {ts : List T} : Ev (mUn n ms (.nd .tup ts)) Ts QU ↔ ts.length = n ∧ Ev (ms ts) Ts QU := Ev0_mUnT
@[simp] theorem Ev_mUnL {n : Nat} {ms : List T → M Unit} {ts : List T} {o : Bool} : Ev (mUn n ms (.nd (.lst o) ts)) Ts QU ↔ ts.length = n ∧ Ev (ms ts) Ts QU := Ev0_mUnL
@[simp] theorem Ev_mAsg {fa : M T} {m : T → M Unit} : Ev (mAsg fa m) Ts QF ↔ Ev fa Ts fun t Ts => Ev (m t) Ts fun _ Ts => QF .nx Ts := Ev0_mAsg
@[simp] theorem Ev_mSet {fa : M T} {i : Nat} : Ev (mSet i fa) Ts QF ↔ Ev fa Ts fun t Ts => i < Ts.length ∧ QF .nx (Ts.set i t) := Ev0_mSet
@[simp] theorem Ev_mPar {i j : Nat} {fs : M (List T)} : Ev (mPar i j fs) Ts QF ↔ Ev fs Ts fun ts Ts => Ev (mGcons (mPut i) (mGcons (mPut j) mGnil) ts) Ts fun _ Ts => QF .nx Ts := Ev0_mPar
@[simp] theorem Ev_mPar3 {i j l : Nat} {fs : M (List T)} : Ev (mPar3 i j l fs) Ts QF ↔ Ev fs Ts fun ts Ts => Ev (mGcons (mPut i) (mGcons (mPut j) (mGcons (mPut l) mGnil)) ts) Ts fun _ Ts => QF .nx Ts := Ev0_mPar3
@[simp] theorem Ev_mAug {i : Nat} {f : T → T → Option T} {fa : M T} : Ev (mAug i f fa) Ts QF ↔ Ev (mRd i) Ts fun x Ts => Ev fa Ts fun y Ts => EvO (f x y) fun z => i < Ts.length ∧ QF .nx (Ts.set i z) := Ev0_mAug
@[simp] theorem Ev_mFor {mi : M (List T)} {m : T → M Unit} {f : M Fl} : Ev (mFor mi m f) Ts QF ↔ Ev mi Ts fun items Ts => Ev (loopM m f items) Ts QF := Ev0_mFor
@[simp] theorem Ev_mRng {f : List T → Option (List T)} {fs : M (List T)} : Ev (mRng f fs) Ts QL ↔ Ev fs Ts fun ts Ts => EvO (f ts) fun r => QL r Ts := Ev0_mRng
@[simp] theorem Ev_mItA {fa : M T} : Ev (mItA fa) Ts QL ↔ Ev fa Ts fun t Ts => EvO (match t with
  | .str x => if x.length ≤ sizeLine then some (signsT x) else none
  | t => kidsI t) fun r => QL r Ts := Ev0_mItA
@[simp] theorem Ev_putO_nil {os : List T} : Ev (putO [] os) Ts QU ↔ QU () Ts := Ev0_putO_nil
@[simp] theorem Ev_putO_none {ln : List (Option Nat)} {os : List T} : Ev (putO (none :: ln) os) Ts QU ↔ Ev (putO ln os) Ts QU := Ev0_putO_none
@[simp] theorem Ev_putO_some {ln : List (Option Nat)} {i : Nat} {o : T} {os : List T} : Ev (putO (some i :: ln) (o :: os)) Ts QU ↔ i < Ts.length ∧ Ev (putO ln os) (Ts.set i o) QU := Ev0_putO_some
@[simp] theorem Ev_mCall {c : Cal} {ln : List (Option Nat)} {fs : M (List T)} : Ev (mCall c ln fs) Ts Q ↔ Ev fs Ts fun ts Ts => EvO (c (fzA ln ts)) fun p => Ev (putO ln p.2) Ts fun _ Ts => Q p.1 Ts := Ev0_mCall
@[simp] theorem Ev_mCallP {c : Cal} {ln : List (Option Nat)} {fs : M (List T)} : Ev (mCallP c ln fs) Ts Q ↔ Ev fs Ts fun ts Ts => EvO (c (fzA ln ts)) fun p => (p.1.nofz && nofzL p.2) = true ∧ Ev (putO ln p.2) Ts fun _ Ts => Q p.1 Ts := Ev0_mCallP
@[simp] theorem Ev_mGive {c : Cal} {fa : M T} : Ev (mGive c fa) Ts Q ↔ Ev fa Ts fun t Ts => EvO (c [t]) fun p => Q p.1 Ts := Ev0_mGive
@[simp] theorem Ev_mMake {c : Cal} {cls : Str} {ln : List (Option Nat)} {fs : M (List T)} : Ev (mMake c cls ln fs) Ts Q ↔ Ev fs Ts fun ts Ts => EvO (c (.nd (.ins true cls []) [] :: fzA ln ts)) fun p => ∃ s, p = (.non, [s]) ∧ Q s Ts := Ev0_mMake
@[simp] theorem Ev_mIns {cls m : Str} {fa : M T} : Ev (mIns cls m fa) Ts Q ↔ Ev fa Ts fun t Ts => EvO (isIns cls m t) fun t => Q t Ts := Ev0_mIns
@[simp] theorem Ev_mNoP {q : Option Int → List T → Prop} : Ev mNoP Ts q ↔ q none Ts := Ev0_mNoP
@[simp] theorem Ev_mPt {q : Option Int → List T → Prop} {fa : M T} : Ev (mPt fa) Ts q ↔ Ev fa Ts fun t Ts => EvO (iOf t) fun i => q (some i) Ts := Ev0_mPt
@[simp] theorem Ev_mSl {f : T → Option Int → Option Int → Option T} {fa : M T} {fl fh : M (Option Int)} : Ev (mSl f fa fl fh) Ts Q ↔ Ev fa Ts fun t Ts => Ev fl Ts fun l Ts => Ev fh Ts fun h Ts => EvO (f t l h) fun r => Q r Ts := Ev0_mSl
@[simp] theorem Ev_mHere {i : Nat} : Ev (mHere i) Ts QN ↔ (slot Ts i).live = true ∧ QN [] Ts := Ev0_mHere
@[simp] theorem Ev_mStepL {i : Nat} {mp : M (List Nat)} {fk : M T} : Ev (mStepL i mp fk) Ts QN ↔ Ev mp Ts fun p Ts => Ev fk Ts fun k Ts => EvO ((subT p (slot Ts i)).bind fun n => stepL n k) fun j => QN (p ++ [j]) Ts := Ev0_mStepL
@[simp] theorem Ev_mStepF {i : Nat} {mp : M (List Nat)} {c f : Str} : Ev (mStepF i c f mp) Ts QN ↔ Ev mp Ts fun p Ts => EvO ((subT p (slot Ts i)).bind fun n => stepF c f n) fun j => QN (p ++ [j]) Ts := Ev0_mStepF
@[simp] theorem Ev_mMut {i : Nat} {mp : M (List Nat)} {ck : T → Bool} {fs : M (List T)} {f : T → List T → Option (T × T)} : Ev (mMut i mp ck fs f) Ts Q ↔ Ev mp Ts fun p Ts => EvO (subT p (slot Ts i)) fun n => ck n = true ∧ Ev fs Ts fun ts Ts => EvO (subT p (slot Ts i)) fun n => n.ownNd = true ∧ EvO (f n ts) fun r => Q r.1 (Ts.set i (setT p (slot Ts i) r.2)) := Ev0_mMut
@[simp] theorem Ev_mSetI {i : Nat} {mp : M (List Nat)} {fk fa : M T} : Ev (mSetI i mp fk fa) Ts QF ↔ Ev fa Ts fun v Ts => Ev mp Ts fun p Ts => Ev fk Ts fun k Ts => Ev (wr i p k v) Ts QF := Ev0_mSetI
@[simp] theorem Ev_wr {i : Nat} {p : List Nat} {k v : T} : Ev (wr i p k v) Ts QF ↔ EvO (subT p (slot Ts i)) fun n => n.ownNd = true ∧ EvO (fSt n [k, v]) fun r => QF .nx (Ts.set i (setT p (slot Ts i) r.2)) := Ev0_wr
@[simp] theorem Ev_mSetP {i j : Nat} {mp : M (List Nat)} {fk fa : M T} : Ev (mSetP i mp fk j fa) Ts QF ↔ Ev fa Ts fun t Ts => ∃ v w, t = .nd .tup [v, w] ∧ v.imm = true ∧ w.imm = true ∧ Ev mp Ts fun p Ts => Ev fk Ts fun k Ts => Ev (wr i p k v) Ts fun _ Ts => j < Ts.length ∧ QF .nx (Ts.set j w) := Ev0_mSetP
@[simp] theorem Ev_mSetF {i : Nat} {mp : M (List Nat)} {cls f : Str} {fa : M T} : Ev (mSetF i mp cls f fa) Ts QF ↔ Ev fa Ts fun v Ts => Ev mp Ts fun p Ts => EvO (subT p (slot Ts i)) fun n => n.ownNd = true ∧ EvO (fFl cls f n [v]) fun r => QF .nx (Ts.set i (setT p (slot Ts i) r.2)) := Ev0_mSetF
@[simp] theorem Ev_mLc {mi : M (List T)} {m : T → M Unit} {tt : M Bool} {te : M T} {vs : List Nat} : Ev (mLc mi m tt te vs) Ts Q ↔ Ev mi Ts fun items Ts => Ev (lcRun m tt te vs items) Ts Q := Ev0_mLc
@[simp] theorem Ev_mLc2 {mi mi1 : M (List T)} {m m1 : T → M Unit} {tt : M Bool} {te : M T} {vs vs1 : List Nat} : Ev (mLc2 mi m mi1 m1 tt te vs vs1) Ts Q ↔ Ev mi Ts fun items Ts => Ev (lc2Run m mi1 m1 tt te vs vs1 items) Ts Q := Ev0_mLc2
@[simp] theorem outO_rt {io : List Nat} {r : T} {Ts : List T} {Q : T × List T → Prop} : outO io (.rt r) Ts Q = Q (r, io.map (slot Ts)) := outO0_rt
@[simp] theorem outO_nx {io : List Nat} {Ts : List T} {Q : T × List T → Prop} : outO io .nx Ts Q = Q (.non, io.map (slot Ts)) := outO0_nx
end
section
variable {α : Type}
theorem loop_inv {m : T → M Unit} {f : M Fl} {enc : α → T} {xs : List α} {Ts : List T} {Q : Fl → List T → Prop} (Inv : List α → List T → Prop) (h0 : Inv [] Ts)
    (hb : ∀ pre x post, xs = pre ++ x :: post → ∀ Ts, Inv pre Ts → Ev (m (enc x)) Ts fun _ Ts => Ev f Ts fun fl Ts => fl.turn (Inn (Inv (pre ++ [x])) Ts) fun o => Q o Ts)
    (hq : ∀ Ts, Inv xs Ts → Q .nx Ts) : Ev (loopM m f (xs.map enc)) Ts Q := loop0_inv Inv h0 hb hq
theorem lc_inv {m : T → M Unit} {tt : M Bool} {te : M T} {vs : List Nat} {enc : α → T} {xs : List α} {Ts : List T} {Q : T → List T → Prop} (Inv : List α → List T → List T → Prop)
    (hv : vs.all (fun i => hidOk (slot Ts i)) = true) (h0 : Inv [] [] (wipeT Ts vs))
    (hb : ∀ pre x post, xs = pre ++ x :: post → ∀ acc Ts, Inv pre acc Ts → Ev (m (enc x)) Ts fun _ Ts => Ev tt Ts fun b Ts => if b = true then (Ev te Ts fun r Ts => acc.length < sizeLine ∧ Inn (Inv (pre ++ [x]) (acc ++ [r])) (wipeT Ts vs)) else Inn (Inv (pre ++ [x]) acc) (wipeT Ts vs))
    (hq : ∀ acc Ts', Inv xs acc Ts' → Q (.nd (.lst true) acc) (rest Ts Ts' vs)) : Ev (lcRun m tt te vs (xs.map enc)) Ts Q := lc0_inv Inv hv h0 hb hq
theorem lc_pure {m : T → M Unit} {tt : M Bool} {te : M T} {vs : List Nat} {enc : α → T} {xs : List α} {Ts : List T} {Q : T → List T → Prop} (p : α → Bool) (g : α → T)
    (hv : vs.all (fun i => hidOk (slot Ts i)) = true) (hl : xs.length ≤ sizeLine)
    (hb : ∀ x ∈ xs, Ev (m (enc x)) (wipeT Ts vs) fun _ Ts1 => Ev tt Ts1 fun b Ts1 => b = p x ∧ if b = true then (Ev te Ts1 fun r Ts1 => r = g x ∧ wipeT Ts1 vs = wipeT Ts vs) else wipeT Ts1 vs = wipeT Ts vs)
    (hq : Q (.nd (.lst true) ((xs.filter p).map g)) (rest Ts (wipeT Ts vs) vs)) : Ev (lcRun m tt te vs (xs.map enc)) Ts Q := lc0_pure p g hv hl hb hq
theorem lc2_inv {m : T → M Unit} {mi1 : M (List T)} {m1 : T → M Unit} {tt : M Bool} {te : M T} {vs vs1 : List Nat} {enc : α → T} {xs : List α} {Ts : List T} {Q : T → List T → Prop} (Inv : List α → List T → List T → Prop)
    (hv : vs.all (fun i => hidOk (slot Ts i)) = true) (h0 : Inv [] [] (wipeT Ts vs))
    (hb : ∀ pre x post, xs = pre ++ x :: post → ∀ acc Ts, Inv pre acc Ts → Ev (m (enc x)) Ts fun _ Ts => Ev mi1 Ts fun items Ts => Ev (lcM m1 tt te vs1 items acc) (wipeT Ts vs1) fun acc' Ts => Inn (Inv (pre ++ [x]) acc') (wipeT Ts vs))
    (hq : ∀ acc Ts', Inv xs acc Ts' → Q (.nd (.lst true) acc) (rest Ts Ts' vs)) : Ev (lc2Run m mi1 m1 tt te vs vs1 (xs.map enc)) Ts Q := lc20_inv Inv hv h0 hb hq
theorem lcM_pure {m : T → M Unit} {tt : M Bool} {te : M T} {vs : List Nat} {enc : α → T} {xs : List α} {W : List T} {acc : List T} {Q : List T → List T → Prop} (p : α → Bool) (g : α → T)
    (hl : acc.length + xs.length ≤ sizeLine)
    (hb : ∀ x ∈ xs, Ev (m (enc x)) W fun _ Ts1 => Ev tt Ts1 fun b Ts1 => b = p x ∧ if b = true then (Ev te Ts1 fun r Ts1 => r = g x ∧ wipeT Ts1 vs = W) else wipeT Ts1 vs = W)
    (hq : Q (acc ++ (xs.filter p).map g) W) : Ev (lcM m tt te vs (xs.map enc) acc) W Q := lcM0_pure p g hl hb hq
theorem loop_cons {m : T → M Unit} {f : M Fl} {t : T} {ts : List T} {Ts : List T} {Q : Fl → List T → Prop} (h : Ev (m t) Ts fun _ Ts => Ev f Ts fun fl Ts => fl.turn (Ev (loopM m f ts) Ts Q) fun o => Q o Ts) : Ev (loopM m f (t :: ts)) Ts Q := loop0_cons h
theorem EvO_runB {np n : Nat} {io : List Nat} {f : M Fl} {ts : List T} {Q : T × List T → Prop} (hl : ts.length = np) (h : Ev f (ts ++ List.replicate (n - np) .dead) fun fl Ts => outO io fl Ts Q) : EvO (runB np n io f ts) Q := EvO0_runB hl h
end
end MI
namespace MI
open PySem L2
/-! ### operations on trees -/
@[simp] theorem fAdd_int {i j : Int} : fAdd (.int i) (.int j) = some (.int (i + j)) := rfl
@[simp] theorem fSub_int {i j : Int} : fII iSub (.int i) (.int j) = some (.int (i - j)) := rfl
@[simp] theorem fIIAdd_int {i j : Int} : fII iAdd (.int i) (.int j) = some (.int (i + j)) := rfl
@[simp] theorem fXor_int {i j : Int} : fII iXor (.int i) (.int j) = some (.int (Builtin.bitXor i j)) := rfl
@[simp] theorem fNeg_int {i : Int} : fNeg (.int i) = some (.int (-i)) := rfl
theorem fMul_int {i j : Int} (h : i.natAbs.log2 + j.natAbs.log2 < 1000000) : fMul (.int i) (.int j) = some (.int (i * j)) := by
  simp [fMul, oe2, fII, iMul, h]
theorem fMod_int {i j : Int} (h : 0 < j) : fII iMod (.int i) (.int j) = some (.int (i % j)) := by simp [fII, iMod, h]
theorem fDiv_int {i j : Int} (h : 0 < j ∧ j.natAbs.log2 < 9000) : fII iDiv (.int i) (.int j) = some (.int (i / j)) := by simp [fII, iDiv, h]
theorem fDiv_int' {i j : Int} (h : 0 < j) (h1 : j < 1073741824) : fII iDiv (.int i) (.int j) = some (.int (i / j)) := by
  refine fDiv_int ⟨h, ?_⟩
  by_cases h0 : j.natAbs = 0
  · omega
  · exact (Nat.log2_lt h0).mpr (Nat.lt_of_lt_of_le (show j.natAbs < 2 ^ 30 by omega) (Nat.pow_le_pow_right (by omega) (by omega)))
theorem log2_lt_of {n k : Nat} (hk : 0 < k) (h : n < 2 ^ k) : n.log2 < k := by
  by_cases h0 : n = 0
  · subst h0; simpa using hk
  · exact (Nat.log2_lt h0).mpr h
theorem log2_mono {a b : Nat} (h : a ≤ b) : a.log2 ≤ b.log2 := by
  by_cases h0 : a = 0
  · subst h0; simp
  · exact (Nat.le_log2 (by omega)).mpr (Nat.le_trans (Nat.log2_self_le h0) h)
/-- both below 2 ^ 400: their product is one that is reckoned -/
theorem mul_small {i j : Int} (hi : i.natAbs ≤ 10 ^ 100) (hj : j.natAbs ≤ 10 ^ 100) : i.natAbs.log2 + j.natAbs.log2 < 1000000 := by
  have h1 : i.natAbs.log2 < 400 := log2_lt_of (by omega) (Nat.lt_of_le_of_lt hi (by decide +kernel))
  have h2 : j.natAbs.log2 < 400 := log2_lt_of (by omega) (Nat.lt_of_le_of_lt hj (by decide +kernel))
  omega
@[simp] theorem fIx_lst {o : Bool} {ts : List T} {i : Int} : fIx (.nd (.lst o) ts) (.int i) = atI ts i := by
  simp [fIx, oe2, fIxS, kids, fIxT, fIxK]; cases atI ts i <;> rfl
@[simp] theorem fIx_tup {ts : List T} {i : Int} : fIx (.nd .tup ts) (.int i) = atI ts i := by
  simp [fIx, oe2, fIxS, kids, fIxT, fIxK]; cases atI ts i <;> rfl
@[simp] theorem fIx_scr {ts : List T} {i : Int} : fIx (.nd .scr ts) (.int i) = atI ts i := by
  simp [fIx, oe2, fIxS, kids, fIxT, fIxK]; cases atI ts i <;> rfl
theorem ixN_of {n : Nat} {i : Int} (h0 : 0 ≤ i) (h1 : i < n) : ixN n i = some i.toNat := by
  unfold ixN; rw [if_pos h0, if_pos h1]
@[simp] theorem ixN_lit0 {n : Nat} : ixN (n + 1) 0 = some 0 := ixN_of (by omega) (by omega)
@[simp] theorem ixN_lit1 {n : Nat} : ixN (n + 1 + 1) 1 = some 1 := ixN_of (by omega) (by omega)
@[simp] theorem ixN_lit2 {n : Nat} : ixN (n + 1 + 1 + 1) 2 = some 2 := ixN_of (by omega) (by omega)
theorem atI_of {α : Type} {xs : List α} {i : Int} {k : Nat} (h : i = (k : Int)) (hk : k < xs.length) : atI xs i = some xs[k] := by
  subst h
  unfold atI
  rw [ixN_of (by omega) (by omega)]
  simp [hk]
@[simp] theorem atI_0 {α : Type} {x : α} {xs : List α} : atI (x :: xs) 0 = some x := by
  rw [atI_of (i := 0) (k := 0) rfl (by simp)]; rfl
@[simp] theorem atI_1 {α : Type} {x y : α} {xs : List α} : atI (x :: y :: xs) 1 = some y := by
  rw [atI_of (i := 1) (k := 1) rfl (by simp)]; rfl
@[simp] theorem atI_2 {α : Type} {x y z : α} {xs : List α} : atI (x :: y :: z :: xs) 2 = some z := by
  rw [atI_of (i := 2) (k := 2) rfl (by simp)]; rfl
@[simp] theorem fGt_int {i j : Int} : fGt (.int i) (.int j) = some (.bl (decide (j < i))) := rfl
@[simp] theorem fGe_int {i j : Int} : fGe (.int i) (.int j) = some (.bl (decide (j ≤ i))) := rfl
@[simp] theorem fLt_int {i j : Int} : fLt (.int i) (.int j) = some (.bl (decide (i < j))) := rfl
@[simp] theorem fLe_int {i j : Int} : fLe (.int i) (.int j) = some (.bl (decide (i ≤ j))) := rfl
@[simp] theorem fInt_int {i : Int} : fInt (.int i) = some (.int i) := rfl
@[simp] theorem c1_one {f : T → Option T} {t : T} : c1 f [t] = f t := rfl
@[simp] theorem c2_two {f : T → T → Option T} {t u : T} : c2 f [t, u] = f t u := rfl
theorem fDivmod_int {i j : Int} (h : 0 < j ∧ j < 1073741824) : fDivmod (.int i) (.int j) = some (.nd .tup [.int (i / j), .int (i % j)]) := by simp [fDivmod, h]
@[simp] theorem fLen_tup {ts : List T} : fLen (.nd .tup ts) = some (.int ts.length) := rfl
@[simp] theorem fLen_lst {o : Bool} {ts : List T} : fLen (.nd (.lst o) ts) = some (.int ts.length) := rfl
@[simp] theorem fLen_scr {ts : List T} : fLen (.nd .scr ts) = some (.int ts.length) := rfl
@[simp] theorem fSt_lst {ts : List T} {k : Int} {v : T} : fSt (.nd (.lst true) ts) [.int k, v] = (ixN ts.length k).map fun j => (.non, .nd (.lst true) (ts.set j v)) := by
  simp only [fSt]
  cases ixN ts.length k <;> rfl
/-! ### the jar -/
abbrev jarT (a b c : Int) : T := .nd (.lst true) [.int a, .int b, .int c]
structure JarOk (n : Nat) (a b c : Int) : Prop where
  a0 : 0 ≤ a
  b0 : 0 ≤ b
  b1 : b < 2147483399
  c0 : 0 ≤ c
  c1 : c ≤ n
theorem JarOk.mono {n m : Nat} {a b c : Int} (h : JarOk n a b c) (hm : n ≤ m) : JarOk m a b c := ⟨h.a0, h.b0, h.b1, h.c0, by have := h.c1; omega⟩
theorem dip_spec {n : Nat} {a b c top : Int} {Q : T × List T → Prop} (hj : JarOk n a b c) (hn : n ≤ 1000000000) (h0 : 0 < top) (h1 : top < 1073741824)
    (k : ∀ d a' b' c', 0 ≤ d → d < top → JarOk (n + 1) a' b' c' → Q (.int d, [jarT a' b' c'])) : EvO (c__law_dip [jarT a b c, .int top]) Q := by
  obtain ⟨a0, b0, b1, c0, c1⟩ := hj
  refine EvO_runB rfl ?_
  simp [m__law_dip]
  split
  · simp [fDivmod_int ⟨h0, h1⟩]
    exact k _ _ _ _ (Int.emod_nonneg _ (by omega)) (Int.emod_lt_of_pos _ h0) ⟨Int.ediv_nonneg a0 (by omega), b0, b1, by omega, by omega⟩
  · rw [fMul_int (mul_small (by omega) (by decide))]
    simp
    rw [fMul_int (mul_small (by decide) (by omega))]
    simp [fMod_int, fDiv_int', h0]
    exact k _ _ _ _ (Int.emod_nonneg _ (by omega)) (Int.emod_lt_of_pos _ h0) ⟨a0, Int.emod_nonneg _ (by omega), Int.emod_lt_of_pos _ (by omega), by omega, by omega⟩
theorem one_of_spec {n : Nat} {a b c : Int} {o : Bool} {ts : List T} {Q : T × List T → Prop} (hj : JarOk n a b c) (hn : n ≤ 1000000000) (h0 : 0 < ts.length) (h1 : ts.length < 1073741824) (hi : immL ts = true)
    (k : ∀ (i : Nat) (h : i < ts.length) a' b' c', JarOk (n + 1) a' b' c' → Q (ts[i], [jarT a' b' c'])) : EvO (c__law_one_of [jarT a b c, .nd (.lst o) ts]) Q := by
  refine EvO_runB rfl ?_
  simp [m__law_one_of]
  refine dip_spec hj hn (by omega) (by omega) fun d a' b' c' d0 d1 hj' => ?_
  simp
  have hd : d.toNat < ts.length := by omega
  rw [atI_of (k := d.toNat) (by omega) hd]
  simp
  exact ⟨immL_all.mp hi _ (List.getElem_mem _), k _ hd _ _ _ hj'⟩
end MI
namespace MI
open PySem L2
/-! ### names, kinds, columns, cells -/
def nameB (s : Str) : Bool := decide (1 ≤ s.length) && (decide (s.length ≤ 8) && s.cps.toList.all fun c => decide (97 ≤ c) && decide (c ≤ 122))
inductive Kind where
  | bits | plain | dial (m : Int)
deriving DecidableEq
abbrev tS (s : Str) : T := .str s
def Kind.t : Kind → T
  | .bits => .str "bits"
  | .plain => .str "plain"
  | .dial m => .int m
structure Col where
  name : Str
  sums : List Str
  data : List (Str × Str)
deriving DecidableEq
inductive Cell where
  | sum (s : Str) | datum (n : Nat)
deriving DecidableEq
def Cell.t : Cell → T
  | .sum s => .nd .tup [.str "sum", .str s]
  | .datum n => .nd .tup [.str "datum", .int n]
def pairT (p : Str × Str) : T := .nd .tup [.str p.1, .str p.2]
/-- a column as the law has it -/
def Col.l (c : Col) : T := .nd (.lst false) [.str c.name, .nd (.lst false) (c.sums.map T.str), .nd (.lst false) (c.data.map pairT)]
/-- as the program has it -/
def Col.t (c : Col) : T := .nd .tup [.str c.name, .nd .tup (c.sums.map T.str), .nd .tup (c.data.map pairT)]
structure Chart where
  kind : Kind
  cols : List Col
def Chart.l (h : Chart) : T := .nd (.lst false) [h.kind.t, .nd (.lst false) (h.cols.map Col.l)]
def numFrom : Nat → List Nat → List (List Nat)
  | _, [] => []
  | n, k :: ks => List.range' n k :: numFrom (n + k) ks
/-- the cells of each column -/
def partsFrom : Nat → List Col → List (List Cell)
  | _, [] => []
  | n, c :: cs => (c.sums.map Cell.sum ++ (List.range' n c.data.length).map Cell.datum) :: partsFrom (n + c.data.length) cs
def Chart.parts (h : Chart) : List (List Cell) := partsFrom 0 h.cols
def Chart.cells (h : Chart) : List Cell := h.parts.flatten
def Chart.sums (h : Chart) : List Str := h.cols.flatMap Col.sums
def Chart.data (h : Chart) : List (Str × Str) := h.cols.flatMap Col.data
def Chart.names (h : Chart) : List Str := h.cols.map Col.name
def cellsT (cs : List Cell) : T := .nd .tup (cs.map Cell.t)
/-- the table -/
def Chart.tab (h : Chart) : T := .nd (.ins false "Table" ["kind", "columns", "held"]) [h.kind.t, .nd .tup (h.cols.map Col.t), .nd .tup (h.parts.map cellsT)]
@[simp] theorem live_kind {k : Kind} : k.t.live = true := by cases k <;> rfl
@[simp] theorem imm_kind {k : Kind} : k.t.imm = true := by cases k <;> simp [Kind.t]
@[simp] theorem fz_kind {k : Kind} : k.t.fz = k.t := T.fz_imm _ imm_kind
@[simp] theorem imm_cell {k : Cell} : k.t.imm = true := by cases k <;> simp [Cell.t]
@[simp] theorem live_cell {k : Cell} : k.t.live = true := by cases k <;> rfl
@[simp] theorem fz_cell {k : Cell} : k.t.fz = k.t := T.fz_imm _ imm_cell
@[simp] theorem imm_pairT {p : Str × Str} : (pairT p).imm = true := by simp [pairT]
@[simp] theorem live_pairT {p : Str × Str} : (pairT p).live = true := rfl
@[simp] theorem fz_pairT {p : Str × Str} : (pairT p).fz = pairT p := T.fz_imm _ imm_pairT
@[simp] theorem immL_pairs {l : List (Str × Str)} : immL (l.map pairT) = true := immL_map (fun _ => imm_pairT) l
@[simp] theorem immL_cells {l : List Cell} : immL (l.map Cell.t) = true := immL_map (fun _ => imm_cell) l
@[simp] theorem fzL_pairs {l : List (Str × Str)} : fzL (l.map pairT) = l.map pairT := fzL_imm _ immL_pairs
@[simp] theorem fzL_cells {l : List Cell} : fzL (l.map Cell.t) = l.map Cell.t := fzL_imm _ immL_cells
@[simp] theorem imm_cellsT {l : List Cell} : (cellsT l).imm = true := by simp [cellsT]
@[simp] theorem live_cellsT {l : List Cell} : (cellsT l).live = true := rfl
@[simp] theorem fz_cellsT {l : List Cell} : (cellsT l).fz = cellsT l := T.fz_imm _ imm_cellsT
@[simp] theorem immL_cellsT {l : List (List Cell)} : immL (l.map cellsT) = true := immL_map (fun _ => imm_cellsT) l
@[simp] theorem fzL_cellsT {l : List (List Cell)} : fzL (l.map cellsT) = l.map cellsT := fzL_imm _ immL_cellsT
@[simp] theorem imm_colL {c : Col} : c.l.imm = true := by simp [Col.l]
@[simp] theorem live_colL {c : Col} : c.l.live = true := rfl
@[simp] theorem fz_colL {c : Col} : c.l.fz = c.l := T.fz_imm _ imm_colL
@[simp] theorem immL_colL {l : List Col} : immL (l.map Col.l) = true := immL_map (fun _ => imm_colL) l
@[simp] theorem fzL_colL {l : List Col} : fzL (l.map Col.l) = l.map Col.l := fzL_imm _ immL_colL
@[simp] theorem imm_colT {c : Col} : c.t.imm = true := by simp [Col.t]
@[simp] theorem live_colT {c : Col} : c.t.live = true := rfl
@[simp] theorem fz_colT {c : Col} : c.t.fz = c.t := T.fz_imm _ imm_colT
@[simp] theorem immL_colT {l : List Col} : immL (l.map Col.t) = true := immL_map (fun _ => imm_colT) l
@[simp] theorem fzL_colT {l : List Col} : fzL (l.map Col.t) = l.map Col.t := fzL_imm _ immL_colT
@[simp] theorem imm_chart {h : Chart} : h.l.imm = true := by simp [Chart.l]
@[simp] theorem live_chart {h : Chart} : h.l.live = true := rfl
@[simp] theorem fz_chart {h : Chart} : h.l.fz = h.l := T.fz_imm _ imm_chart
@[simp] theorem imm_tab {h : Chart} : h.tab.imm = true := by simp [Chart.tab]
@[simp] theorem live_tab {h : Chart} : h.tab.live = true := rfl
@[simp] theorem fz_tab {h : Chart} : h.tab.fz = h.tab := T.fz_imm _ imm_tab
/-! ### ranges -/
theorem rng1_int {n : Int} (h0 : -4611686018427387904 ≤ n) (h1 : n < 4611686018427387904) : rng1 [.int n] = some (rangeT 0 n) := by
  show (if _ then _ else _) = _; rw [if_pos ⟨by omega, by omega⟩]
theorem rng2_int {a b : Int} (h0 : -4611686018427387904 ≤ a) (h1 : a < 4611686018427387904) (h2 : -4611686018427387904 ≤ b) (h3 : b < 4611686018427387904) : rng2 [.int a, .int b] = some (rangeT a b) := by
  show (if _ then _ else _) = _; rw [if_pos ⟨by omega, by omega, by omega, by omega⟩]
def natT (n : Nat) : T := .int n
@[simp] theorem imm_natT {n : Nat} : (natT n).imm = true := by simp [natT]
@[simp] theorem live_natT {n : Nat} : (natT n).live = true := rfl
@[simp] theorem immL_natT {l : List Nat} : immL (l.map natT) = true := immL_map (fun _ => imm_natT) l
theorem rangeT_zero {n : Int} : rangeT 0 n = (List.range n.toNat).map natT := by
  unfold rangeT
  rw [show (n - 0).toNat = n.toNat by omega]
  exact List.map_congr_left fun i _ => by simp [natT]
theorem rangeT_nat {a b : Nat} : rangeT a b = (List.range' a (b - a)).map natT := by
  unfold rangeT
  rw [show ((b : Int) - (a : Int)).toNat = b - a by omega, List.range'_eq_map_range, List.map_map]
  exact List.map_congr_left fun i _ => by simp [natT]
/-! ### lists that grow -/
@[simp] theorem isLst_lst {o : Bool} {ts : List T} : isLst (.nd (.lst o) ts) = true := rfl
@[simp] theorem fAppend_lst {ts : List T} {v : T} : fAppend (.nd (.lst true) ts) [v] = if ts.length < sizeLine then some (.non, .nd (.lst true) (ts ++ [v])) else none := rfl
@[simp] theorem fExtend_tup {ts us : List T} : fExtend (.nd (.lst true) ts) [.nd .tup us] = if ts.length + us.length ≤ sizeLine then some (.non, .nd (.lst true) (ts ++ us)) else none := rfl
@[simp] theorem fExtend_lst {ts us : List T} : fExtend (.nd (.lst true) ts) [.nd (.lst true) us] = if ts.length + us.length ≤ sizeLine then some (.non, .nd (.lst true) (ts ++ us)) else none := rfl
@[simp] theorem fAdd_lst {o p : Bool} {ts us : List T} : fAdd (.nd (.lst o) ts) (.nd (.lst p) us) = if immL ts = true ∧ immL us = true then (if ts.length + us.length ≤ sizeLine then some (.nd (.lst true) (ts ++ us)) else none) else none := by
  by_cases h1 : immL ts = true <;> by_cases h2 : immL us = true <;> simp [fAdd, oe2, fII, fAddS, fAddL, fAddT, kLe, kT, h1, h2]
  by_cases h : ts.length + us.length ≤ 16777216 <;> simp [h]
@[simp] theorem fAdd_tup {ts us : List T} : fAdd (.nd .tup ts) (.nd .tup us) = if immL ts = true ∧ immL us = true then (if ts.length + us.length ≤ sizeLine then some (.nd .tup (ts ++ us)) else none) else none := by
  by_cases h1 : immL ts = true <;> by_cases h2 : immL us = true <;> simp [fAdd, oe2, fII, fAddS, fAddL, fAddT, kLe, kT, h1, h2]
@[simp] theorem fTuple_lst {o : Bool} {ts : List T} : fTuple (.nd (.lst o) ts) = if immL ts = true then some (.nd .tup ts) else none := by
  simp only [fTuple, kidsI_lst']; split <;> rfl
@[simp] theorem fTuple_tup {ts : List T} : fTuple (.nd .tup ts) = if immL ts = true then some (.nd .tup ts) else none := by
  simp only [fTuple, kidsI_tup']; split <;> rfl
@[simp] theorem fList_lst {o : Bool} {ts : List T} : fListU (.nd (.lst o) ts) = if immL ts = true then some (.nd (.lst true) ts) else none := by
  by_cases h : immL ts = true <;> simp [fListU, fList, fListK, h]
@[simp] theorem fList_tup {ts : List T} : fListU (.nd .tup ts) = if immL ts = true then some (.nd (.lst true) ts) else none := by
  by_cases h : immL ts = true <;> simp [fListU, fList, fListK, h]
/-! ### equality -/
@[simp] theorem eqT_str {x y : Str} : eqT (.str x) (.str y) = decide (x = y) := by
  simp [eqT, toD, PyData.eqv]; rfl
@[simp] theorem eqT_int {x y : Int} : eqT (.int x) (.int y) = decide (x = y) := by
  simp [eqT, toD, PyData.eqv]; rfl
@[simp] theorem eqT_int_str {x : Int} {y : Str} : eqT (.int x) (.str y) = false := by simp [eqT, toD, PyData.eqv]
@[simp] theorem eqT_str_int {x : Str} {y : Int} : eqT (.str x) (.int y) = false := by simp [eqT, toD, PyData.eqv]
@[simp] theorem okD_str {n : Nat} {s : Str} : okD n (.str s) = okS s := by cases n <;> simp [okD]
@[simp] theorem okD_int {n : Nat} {s : Int} : okD n (.int s) = true := by cases n <;> simp [okD]
@[simp] theorem okD_non {n : Nat} : okD n .non = true := by cases n <;> simp [okD]
@[simp] theorem okD_bl {n : Nat} {b : Bool} : okD n (.bl b) = true := by cases n <;> simp [okD]
theorem fEq_ok {a b : T} (ha : okD 60 a = true) (hb : okD 60 b = true) : fEq a b = some (.bl (eqT a b)) := by simp [fEq, ha, hb]
theorem fNe_ok {a b : T} (ha : okD 60 a = true) (hb : okD 60 b = true) : fNe a b = some (.bl (!eqT a b)) := by simp [fNe, ha, hb]
theorem nameB_iff {s : Str} : nameB s = true ↔ 1 ≤ s.length ∧ s.length ≤ 8 ∧ ∀ c ∈ s.cps.toList, 97 ≤ c ∧ c ≤ 122 := by
  simp only [nameB, Bool.and_eq_true, decide_eq_true_eq, List.all_eq_true]
@[simp] theorem filter_tt {α : Type} {l : List α} : l.filter (fun _ => true) = l := List.filter_eq_self.mpr fun _ _ => rfl
theorem okS_name {s : Str} (h : nameB s = true) : okS s = true := by
  have h := (nameB_iff.mp h).2.2
  unfold okS
  rw [List.all_eq_true]
  intro c hc
  have := h c hc
  rw [Nat.blt_eq]; omega
theorem name_len {s : Str} (h : nameB s = true) : s.length ≤ 8 := (nameB_iff.mp h).2.1
theorem boolsOf_map {α : Type} (f : α → Bool) : ∀ xs : List α, boolsOf (xs.map fun x => .bl (f x)) = some (xs.map f)
  | [] => rfl
  | x :: xs => by simp [boolsOf, boolsOf_map f xs]
theorem fBools_map {α : Type} {o : Bool} (h : List Bool → Bool) (f : α → Bool) (xs : List α) : fBools h (.nd (.lst o) (xs.map fun x => .bl (f x))) = some (.bl (h (xs.map f))) := by
  simp [fBools, kA, boolsOf_map]
end MI
namespace MI
open PySem L2
def labelMenu : List Str := ["p", "q", "r", "s", "t", "u", "kind", "column", "sum", "datum", "bits", "plain", "a", "b", "ab", "zzzzzzzz", "rr", "none"]
def labelsF (s g : Nat) : List Str := (List.range 18).map fun k => labelMenu.getD ((s + g * k) % 18) Str.empty
def nodupB : List Str → Bool
  | [] => true
  | x :: xs => !(xs.any fun y => decide (y = x)) && nodupB xs
theorem nodup_of_B : ∀ {xs : List Str}, nodupB xs = true → xs.Nodup
  | [], _ => List.nodup_nil
  | x :: xs, h => by
    simp only [nodupB, Bool.and_eq_true, Bool.not_eq_true', List.any_eq_false, decide_eq_true_eq] at h
    exact List.nodup_cons.mpr ⟨fun hm => h.1 x hm rfl, nodup_of_B h.2⟩
theorem labels_all : ∀ s ∈ List.range 18, ∀ g ∈ [1, 5, 7, 11], (nodupB (labelsF s g) && (labelsF s g).all nameB) = true := by decide +kernel
structure LabelsOk (ls : List Str) : Prop where
  len : ls.length = 18
  nd : ls.Nodup
  nm : ∀ s ∈ ls, nameB s = true
theorem labels_spec {n : Nat} {a b c : Int} {Q : T × List T → Prop} (hj : JarOk n a b c) (hn : n ≤ 100000000)
    (k : ∀ (ls : List Str) a' b' c', LabelsOk ls → JarOk (n + 2) a' b' c' → Q (.nd (.lst true) (ls.map T.str), [jarT a' b' c'])) : EvO (c__law_labels [jarT a b c]) Q := by
  refine EvO_runB rfl ?_
  simp [m__law_labels]
  refine dip_spec hj (by omega) (by omega) (by omega) fun s a1 b1 c1 s0 s1 hj1 => ?_
  simp
  refine one_of_spec hj1 (by omega) (by decide) (by decide) (by simp) fun i hi a2 b2 c2 hj2 => ?_
  obtain ⟨g, hg, eg⟩ : ∃ g : Nat, g ∈ [1, 5, 7, 11] ∧ [T.int 1, T.int 5, T.int 7, T.int 11][i] = T.int g := by
    have hi' : i < 4 := hi
    match i, hi' with
    | 0, _ => exact ⟨1, by simp, rfl⟩
    | 1, _ => exact ⟨5, by simp, rfl⟩
    | 2, _ => exact ⟨7, by simp, rfl⟩
    | 3, _ => exact ⟨11, by simp, rfl⟩
  rw [eg]
  simp [rng1_int, rangeT_zero]
  have hall := labels_all s.toNat (List.mem_range.mpr (by omega)) g hg
  simp only [Bool.and_eq_true, List.all_eq_true] at hall
  have hg11 : g ≤ 11 := by simp at hg; omega
  refine loop_inv (fun pre Ts => ∃ u, Ts = [jarT a2 b2 c2, .nd (.lst false) (labelMenu.map T.str), .nd (.lst true) ((pre.map fun k => labelMenu.getD ((s.toNat + g * k) % 18) Str.empty).map T.str), .int s, .int g, u]) ⟨_, rfl⟩ ?_ ?_
  · rintro pre x post e Ts ⟨u, rfl⟩
    have hx : x < 18 := by
      have : x ∈ List.range 18 := by rw [e]; simp
      simpa using this
    have hlen : pre.length < 16777216 := by
      have : (List.range 18).length = pre.length + (post.length + 1) := by rw [e]; simp
      simp at this; omega
    simp [natT]
    rw [fMul_int (mul_small (by omega) (by omega))]
    simp [fMod_int]
    rw [atI_of (k := (s.toNat + g * x) % 18) (by rw [show s = (s.toNat : Int) by omega]; simp) (by simp [labelMenu]; omega)]
    simp [hlen]
    refine Inn.mk ⟨.int x, ?_⟩
    simp [List.getElem?_eq_getElem (show (s.toNat + g * x) % 18 < labelMenu.length by simp [labelMenu]; omega)]
  · rintro Ts ⟨u, rfl⟩
    simp
    refine k (labelsF s.toNat g) _ _ _ ⟨by simp [labelsF], nodup_of_B hall.1, hall.2⟩ hj2
end MI
namespace MI
open PySem L2
def Kind.ok : Kind → Prop
  | .dial m => 3 ≤ m ∧ m ≤ 1000000000
  | _ => True
/-- a table that is right -/
structure Chart.Wf (h : Chart) : Prop where
  k : h.kind.ok
  c1 : 1 ≤ h.cols.length
  c8 : h.cols.length ≤ 8
  nd : h.names.Nodup
  nm : ∀ s ∈ h.names, nameB s = true
  sd : h.sums.Nodup
  sn : ∀ s ∈ h.sums, nameB s = true
  s1 : 1 ≤ h.sums.length
  s10 : h.sums.length ≤ 10
  d24 : h.data.length ≤ 24
  dp : ∀ p ∈ h.data, p.1 ∈ h.sums ∧ p.2 ∈ h.sums ∧ ltS p.1 p.2 = true
theorem perm_mid {α : Type} (a b : List α) (x : α) : (a ++ [x] ++ b).Perm (a ++ b ++ [x]) := by
  rw [List.append_assoc, List.append_assoc]
  exact (List.perm_append_comm (l₁ := [x]) (l₂ := b)).append_left a
theorem flatMap_set_perm {α β : Type} (f : α → List β) (x : β) (c' : α) : ∀ (cs : List α) (i : Nat) (c : α), cs[i]? = some c → f c' = f c ++ [x] → ((cs.set i c').flatMap f).Perm (cs.flatMap f ++ [x])
  | [], i, c, h, _ => by simp at h
  | d :: cs, 0, c, h, e => by
    simp at h; subst h
    simp only [List.set_cons_zero, List.flatMap_cons, e]
    exact perm_mid _ _ _
  | d :: cs, i + 1, c, h, e => by
    simp only [List.set_cons_succ, List.flatMap_cons, List.append_assoc]
    exact (flatMap_set_perm f x c' cs i c (by simpa using h) e).append_left _
theorem flatMap_set_same {α β : Type} (f : α → List β) (c' : α) : ∀ (cs : List α) (i : Nat) (c : α), cs[i]? = some c → f c' = f c → (cs.set i c').flatMap f = cs.flatMap f
  | [], i, c, h, _ => by simp at h
  | d :: cs, 0, c, h, e => by simp at h; subst h; simp [e]
  | d :: cs, i + 1, c, h, e => by
    simp only [List.set_cons_succ, List.flatMap_cons]
    rw [flatMap_set_same f c' cs i c (by simpa using h) e]
theorem map_set_same {α β : Type} (f : α → β) (c' : α) : ∀ (cs : List α) (i : Nat) (c : α), cs[i]? = some c → f c' = f c → (cs.set i c').map f = cs.map f
  | [], i, c, h, _ => by simp at h
  | d :: cs, 0, c, h, e => by simp at h; subst h; simp [e]
  | d :: cs, i + 1, c, h, e => by
    simp only [List.set_cons_succ, List.map_cons]
    rw [map_set_same f c' cs i c (by simpa using h) e]
/-- a column while it is made -/
def Col.o (c : Col) : T := .nd (.lst true) [.str c.name, .nd (.lst true) (c.sums.map T.str), .nd (.lst true) (c.data.map pairT)]
@[simp] theorem fz_colO {c : Col} : c.o.fz = c.l := by simp [Col.o, Col.l]
@[simp] theorem live_colO {c : Col} : c.o.live = true := rfl
@[simp] theorem imm_colO {c : Col} : c.o.imm = false := by simp [Col.o]
@[simp] theorem fzL_colO {l : List Col} : fzL (l.map Col.o) = l.map Col.l := by simp [fzL_eq]
theorem some_kind_spec {n : Nat} {a b c : Int} {Q : T × List T → Prop} (hj : JarOk n a b c) (hn : n ≤ 100000000)
    (k : ∀ (kd : Kind) a' b' c', kd.ok → JarOk (n + 1) a' b' c' → Q (kd.t, [jarT a' b' c'])) : EvO (c__law_some_kind [jarT a b c]) Q := by
  refine EvO_runB rfl ?_
  simp [m__law_some_kind, fII, iPow]
  refine one_of_spec hj (by omega) (by decide) (by decide) (by simp) fun i hi a2 b2 c2 hj2 => ?_
  have hi' : i < 10 := hi
  simp
  match i, hi' with
  | 0, _ => exact k .bits _ _ _ trivial hj2
  | 1, _ => exact k .plain _ _ _ trivial hj2
  | 2, _ => exact k .bits _ _ _ trivial hj2
  | 3, _ => exact k .plain _ _ _ trivial hj2
  | 4, _ => exact k (.dial 3) _ _ _ ⟨by decide, by decide⟩ hj2
  | 5, _ => exact k (.dial 4) _ _ _ ⟨by decide, by decide⟩ hj2
  | 6, _ => exact k (.dial 12) _ _ _ ⟨by decide, by decide⟩ hj2
  | 7, _ => exact k (.dial 9) _ _ _ ⟨by decide, by decide⟩ hj2
  | 8, _ => exact k (.dial 1000000000) _ _ _ ⟨by decide, by decide⟩ hj2
  | 9, _ => exact k (.dial 7) _ _ _ ⟨by decide, by decide⟩ hj2
theorem fCut_lst {o : Bool} {ts : List T} {lo hi : Option Int} (h : immL ts = true) : fCut (.nd (.lst o) ts) lo hi = some (.nd (.lst true) (cutT ts lo hi)) := by simp [fCut, h]
theorem fCut_tup {ts : List T} {lo hi : Option Int} (h : immL ts = true) : fCut (.nd .tup ts) lo hi = some (.nd .tup (cutT ts lo hi)) := by simp [fCut, h]
theorem fCut_scr {ts : List T} {lo hi : Option Int} (h : immL ts = true) : fCut (.nd .scr ts) lo hi = some (.nd (.lst true) (cutT ts lo hi)) := by simp [fCut, h]
theorem cutT_map {α β : Type} (f : α → β) (xs : List α) (lo hi : Option Int) : cutT (xs.map f) lo hi = (cutT xs lo hi).map f := by simp [cutT, List.map_take, List.map_drop]
theorem cutT_nat {α : Type} (xs : List α) (i j : Nat) (hi : i ≤ xs.length) (hj : j ≤ xs.length) : cutT xs (some i) (some j) = (xs.drop i).take (j - i) := by
  simp only [cutT, HT.sIx_nat]
  rw [Nat.min_eq_left hi, Nat.min_eq_left hj]
theorem ltS_irrefl {s : Str} : ltS s s = false := by simp [ltS]
theorem ltS_total {s t : Str} (h : s ≠ t) : ltS s t = true ∨ ltS t s = true := by
  unfold ltS
  simp only [decide_eq_true_eq]
  by_cases h1 : s.cps.toList < t.cps.toList
  · exact .inl h1
  · by_cases h2 : t.cps.toList < s.cps.toList
    · exact .inr h2
    · have h3 : s.cps.toList = t.cps.toList := List.le_antisymm (List.not_lt.mp h2) (List.not_lt.mp h1)
      exact absurd (by cases s; cases t; congr 1; exact Array.ext' h3) h
end MI
namespace MI
open PySem L2
theorem ltS_asymm {s t : Str} (h : ltS s t = true) : ltS t s = false := by
  unfold ltS at *
  simp only [decide_eq_true_eq, decide_eq_false_iff_not] at *
  exact fun h' => List.lt_irrefl (α := Nat) _ (List.lt_trans h h')
theorem chart_spec {n : Nat} {a b c : Int} {most sm dm : Nat} {Q : T × List T → Prop} (hj : JarOk n a b c) (hn : n ≤ 10000000) (m1 : 1 ≤ most) (m8 : most ≤ 8) (s1 : 1 ≤ sm) (s10 : sm ≤ 10) (d24 : dm ≤ 24)
    (k : ∀ (h : Chart) a' b' c', h.Wf → h.cols.length ≤ most → h.sums.length ≤ sm → h.data.length ≤ dm → JarOk (n + 200) a' b' c' → Q (.nd (.lst true) [h.kind.t, .nd (.lst false) (h.cols.map Col.l)], [jarT a' b' c'])) :
    EvO (c__law_chart [jarT a b c, .int most, .int sm, .int dm]) Q := by
  refine EvO_runB rfl ?_
  simp [m__law_chart]
  refine labels_spec hj (by omega) fun ls a1 b1 c1 hls hj1 => ?_
  simp
  refine dip_spec hj1 (by omega) (by omega) (by omega) fun mn a2 b2 c2 mn0 mn1 hj2 => ?_
  simp
  refine dip_spec hj2 (by omega) (by omega) (by omega) fun sn a3 b3 c3 sn0 sn1 hj3 => ?_
  simp
  obtain ⟨mn, rfl⟩ : ∃ m : Nat, mn = m := ⟨mn.toNat, by omega⟩
  obtain ⟨sn, rfl⟩ : ∃ m : Nat, sn = m := ⟨sn.toNat, by omega⟩
  have hll := hls.len
  rw [fCut_lst (by simp), show (9 + (sn : Int)) = ((9 + sn : Nat) : Int) by omega, show (8 : Int) = ((8 : Nat) : Int) from rfl, cutT_map, cutT_nat _ _ _ (by omega) (by omega)]
  generalize htg : (ls.drop 8).take (9 + sn - 8) = tags
  have htl : tags.length = sn + 1 := by rw [← htg, List.length_take, List.length_drop]; omega
  have htn : tags.Nodup := by rw [← htg]; exact (hls.nd.sublist (List.drop_sublist _ _)).sublist (List.take_sublist _ _)
  have htm : ∀ s ∈ tags, nameB s = true := fun s hs => hls.nm s (List.mem_of_mem_drop (List.mem_of_mem_take (by rw [htg]; exact hs)))
  simp
  rw [rng1_int (by omega) (by omega), rangeT_zero, show (1 + (mn : Int)).toNat = mn + 1 by omega]
  simp
  refine loop_inv (fun pre Ts => ∃ u, Ts = [jarT a3 b3 c3, .int most, .int sm, .int dm, .nd (.lst false) (ls.map T.str), .int (1 + mn), .nd (.lst false) (tags.map T.str), .nd (.lst true) ((pre.map fun k => Col.mk (ls.getD k Str.empty) [] []).map Col.o), u, .dead, .dead, .dead, .dead]) ⟨_, rfl⟩ ?_ ?_
  · rintro pre x post e Ts ⟨u, rfl⟩
    have hx : x < mn + 1 := by
      have : x ∈ List.range (mn + 1) := by rw [e]; simp
      simpa using this
    have hlen : pre.length < 16777216 := by
      have : (List.range (mn + 1)).length = pre.length + (post.length + 1) := by rw [e]; simp
      simp at this; omega
    simp [natT]
    rw [atI_of (k := x) rfl (by simp; omega)]
    simp [hlen]
    refine Inn.mk ⟨.int x, ?_⟩
    simp [Col.o, List.getElem?_eq_getElem (show x < ls.length by omega)]
  rintro Ts ⟨u1, rfl⟩
  simp
  -- the sums
  refine loop_inv (fun pre Ts => ∃ (cols : List Col) (a' b' c' : Int) (u u' : T), Ts = [jarT a' b' c', .int most, .int sm, .int dm, .nd (.lst false) (ls.map T.str), .int (1 + mn), .nd (.lst false) (tags.map T.str), .nd (.lst true) (cols.map Col.o), u, u', .dead, .dead, .dead] ∧ cols.map Col.name = ls.take (mn + 1) ∧ (cols.flatMap Col.sums).Perm pre ∧ cols.flatMap Col.data = [] ∧ JarOk (n + 4 + pre.length) a' b' c') ?_ ?_ ?_
  · refine ⟨(List.range (mn + 1)).map fun k => Col.mk (ls[k]?.getD Str.empty) [] [], a3, b3, c3, u1, .dead, ?_, ?_, ?_, ?_, hj3⟩
    · rw [List.map_map]
    · rw [List.map_map]
      apply List.ext_getElem?
      intro i
      by_cases hi : i < mn + 1
      · simp [hi]; rw [List.getElem?_eq_getElem (by omega)]; rfl
      · simp [hi]; omega
    · simp [List.flatMap]
    · simp [List.flatMap]
  · rintro pre x post e Ts ⟨cols, a', b', c', u, u', rfl, hnm, hsp, hdt, hjj⟩
    have hpl : pre.length < tags.length := by rw [e]; simp
    simp
    refine dip_spec hjj (by omega) (by omega) (by omega) fun d a5 b5 c5 d0 d1 hj5 => ?_
    have hcl : cols.length = mn + 1 := by
      have := congrArg List.length hnm
      simp at this; omega
    obtain ⟨cc, hcc⟩ : ∃ cc, cols[d.toNat]? = some cc := ⟨_, List.getElem?_eq_getElem (by omega)⟩
    have hsl : cc.sums.length < 16777216 := by
      have h1 := hsp.length_eq
      have h2 : cc.sums.length ≤ (cols.flatMap Col.sums).length := by
        have := List.mem_of_getElem? hcc
        exact (List.sublist_flatten_of_mem (List.mem_map_of_mem (f := Col.sums) this)).length_le
      omega
    simp
    rw [ixN_of d0 (by omega)]
    simp [hcc, Col.o, hsl]
    refine Inn.mk ⟨cols.set d.toNat { cc with sums := cc.sums ++ [x] }, a5, b5, c5, u, T.str x, ?_, ?_, ?_, ?_, ?_⟩
    · simp [List.map_set, Col.o, hcc]
    · exact (map_set_same Col.name { cc with sums := cc.sums ++ [x] } cols _ cc hcc rfl).trans hnm
    · exact (flatMap_set_perm Col.sums x _ cols _ cc hcc rfl).trans (hsp.append_right _)
    · exact (flatMap_set_same Col.data { cc with sums := cc.sums ++ [x] } cols _ cc hcc rfl).trans hdt
    · exact hj5.mono (by simp; omega)
  rintro Ts ⟨cols, a', b', c', u, u', rfl, hnm, hsp, hdt, hjj⟩
  simp
  -- the data
  have body : ∀ (N : Nat) (jn : Nat) (a' b' c' : Int), N ≤ dm → JarOk jn a' b' c' → jn ≤ n + 20 → tags.length > 1 → Ev (loopM (mPut 10) (mSeq (mPar 11 12 (mCons (mFrz (mCall c__law_one_of [(some 0), none] (mCons (mLn 0) (mCons (mIm (mRd 6)) mNil)))) (mCons (mFrz (mCall c__law_one_of [(some 0), none] (mCons (mLn 0) (mCons (mIm (mRd 6)) mNil)))) mNil))) (mIfS (asB (m2 fNe (mRd 11) (mRd 12))) (mDrop (mMut 7 (mStepL 7 (mStepL 7 (mHere 7) (mCall c__law_dip [(some 0), none] (mCons (mLn 0) (mCons (mIm (mRd 5)) mNil)))) (mC (.int 2))) isLst (mCons (mFrz (mTup (mCons (mF (MI.c2 fMin) (mCons (mRd 11) (mCons (mRd 12) mNil))) (mCons (mF (MI.c2 fMax) (mCons (mRd 11) (mCons (mRd 12) mNil))) mNil)))) mNil) fAppend)) (ret .nx))) ((List.range N).map natT))
      [jarT a' b' c', .int most, .int sm, .int dm, .nd (.lst false) (ls.map T.str), .int (1 + mn), .nd (.lst false) (tags.map T.str), .nd (.lst true) (cols.map Col.o), u, u', .dead, .dead, .dead]
      (fun fl Ts => fl = .nx ∧ ∃ (cols : List Col) (a' b' c' : Int) (u1 u2 u3 u4 u5 : T), Ts = [jarT a' b' c', .int most, .int sm, .int dm, .nd (.lst false) (ls.map T.str), .int (1 + mn), .nd (.lst false) (tags.map T.str), .nd (.lst true) (cols.map Col.o), u1, u2, u3, u4, u5] ∧ cols.map Col.name = ls.take (mn + 1) ∧ (cols.flatMap Col.sums).Perm tags ∧ (cols.flatMap Col.data).length ≤ N ∧ (∀ p ∈ cols.flatMap Col.data, p.1 ∈ tags ∧ p.2 ∈ tags ∧ ltS p.1 p.2 = true) ∧ JarOk (n + 150) a' b' c') := by
    intro N jn a' b' c' hN hjj hjn ht
    refine loop_inv (fun pre Ts => ∃ (cols : List Col) (a' b' c' : Int) (u1 u2 u3 u4 u5 : T), Ts = [jarT a' b' c', .int most, .int sm, .int dm, .nd (.lst false) (ls.map T.str), .int (1 + mn), .nd (.lst false) (tags.map T.str), .nd (.lst true) (cols.map Col.o), u1, u2, u3, u4, u5] ∧ cols.map Col.name = ls.take (mn + 1) ∧ (cols.flatMap Col.sums).Perm tags ∧ (cols.flatMap Col.data).length ≤ pre.length ∧ (∀ p ∈ cols.flatMap Col.data, p.1 ∈ tags ∧ p.2 ∈ tags ∧ ltS p.1 p.2 = true) ∧ JarOk (jn + 3 * pre.length) a' b' c') ⟨cols, a', b', c', u, u', .dead, .dead, .dead, rfl, hnm, hsp, by simp [hdt], by simp [hdt], hjj⟩ ?_ ?_
    · rintro pre x post e Ts ⟨cols, a', b', c', u1, u2, u3, u4, u5, rfl, hnm, hsp, hdl, hdp, hjj⟩
      have hpl : pre.length < N := by
        have := congrArg List.length e
        simp at this; omega
      have hcl : cols.length = mn + 1 := by
        have := congrArg List.length hnm
        simp at this; omega
      simp [natT]
      refine one_of_spec hjj (by omega) (by simp; omega) (by simp; omega) (by simp) fun i hi a2 b2 c2 hj2 => ?_
      simp
      refine one_of_spec hj2 (by omega) (by simp; omega) (by simp; omega) (by simp) fun i' hi' a3 b3 c3 hj3 => ?_
      simp at hi hi'
      have hm1 : tags[i] ∈ tags := List.getElem_mem _
      have hm2 : tags[i'] ∈ tags := List.getElem_mem _
      simp
      rw [fNe_ok (by simpa using okS_name (htm _ hm1)) (by simpa using okS_name (htm _ hm2))]
      simp
      split
      · exact Inn.mk ⟨cols, a3, b3, c3, u1, u2, _, _, _, rfl, hnm, hsp, by rw [List.length_append]; exact Nat.le_succ_of_le hdl, hdp, hj3.mono (by simp; omega)⟩
      · rename_i hne
        refine dip_spec hj3 (by omega) (by omega) (by omega) fun d a5 b5 c5 d0 d1 hj5 => ?_
        obtain ⟨cc, hcc⟩ : ∃ cc, cols[d.toNat]? = some cc := ⟨_, List.getElem?_eq_getElem (by omega)⟩
        have hsl : cc.data.length < 16777216 := by
          have h2 : cc.data.length ≤ (cols.flatMap Col.data).length := by
            have := List.mem_of_getElem? hcc
            exact (List.sublist_flatten_of_mem (List.mem_map_of_mem (f := Col.data) this)).length_le
          omega
        simp
        rw [ixN_of d0 (by omega)]
        simp [hcc, Col.o, hsl, fMin, fMax]
        obtain ⟨p, hp, hp1, hp2, hp3⟩ : ∃ p : Str × Str, pairT p = .nd .tup [.str (if ltS tags[i'] tags[i] = true then tags[i'] else tags[i]), .str (if ltS tags[i] tags[i'] = true then tags[i'] else tags[i])] ∧ p.1 ∈ tags ∧ p.2 ∈ tags ∧ ltS p.1 p.2 = true := by
          rcases ltS_total hne with h | h
          · have h' := ltS_asymm h
            exact ⟨(tags[i], tags[i']), by simp [pairT, h, h'], hm1, hm2, h⟩
          · have h' := ltS_asymm h
            exact ⟨(tags[i'], tags[i]), by simp [pairT, h, h'], hm2, hm1, h⟩
        rw [← hp]
        have hperm := flatMap_set_perm Col.data p { cc with data := cc.data ++ [p] } cols _ cc hcc rfl
        refine Inn.mk ⟨cols.set d.toNat { cc with data := cc.data ++ [p] }, a5, b5, c5, u1, u2, .int x, .str tags[i], .str tags[i'], ?_, ?_, ?_, ?_, ?_, hj5.mono (by simp; omega)⟩
        · simp [List.map_set, Col.o, hcc]
        · exact (map_set_same Col.name { cc with data := cc.data ++ [p] } cols _ cc hcc rfl).trans hnm
        · rw [flatMap_set_same Col.sums { cc with data := cc.data ++ [p] } cols _ cc hcc rfl]; exact hsp
        · rw [hperm.length_eq, List.length_append, List.length_append]; exact Nat.add_le_add_right hdl 1
        · intro q hq
          rcases List.mem_append.mp (hperm.mem_iff.mp hq) with hq | hq
          · exact hdp q hq
          · rw [List.mem_singleton.mp hq]; exact ⟨hp1, hp2, hp3⟩
    · rintro Ts ⟨cols, a', b', c', u1, u2, u3, u4, u5, rfl, hnm, hsp, hdl, hdp, hjj⟩
      simp only [List.length_range] at hdl hjj
      exact ⟨rfl, cols, a', b', c', u1, u2, u3, u4, u5, rfl, hnm, hsp, hdl, hdp, hjj.mono (by omega)⟩
  have fin : ∀ (cols : List Col) (a' b' c' : Int) (u1 u2 u3 u4 u5 : T), cols.map Col.name = ls.take (mn + 1) → (cols.flatMap Col.sums).Perm tags → (cols.flatMap Col.data).length ≤ dm → (∀ p ∈ cols.flatMap Col.data, p.1 ∈ tags ∧ p.2 ∈ tags ∧ ltS p.1 p.2 = true) → JarOk (n + 150) a' b' c' →
      Ev (mRet (mLst (mCons (mFrz (mCall c__law_some_kind [(some 0)] (mCons (mLn 0) mNil))) (mCons (mFz 7) mNil)))) [jarT a' b' c', .int most, .int sm, .int dm, .nd (.lst false) (ls.map T.str), .int (1 + mn), .nd (.lst false) (tags.map T.str), .nd (.lst true) (cols.map Col.o), u1, u2, u3, u4, u5] fun fl Ts => outO [0] fl Ts Q := by
    intro cols a' b' c' u1 u2 u3 u4 u5 hnm hsp hdl hdp hjj
    simp
    refine some_kind_spec hjj (by omega) fun kd a6 b6 c6 hk hj6 => ?_
    simp
    have hcl : cols.length = mn + 1 := by
      have := congrArg List.length hnm
      simp at this; omega
    refine k ⟨kd, cols⟩ _ _ _ ⟨hk, by show 1 ≤ cols.length; omega, by show cols.length ≤ 8; omega, ?_, ?_, ?_, ?_, ?_, ?_, by show (cols.flatMap Col.data).length ≤ 24; omega, ?_⟩ (by show cols.length ≤ most; omega) (by show (cols.flatMap Col.sums).length ≤ sm; rw [hsp.length_eq]; omega) (by show (cols.flatMap Col.data).length ≤ dm; omega) (hj6.mono (by omega))
    · show (cols.map Col.name).Nodup
      rw [hnm]; exact hls.nd.sublist (List.take_sublist _ _)
    · show ∀ s ∈ cols.map Col.name, _
      rw [hnm]; exact fun s hs => hls.nm s (List.mem_of_mem_take hs)
    · exact hsp.nodup_iff.mpr htn
    · exact fun s hs => htm s (hsp.mem_iff.mp hs)
    · show 1 ≤ (cols.flatMap Col.sums).length
      rw [hsp.length_eq]; omega
    · show (cols.flatMap Col.sums).length ≤ 10
      rw [hsp.length_eq]; omega
    · exact fun p hp => ⟨hsp.mem_iff.mpr (hdp p hp).1, hsp.mem_iff.mpr (hdp p hp).2.1, (hdp p hp).2.2⟩
  split
  · rename_i ht
    refine dip_spec hjj (by omega) (by omega) (by omega) fun d a5 b5 c5 d0 d1 hj5 => ?_
    simp
    rw [rng1_int (by omega) (by omega), rangeT_zero]
    simp
    refine (body d.toNat _ _ _ _ (by omega) hj5 (by omega) (by omega)).mono ?_
    rintro fl Ts ⟨rfl, cols, a', b', c', u1, u2, u3, u4, u5, rfl, hnm, hsp, hdl, hdp, hjj⟩
    exact fin cols a' b' c' u1 u2 u3 u4 u5 hnm hsp (by omega) hdp hjj
  · simp [rng1_int, rangeT_zero, loopM]
    simpa using fin cols a' b' c' u u' .dead .dead .dead hnm hsp (by simp [hdt]) (by simp [hdt]) (hjj.mono (by omega))
end MI
namespace MI
open PySem L2
theorem any_eqT_str {s : Str} : ∀ {xs : List Str}, (xs.map T.str).any (fun t => eqT t (.str s)) = decide (s ∈ xs)
  | [] => by simp
  | x :: xs => by
    rw [List.map_cons, List.any_cons, any_eqT_str, eqT_str]
    by_cases h : x = s
    · subst h; simp
    · have h' : ¬ s = x := fun z => h z.symm
      simp [h, h']
theorem all_flat_str {xs : List Str} : (xs.map T.str).all T.flat = true := by simp [T.flat]
theorem fIn_strs_tup {s : Str} {xs : List Str} : fIn (.str s) (.nd .tup (xs.map T.str)) = some (.bl (decide (s ∈ xs))) := by
  simp only [fIn, oe2, fInF, kids, all_flat_str, any_eqT_str]; rfl
theorem fIn_strs_lst {s : Str} {o : Bool} {xs : List Str} : fIn (.str s) (.nd (.lst o) (xs.map T.str)) = some (.bl (decide (s ∈ xs))) := by
  simp only [fIn, oe2, fInF, kids, all_flat_str, any_eqT_str]; rfl
theorem fNotIn_strs_tup {s : Str} {xs : List Str} : fNotIn (.str s) (.nd .tup (xs.map T.str)) = some (.bl (!decide (s ∈ xs))) := by
  simp only [fNotIn, oe2, fInF, kids, all_flat_str, any_eqT_str]; rfl
theorem fNotIn_strs_lst {s : Str} {o : Bool} {xs : List Str} : fNotIn (.str s) (.nd (.lst o) (xs.map T.str)) = some (.bl (!decide (s ∈ xs))) := by
  simp only [fNotIn, oe2, fInF, kids, all_flat_str, any_eqT_str]; rfl
@[simp] theorem isB_str_str {s : Str} : isB .str (.str s) = some (.bl true) := rfl
@[simp] theorem isB_str_int {s : Int} : isB .str (.int s) = some (.bl false) := rfl
@[simp] theorem isB_int_int {s : Int} : isB .int (.int s) = some (.bl true) := rfl
@[simp] theorem isB_int_str {s : Str} : isB .int (.str s) = some (.bl false) := rfl
@[simp] theorem isB_bool_int {s : Int} : isB .bool (.int s) = some (.bl false) := rfl
@[simp] theorem isB_tuple_tup {ts : List T} : isB .tuple (.nd .tup ts) = some (.bl true) := rfl
theorem fLen_str {s : Str} (h : s.length ≤ 16777216) : fLen (.str s) = some (.int s.length) := by simp [fLen, h]
theorem letters_mem (c : Nat) : (c ∈ (Str.ofString "abcdefghijklmnopqrstuvwxyz").cps.toList) ↔ (97 ≤ c ∧ c ≤ 122) := by
  rw [show (Str.ofString "abcdefghijklmnopqrstuvwxyz").cps.toList = List.range' 97 26 by decide +kernel, List.mem_range'_1]
  omega
/-! ### what goes through with numbers -/
def enumE {α : Type} (f : α → T) (p : α × Nat) : T := .nd .tup [.int (p.2 : Nat), f p.1]
theorem enumT_map {α : Type} (f : α → T) (xs : List α) : enumT (xs.map f) = xs.zipIdx.map (enumE f) := by
  unfold enumT enumE
  apply List.ext_getElem?
  intro i
  simp [List.getElem?_mapIdx]
  cases xs[i]? <;> simp
theorem zipIdx_split {α : Type} {xs : List α} {pre post : List (α × Nat)} {x : α × Nat} (e : xs.zipIdx = pre ++ x :: post) : ∃ a b, xs = a ++ x.1 :: b ∧ pre = a.zipIdx ∧ x.2 = a.length := by
  have e1 := congrArg (List.map Prod.fst) e
  simp only [List.zipIdx_map_fst, List.map_append, List.map_cons] at e1
  refine ⟨pre.map Prod.fst, post.map Prod.fst, e1, ?_, ?_⟩
  · apply List.ext_getElem?
    intro i
    by_cases hi : i < pre.length
    · have h1 : xs.zipIdx[i]? = pre[i]? := by rw [e, List.getElem?_append_left hi]
      rw [← h1, List.getElem?_zipIdx, List.getElem?_zipIdx, e1, List.getElem?_append_left (by simpa using hi)]
    · rw [List.getElem?_eq_none (by omega), List.getElem?_eq_none (by simp; omega)]
  · have h1 : xs.zipIdx[pre.length]? = some x := by rw [e]; simp
    rw [List.getElem?_zipIdx] at h1
    rw [List.length_map]
    cases q : xs[pre.length]? with
    | none => rw [q] at h1; cases h1
    | some y => rw [q] at h1; simp at h1; rw [← h1]
theorem enumF_tup {α : Type} {f : α → T} {xs : List α} (h : immL (xs.map f) = true) : enumF [.nd .tup (xs.map f)] = some (xs.zipIdx.map (enumE f)) := by
  simp only [enumF, kidsI_tup', h, if_true, Option.map_some, enumT_map]
theorem enumF_lst {α : Type} {f : α → T} {o : Bool} {xs : List α} (h : immL (xs.map f) = true) : enumF [.nd (.lst o) (xs.map f)] = some (xs.zipIdx.map (enumE f)) := by
  simp only [enumF, kidsI_lst', h, if_true, Option.map_some, enumT_map]
theorem is_one_of_str {s : Str} {xs : List Str} : c_is_one_of [.str s, .nd .tup (xs.map T.str)] = some (.bl (decide (s ∈ xs)), []) := by
  refine EvO.eq (EvO_runB rfl ?_)
  simp [m_is_one_of, fIn_strs_tup]
theorem is_one_of_strL {s : Str} {o : Bool} {xs : List Str} : c_is_one_of [.str s, .nd (.lst o) (xs.map T.str)] = some (.bl (decide (s ∈ xs)), []) := by
  refine EvO.eq (EvO_runB rfl ?_)
  simp [m_is_one_of, fIn_strs_lst]
theorem is_one_of_int {s : Int} {k : Kd} {ts : List T} : c_is_one_of [.int s, .nd k ts] = some (.bl false, []) := by
  refine EvO.eq (EvO_runB rfl ?_)
  simp [m_is_one_of]
@[simp] theorem is_integer_int {i : Int} : c_is_integer [.int i] = some (.bl true, []) := by
  refine EvO.eq (EvO_runB rfl ?_)
  simp [m_is_integer]
@[simp] theorem is_between_int {v lo hi : Int} : c_is_between [.int v, .int lo, .int hi] = some (.bl (decide (lo ≤ v) && decide (v ≤ hi)), []) := by
  refine EvO.eq (EvO_runB rfl ?_)
  simp [m_is_between]
  by_cases h : lo ≤ v <;> simp [h]
theorem is_kind_ok {k : Kind} (h : k.ok) : c_is_kind [k.t] = some (.bl true, []) := by
  refine EvO.eq (EvO_runB rfl ?_)
  cases k with
  | bits => simp [m_is_kind, Kind.t, is_one_of_str (xs := ["bits", "plain"]) (s := "bits")]; rw [show [T.str "bits", T.str "plain"] = List.map T.str ["bits", "plain"] from rfl, is_one_of_str]; simp
  | plain => simp [m_is_kind, Kind.t]; rw [show [T.str "bits", T.str "plain"] = List.map T.str ["bits", "plain"] from rfl, is_one_of_str]; simp
  | dial m =>
    simp [m_is_kind, Kind.t, is_one_of_int]
    exact h
theorem is_name_str {s : Str} (hl : s.length ≤ 16777216) : c_is_name [.str s] = some (.bl (nameB s), []) := by
  refine EvO.eq (EvO_runB rfl ?_)
  simp [m_is_name, fLen_str hl]
  unfold nameB
  by_cases h1 : (1 : Int) ≤ s.length
  · by_cases h2 : (s.length : Int) ≤ 8
    · have h1' : 1 ≤ s.length := by omega
      have h2' : s.length ≤ 8 := by omega
      simp [h1, h2, h1', h2', hl]
      refine lc_pure (enc := fun c : Nat => T.str ⟨#[c]⟩) (xs := s.cps.toList) (fun _ => true) (fun c => .bl (decide (97 ≤ c) && decide (c ≤ 122))) (by simp) (by show s.length ≤ sizeLine; simp; omega) (fun c _ => ?_) ?_
      · simp
        simp only [fIn, oe2, fInF, fInD, fInS, kids]
        simp
        have := letters_mem c
        simp only [Array.mem_toList_iff] at this
        simp [this]
      · simp [fBools_map, h1', h2']
    · have h2' : ¬ s.length ≤ 8 := by omega
      simp [h1, h2, h2']
  · have h1' : ¬ 1 ≤ s.length := by omega
    simp [h1, h1']
end MI
namespace MI
open PySem L2
theorem cN_nodup {xs : List Str} (h : xs.Nodup) : ∀ k, k ≤ xs.length → cN xs k = k
  | 0, _ => rfl
  | k + 1, hk => by
    have ih := cN_nodup h k (by omega)
    unfold cN
    rw [if_neg, ih]
    rw [Bool.not_eq_true, List.any_eq_false]
    intro y hy
    rw [List.getD_eq_getElem?_getD, List.getElem?_eq_getElem (show k < xs.length by omega)]
    obtain ⟨i, hi, rfl⟩ := List.getElem_of_mem hy
    rw [List.length_take] at hi
    rw [List.getElem_take]
    simp only [Option.getD_some, beq_iff_eq]
    intro e
    have := (List.getElem_inj h).mp e
    omega
theorem strsOf_map : ∀ xs : List Str, strsOf (xs.map T.str) = some xs
  | [] => rfl
  | x :: xs => by simp [strsOf, strsOf_map xs]
theorem fLenS_nodup {xs : List Str} (h : xs.Nodup) (hl : xs.length ≤ 4000) : fLenS (.nd .tup (xs.map T.str)) = some (.int xs.length) := by
  simp [fLenS, strsOf_map, hl, cN_nodup h xs.length (Nat.le_refl _)]
@[simp] theorem fEq_int {i j : Int} : fEq (.int i) (.int j) = some (.bl (decide (i = j))) := by rw [fEq_ok (by simp) (by simp)]; simp
@[simp] theorem fNe_int {i j : Int} : fNe (.int i) (.int j) = some (.bl (!decide (i = j))) := by rw [fNe_ok (by simp) (by simp)]; simp
theorem are_fresh_ok {xs tk : List Str} {o : Bool} (hn : ∀ s ∈ xs, nameB s = true) (ht : ∀ s ∈ xs, s ∉ tk) (hd : xs.Nodup) (hl : xs.length ≤ 4000) : c_are_fresh [.nd .tup (xs.map T.str), .nd (.lst o) (tk.map T.str)] = some (.bl true, []) := by
  refine EvO.eq (EvO_runB rfl ?_)
  simp [m_are_fresh]
  refine lc_pure (enc := T.str) (xs := xs) (fun _ => true) (fun _ => .bl true) (by simp) (by simp; omega) (fun s hs => ?_) ?_
  · simp [is_name_str (s := s) (by have := name_len (hn s hs); omega), hn s hs]
    rw [fNotIn_strs_lst]
    simp [ht s hs]
  · simp [fBools_map]
    simp [fLenS_nodup hd hl]
theorem is_column_ok {c : Col} {ns ss : List Str} {o : Bool} (h1 : nameB c.name = true) (h2 : c.name ∉ ns) (h3 : ∀ s ∈ c.sums, nameB s = true) (h4 : ∀ s ∈ c.sums, s ∉ ss) (h5 : c.sums.Nodup) (h6 : c.sums.length ≤ 4000) :
    c_is_column [c.t, .nd (.lst o) (ns.map T.str), .nd (.lst false) (ss.map T.str)] = some (.bl true, []) := by
  refine EvO.eq (EvO_runB rfl ?_)
  simp [m_is_column, Col.t]
  simp [is_name_str (s := c.name) (by have := name_len h1; omega), h1]
  rw [fIn_strs_lst]
  simp [h2]
  rw [are_fresh_ok h3 h4 h5 h6]
  simp
theorem form_until_ok {h : Chart} (w : h.Wf) : c_form_until [.nd .tup (h.cols.map Col.t)] = some (.non, []) := by
  refine EvO.eq (EvO_runB rfl ?_)
  simp [m_form_until]
  rw [enumF_tup (by simp)]
  simp
  refine loop_inv (fun pre Ts => ∃ ns ss u v, Ts = [.nd .tup (h.cols.map Col.t), .nd (.lst true) (ns.map T.str), .nd (.lst true) (ss.map T.str), u, v] ∧ ns = pre.map (fun p => p.1.name) ∧ ss = pre.flatMap fun p => p.1.sums) ⟨[], [], .dead, .dead, rfl, rfl, rfl⟩ ?_ ?_
  · rintro pre ⟨c, i⟩ post e Ts ⟨ns, ss, u, v, rfl, ens, ess⟩
    obtain ⟨a, b, ea, rfl, rfl⟩ := zipIdx_split e
    have hn := w.nd
    have hs := w.sd
    have hc8 := w.c8
    have hs10 := w.s10
    unfold Chart.names at hn
    unfold Chart.sums at hs hs10
    rw [ea] at hn hs hs10 hc8
    simp only [List.map_append, List.map_cons, List.flatMap_append, List.flatMap_cons, List.nodup_append, List.nodup_cons, List.length_append, List.length_cons] at hn hs hs10 hc8
    have m1 : c.name ∈ h.names := by unfold Chart.names; rw [ea]; simp
    have m2 : ∀ s ∈ c.sums, s ∈ h.sums := fun s hs => by unfold Chart.sums; rw [ea]; simp [hs]
    have e1 : ns = a.map Col.name := by
      rw [ens, show (fun p : Col × Nat => p.1.name) = Col.name ∘ Prod.fst from rfl, ← List.map_map, List.zipIdx_map_fst]
    have e2 : ss = a.flatMap Col.sums := by
      rw [ess, List.flatMap_def, List.flatMap_def, show (fun p : Col × Nat => p.1.sums) = Col.sums ∘ Prod.fst from rfl, ← List.map_map, List.zipIdx_map_fst]
    have hi : ¬ (8 : Int) ≤ a.length := by omega
    have l1 : ns.length < 16777216 := by rw [e1, List.length_map]; omega
    have l2 : ss.length + c.sums.length ≤ 16777216 := by rw [e2]; omega
    simp [enumE, hi]
    rw [is_column_ok (c := c) (ns := ns) (ss := ss) (o := false) (w.nm _ m1) (fun z => hn.2.2 _ (e1 ▸ z) _ List.mem_cons_self rfl) (fun s q => w.sn _ (m2 s q)) (fun s q z => hs.2.2 _ (e2 ▸ z) _ (List.mem_append_left _ q) rfl) hs.2.1.1 (by omega)]
    simp [T.nofz, nofzL, Col.t, l1, l2]
    refine Inn.mk ⟨ns ++ [c.name], ss ++ c.sums, .int a.length, c.t, ?_, ?_, ?_⟩
    · simp [Col.t]
    · rw [ens]; simp
    · rw [ess]; simp
  · rintro Ts ⟨ns, ss, u, v, rfl, _, _⟩
    simp
end MI
namespace MI
open PySem L2
theorem are_different_ok {xs ys : List Str} {o : Bool} (hn : ∀ s ∈ xs, s ∈ ys) (hd : xs.Nodup) (hl : xs.length ≤ 4000) : c_are_different [.nd .tup (xs.map T.str), .nd (.lst false) (ys.map T.str)] = some (.bl true, []) := by
  refine EvO.eq (EvO_runB rfl ?_)
  simp [m_are_different]
  refine lc_pure (enc := T.str) (xs := xs) (fun _ => true) (fun _ => .bl true) (by simp) (by simp; omega) (fun s hs => ?_) ?_
  · simp [is_one_of_strL, hn s hs]
  · simp [fBools_map]
    simp [fLenS_nodup hd hl]
@[simp] theorem fLt_str {s t : Str} : fLt (.str s) (.str t) = some (.bl (ltS s t)) := rfl
theorem is_pair_ok {ys : List Str} {p : Str × Str} (h1 : p.1 ∈ ys) (h2 : p.2 ∈ ys) (h3 : ltS p.1 p.2 = true) : c_is_pair [.nd (.lst false) (ys.map T.str), pairT p] = some (.bl true, []) := by
  refine EvO.eq (EvO_runB rfl ?_)
  have hne : p.1 ≠ p.2 := fun z => by rw [z, ltS_irrefl] at h3; cases h3
  simp [m_is_pair, pairT]
  rw [show [T.str p.1, T.str p.2] = [p.1, p.2].map T.str from rfl, are_different_ok (o := false) (by simp [h1, h2]) (by simp [hne]) (by simp)]
  simp [h3]
theorem data_until_ok {h : Chart} (w : h.Wf) : c_data_until [.nd .tup (h.cols.map Col.t)] = some (.non, []) := by
  refine EvO.eq (EvO_runB rfl ?_)
  simp [m_data_until]
  refine lc2_inv (enc := Col.t) (xs := h.cols) (fun pre acc Ts => acc = (pre.flatMap Col.sums).map T.str ∧ Ts = [.nd .tup (h.cols.map Col.t), .dead, .dead, .dead, .dead, .dead, .dead, .dead]) (by simp) (by simp) ?_ ?_
  · rintro pre c post e acc Ts ⟨rfl, rfl⟩
    have hs10 := w.s10
    unfold Chart.sums at hs10
    rw [e] at hs10
    simp only [List.flatMap_append, List.flatMap_cons, List.length_append] at hs10
    simp [Col.t]
    refine lcM_pure (enc := T.str) (xs := c.sums) (fun _ => true) T.str (by rw [List.length_map]; simp only [sizeLine_val]; omega) (fun s hs => ?_) ?_
    · simp
    · refine Inn.mk ⟨by simp, by simp⟩
  · rintro acc Ts' ⟨rfl, rfl⟩
    simp
    rw [show (h.cols.flatMap Col.sums) = h.sums from rfl, enumF_tup (by simp)]
    simp
    refine loop_inv (fun pre Ts => ∃ (m k : Nat) (c u v : T), Ts = [.nd .tup (h.cols.map Col.t), c, .dead, .dead, .nd (.lst false) (h.sums.map T.str), .int m, .int k, u] ∧ m = (pre.flatMap fun p => p.1.sums).length ∧ k = (pre.flatMap fun p => p.1.data).length ∧ hidOk c = true) ⟨0, 0, .dead, .dead, .dead, rfl, rfl, rfl, rfl⟩ ?_ ?_
    · rintro pre ⟨c, i⟩ post e Ts ⟨m, k, c', u, v, rfl, em, ek, hc'⟩
      obtain ⟨a, b, ea, rfl, rfl⟩ := zipIdx_split e
      have hs10 := w.s10
      have hd24 := w.d24
      unfold Chart.sums at hs10
      unfold Chart.data at hd24
      rw [ea] at hs10 hd24
      simp only [List.flatMap_append, List.flatMap_cons, List.length_append] at hs10 hd24
      have e1 : m = (a.flatMap Col.sums).length := by
        rw [em, List.flatMap_def, List.flatMap_def, show (fun p : Col × Nat => p.1.sums) = Col.sums ∘ Prod.fst from rfl, ← List.map_map, List.zipIdx_map_fst]
      have e2 : k = (a.flatMap Col.data).length := by
        rw [ek, List.flatMap_def, List.flatMap_def, show (fun p : Col × Nat => p.1.data) = Col.data ∘ Prod.fst from rfl, ← List.map_map, List.zipIdx_map_fst]
      have hm : ¬ (10 : Int) < m + c.sums.length := by omega
      have hk : ¬ (24 : Int) < k + c.data.length := by omega
      have hp : ∀ p ∈ c.data, p ∈ h.data := fun p q => by unfold Chart.data; rw [ea]; simp [q]
      simp [enumE, Col.t, hm, hk]
      refine lc_pure (enc := pairT) (xs := c.data) (fun _ => true) (fun _ => .bl true) (by simp) (by simp; omega) (fun p q => ?_) ?_
      · have := w.dp p (hp p q)
        simp [is_pair_ok this.1 this.2.1 this.2.2]
      · simp [fBools_map]
        refine Inn.mk ⟨m + c.sums.length, k + c.data.length, c.t, .int a.length, .dead, ?_, ?_, ?_, by simp [Col.t]⟩
        · simp [Col.t]
        · rw [em]; simp
        · rw [ek]; simp
    · rintro Ts ⟨m, k, c, u, v, rfl, _, _, _⟩
      simp
theorem rngL2_nat {i j : Nat} (hi : i ≤ 1000000) (hj : j ≤ 1000000) : fRngL2 (.int i) (.int j) = some (.nd (.lst true) ((List.range' i (j - i)).map natT)) := by
  unfold fRngL2
  rw [← rangeT_nat]
  exact if_pos ⟨by omega, by omega, by omega, by omega⟩
@[simp] theorem fzL_natT {l : List Nat} : fzL (l.map natT) = l.map natT := fzL_imm _ immL_natT
@[simp] theorem fz_natT {n : Nat} : (natT n).fz = natT n := T.fz_imm _ imm_natT
theorem partsFrom_append : ∀ (a b : List Col) (n : Nat), partsFrom n (a ++ b) = partsFrom n a ++ partsFrom (n + (a.flatMap Col.data).length) b
  | [], b, n => by simp [partsFrom]
  | c :: a, b, n => by
    rw [List.cons_append, partsFrom, partsFrom, partsFrom_append a b]
    simp only [List.flatMap_cons, List.length_append, List.cons_append, Nat.add_assoc]
theorem partsFrom_length : ∀ (a : List Col) (n : Nat), (partsFrom n a).length = a.length
  | [], _ => rfl
  | c :: a, n => by rw [partsFrom, List.length_cons, List.length_cons, partsFrom_length a]
theorem parts_from_ok {h : Chart} (w : h.Wf) : c_parts_from [.nd .tup (h.cols.map Col.t)] = some (.nd .tup (h.parts.map cellsT), []) := by
  refine EvO.eq (EvO_runB rfl ?_)
  simp [m_parts_from]
  refine loop_inv (enc := Col.t) (fun pre Ts => ∃ (ps : List (List Cell)) (k : Nat) (u1 u2 u3 u4 : T), Ts = [.nd .tup (h.cols.map Col.t), .dead, .nd (.lst true) (ps.map cellsT), .int k, u1, u2, u3, u4] ∧ ps = partsFrom 0 pre ∧ k = (pre.flatMap Col.data).length) ⟨[], 0, .dead, .dead, .dead, .dead, rfl, rfl, rfl⟩ ?_ ?_
  · rintro pre c post e Ts ⟨ps, k, u1, u2, u3, u4, rfl, eps, ek⟩
    have hd24 := w.d24
    have hs10 := w.s10
    have hc8 := w.c8
    unfold Chart.data at hd24
    unfold Chart.sums at hs10
    rw [e] at hd24 hs10 hc8
    simp only [List.flatMap_append, List.flatMap_cons, List.length_append, List.length_cons] at hd24 hs10 hc8
    have hpl : ps.length < 16777216 := by rw [eps, partsFrom_length]; omega
    simp [Col.t]
    rw [show ((k : Int) + (c.data.length : Int)) = ((k + c.data.length : Nat) : Int) by omega, rngL2_nat (by omega) (by omega)]
    simp
    refine lc_pure (enc := T.str) (xs := c.sums) (fun _ => true) (fun s => (Cell.sum s).t) (by simp) (by simp; omega) (fun s q => ?_) ?_
    · simp [Cell.t]
    · simp
      rw [show (c.sums.map fun s => (Cell.sum s).t) = (c.sums.map Cell.sum).map Cell.t by rw [List.map_map]; rfl]
      simp [-List.map_map]
      refine lc_pure (enc := natT) (xs := List.range' k c.data.length) (fun _ => true) (fun s => (Cell.datum s).t) (by simp) (by simp; omega) (fun s q => ?_) ?_
      · simp [Cell.t, natT]
      · simp [-List.map_map]
        rw [show ((List.range' k c.data.length).map fun s => (Cell.datum s).t) = ((List.range' k c.data.length).map Cell.datum).map Cell.t by rw [List.map_map]; rfl]
        have hln : c.sums.length + c.data.length ≤ 16777216 := by omega
        simp [-List.map_map, hpl, hln]
        refine Inn.mk ⟨ps ++ [c.sums.map Cell.sum ++ (List.range' k c.data.length).map Cell.datum], k + c.data.length, .str c.name, .nd .tup (c.sums.map T.str), .nd .tup (c.data.map pairT), .nd (.lst false) ((List.range' k c.data.length).map natT), ?_, ?_, ?_⟩
        · simp [cellsT]
        · rw [partsFrom_append, eps, ek]; simp [partsFrom]
        · rw [ek]; simp
  · rintro Ts ⟨ps, k, u1, u2, u3, u4, rfl, eps, ek⟩
    simp
    rw [eps]; rfl
end MI
namespace MI
open PySem L2
@[simp] theorem okD_nd {n : Nat} {k : Kd} {ts : List T} : okD (n + 1) (.nd k ts) = (k.seq && okDL n ts) := by simp [okD]
@[simp] theorem okDL_nil {n : Nat} : okDL n [] = true := by cases n <;> simp [okDL]
@[simp] theorem okDL_cons {n : Nat} {t : T} {ts : List T} : okDL n (t :: ts) = (okD n t && okDL n ts) := by cases n <;> simp [okDL]
@[simp] theorem okDL_append {n : Nat} {us : List T} : ∀ {ts : List T}, okDL n (ts ++ us) = (okDL n ts && okDL n us)
  | [] => by simp
  | t :: ts => by simp [okDL_append (ts := ts), Bool.and_assoc]
theorem okDL_map {α : Type} {n : Nat} {f : α → T} : ∀ {xs : List α}, (∀ x ∈ xs, okD n (f x) = true) → okDL n (xs.map f) = true
  | [], _ => by simp
  | x :: xs, h => by rw [List.map_cons, okDL_cons, h x List.mem_cons_self, okDL_map (fun y hy => h y (List.mem_cons_of_mem _ hy))]; rfl
@[simp] theorem seq_tup : Kd.seq .tup = true := rfl
@[simp] theorem seq_lst {o : Bool} : Kd.seq (.lst o) = true := rfl
theorem okDL_ints {n : Nat} {xs : List Int} : okDL n (xs.map T.int) = true := okDL_map fun _ _ => okD_int
theorem okDL_strs {n : Nat} {xs : List Str} (h : ∀ s ∈ xs, okS s = true) : okDL n (xs.map T.str) = true := okDL_map fun s hs => by rw [okD_str]; exact h s hs
@[simp] theorem toDL_nil : toDL [] = [] := by simp [toDL]
@[simp] theorem toDL_cons {t : T} {ts : List T} : toDL (t :: ts) = toD t :: toDL ts := by simp [toDL]
@[simp] theorem toD_tup {ts : List T} : toD (.nd .tup ts) = .tuple (toDL ts) := by simp [toD, Kd.isTup]
@[simp] theorem toD_lst {o : Bool} {ts : List T} : toD (.nd (.lst o) ts) = .list (toDL ts) := by simp [toD, Kd.isTup]
theorem toDL_map {α : Type} {f : α → T} : ∀ {xs : List α}, toDL (xs.map f) = xs.map fun x => toD (f x)
  | [] => by simp
  | x :: xs => by rw [List.map_cons, toDL_cons, toDL_map]; rfl
theorem eqT_tup_nil {ts : List T} : eqT (.nd .tup ts) (.nd .tup []) = ts.isEmpty := by
  cases ts <;> simp [eqT, PyData.eqv, PyData.eqvAll]
@[simp] theorem fIsNot_non : fIsNot .non .non = some (.bl false) := rfl
@[simp] theorem fIs_non : fIs .non .non = some (.bl true) := rfl
/-- the table, just made -/
def Chart.tabO (h : Chart) : T := .nd (.ins true "Table" ["kind", "columns", "held"]) [h.kind.t, .nd .tup (h.cols.map Col.t), .nd .tup (h.parts.map cellsT)]
@[simp] theorem fz_tabO {h : Chart} : h.tabO.fz = h.tab := by simp [Chart.tabO, Chart.tab]
@[simp] theorem live_tabO {h : Chart} : h.tabO.live = true := rfl
theorem okD_colT {n : Nat} {c : Col} (h1 : nameB c.name = true) (h2 : ∀ s ∈ c.sums, nameB s = true) (h3 : ∀ p ∈ c.data, nameB p.1 = true ∧ nameB p.2 = true) : okD (n + 3) c.t = true := by
  simp [Col.t, okS_name h1, okDL_strs (fun s hs => okS_name (h2 s hs))]
  refine okDL_map fun p hp => ?_
  simp [pairT, okS_name (h3 p hp).1, okS_name (h3 p hp).2]
theorem Chart.Wf.okC {h : Chart} (w : h.Wf) {n : Nat} : okDL (n + 3) (h.cols.map Col.t) = true := by
  refine okDL_map fun c hc => okD_colT (w.nm _ (List.mem_map_of_mem hc)) (fun s hs => w.sn s (List.mem_flatMap.mpr ⟨c, hc, hs⟩)) fun p hp => ?_
  have := w.dp p (List.mem_flatMap.mpr ⟨c, hc, hp⟩)
  exact ⟨w.sn _ this.1, w.sn _ this.2.1⟩
theorem ne_kc : ¬ (Str.ofString "kind" = Str.ofString "columns") := by decide +kernel
theorem ne_kh : ¬ (Str.ofString "kind" = Str.ofString "held") := by decide +kernel
theorem ne_ch : ¬ (Str.ofString "columns" = Str.ofString "held") := by decide +kernel
theorem table_init {h : Chart} (w : h.Wf) : c_Table___init__ [.nd (.ins true "Table" []) [], h.kind.t, .nd .tup (h.cols.map Col.t)] = some (.non, [h.tabO]) := by
  refine EvO.eq (EvO_runB rfl ?_)
  have c1 := w.c1
  have hne : h.cols ≠ [] := fun z => by rw [z] at c1; simp at c1
  simp [m_Table___init__, is_kind_ok w.k]
  rw [fEq_ok (by simp [w.okC]) (by simp), eqT_tup_nil]
  simp [hne, form_until_ok w]
  refine lc_pure (enc := Col.t) (xs := h.cols) (fun _ => true) (fun c => .bl (decide (c.sums = []))) (by simp) (by have := w.c8; simp; omega) (fun c hc => ?_) ?_
  · simp [Col.t]
    rw [fEq_ok (by simp [okDL_strs (fun s hs => okS_name (w.sn s (List.mem_flatMap.mpr ⟨c, hc, hs⟩)))]) (by simp), eqT_tup_nil]
    simp
    cases c.sums <;> simp
  · have hs : ¬ ∀ c ∈ h.cols, c.sums = [] := fun z => by
      have s1 := w.s1
      have : h.sums = [] := by
        unfold Chart.sums
        rw [List.flatMap_eq_nil_iff]; exact z
      rw [this] at s1; simp at s1
    simp [fBools_map, hs, data_until_ok w]
    simp [fFl, putN, parts_from_ok w, ne_kc, ne_kh, ne_ch]
    rfl
theorem made_ok {h : Chart} (w : h.Wf) : c__law_made [h.l] = some (h.tabO, []) := by
  refine EvO.eq (EvO_runB rfl ?_)
  have c8 := w.c8
  simp [m__law_made, Chart.l]
  refine lc_pure (enc := Col.l) (xs := h.cols) (fun _ => true) Col.t (by simp) (by simp; omega) (fun c hc => ?_) ?_
  · simp [Col.l, Col.t]
  · simp [table_init w]
theorem pairs_ok {h : Chart} (w : h.Wf) : c__law_pairs [h.l] = some (.nd (.lst false) (h.data.map pairT), []) := by
  refine EvO.eq (EvO_runB rfl ?_)
  simp [m__law_pairs, Chart.l]
  refine loop_inv (enc := Col.l) (fun pre Ts => ∃ (ps : List (Str × Str)) (u1 u2 u3 : T), Ts = [.nd (.lst false) [h.kind.t, .nd (.lst false) (h.cols.map Col.l)], .nd (.lst false) (ps.map pairT), u1, u2, u3] ∧ ps = pre.flatMap Col.data) ⟨[], .dead, .dead, .dead, rfl, rfl⟩ ?_ ?_
  · rintro pre c post e Ts ⟨ps, u1, u2, u3, rfl, eps⟩
    have d24 := w.d24
    unfold Chart.data at d24
    rw [e] at d24
    simp only [List.flatMap_append, List.flatMap_cons, List.length_append] at d24
    have hl : ps.length + c.data.length ≤ 16777216 := by rw [eps]; omega
    simp [Col.l, hl]
    refine Inn.mk ⟨ps ++ c.data, .str c.name, .nd (.lst false) (c.sums.map T.str), .nd (.lst false) (c.data.map pairT), ?_, ?_⟩
    · simp
    · rw [eps]; simp
  · rintro Ts ⟨ps, u1, u2, u3, rfl, eps⟩
    simp [eps, Chart.data]
end MI
namespace MI
open PySem L2
/-- a value of a cell; b: the bound for plain ones -/
def Kind.val (k : Kind) (b : Int) (v : Int) : Prop := match k with
  | .bits => 0 ≤ v ∧ v ≤ 2 ^ 60 - 1
  | .plain => -b ≤ v ∧ v ≤ b
  | .dial m => 0 ≤ v ∧ v ≤ m - 1
theorem mod_ok {m v : Int} (h : 3 ≤ m) : 0 ≤ v % m ∧ v % m ≤ m - 1 := ⟨Int.emod_nonneg _ (by omega), by have := Int.emod_lt_of_pos v (show 0 < m by omega); omega⟩
@[simp] theorem fPow_int {i j : Int} : fII iPow (.int i) (.int j) = if 0 ≤ j ∧ j ≤ 1000 ∧ i.natAbs ≤ 1000000 then some (.int (i ^ j.toNat)) else none := by
  simp only [fII, iPow]; split <;> simp_all
@[simp] theorem eqT_bits {k : Kind} : eqT k.t (.str "bits") = decide (k = .bits) := by
  cases k <;> simp [Kind.t]
  decide +kernel
@[simp] theorem eqT_plain {k : Kind} : eqT k.t (.str "plain") = decide (k = .plain) := by
  cases k <;> simp [Kind.t]
  decide +kernel
theorem okD_kind {n : Nat} {k : Kind} : okD n k.t = true := by
  cases k <;> simp [Kind.t] <;> decide +kernel
theorem okS_bits : okS "bits" = true := by decide +kernel
theorem okS_plain : okS "plain" = true := by decide +kernel
@[simp] theorem fEq_bits {k : Kind} : fEq k.t (.str "bits") = some (.bl (decide (k = .bits))) := by rw [fEq_ok okD_kind (by rw [okD_str]; exact okS_bits), eqT_bits]
@[simp] theorem fEq_plain {k : Kind} : fEq k.t (.str "plain") = some (.bl (decide (k = .plain))) := by rw [fEq_ok okD_kind (by rw [okD_str]; exact okS_plain), eqT_plain]
end MI
namespace MI
open PySem L2
theorem cells_len (h : Chart) : h.cells.length = h.sums.length + h.data.length := by
  have : ∀ (cs : List Col) (n : Nat), (partsFrom n cs).flatten.length = (cs.flatMap Col.sums).length + (cs.flatMap Col.data).length := fun cs => by
    induction cs with
    | nil => intro n; rfl
    | cons c cs ih =>
      intro n
      rw [partsFrom, List.flatten_cons, List.length_append, ih, List.flatMap_cons, List.flatMap_cons, List.length_append, List.length_append, List.length_append, List.length_map, List.length_map, List.length_range']
      omega
  exact this h.cols 0
theorem places_ok {h : Chart} (w : h.Wf) : c__law_places [h.l] = some (.nd (.lst false) (h.cells.map Cell.t), []) := by
  refine EvO.eq (EvO_runB rfl ?_)
  simp [m__law_places, Chart.l]
  refine loop_inv (enc := Col.l) (fun pre Ts => ∃ (ps : List Cell) (k : Nat) (u1 u2 u3 : T), Ts = [.nd (.lst false) [h.kind.t, .nd (.lst false) (h.cols.map Col.l)], .dead, .dead, .nd (.lst false) (ps.map Cell.t), .int k, u1, u2, u3] ∧ ps = (partsFrom 0 pre).flatten ∧ k = (pre.flatMap Col.data).length) ⟨[], 0, .dead, .dead, .dead, rfl, rfl, rfl⟩ ?_ ?_
  · rintro pre c post e Ts ⟨ps, k, u1, u2, u3, rfl, eps, ek⟩
    have d24 := w.d24
    have s10 := w.s10
    unfold Chart.data at d24
    unfold Chart.sums at s10
    rw [e] at d24 s10
    simp only [List.flatMap_append, List.flatMap_cons, List.length_append] at d24 s10
    have hl := cells_len ⟨h.kind, pre⟩
    have hl : ps.length = (pre.flatMap Col.sums).length + (pre.flatMap Col.data).length := by rw [eps]; exact hl
    simp [Col.l]
    refine lc_pure (enc := T.str) (xs := c.sums) (fun _ => true) (fun s => (Cell.sum s).t) (by simp) (by simp; omega) (fun s q => ?_) ?_
    · simp [Cell.t]
    rw [filter_tt, show (c.sums.map fun s => (Cell.sum s).t) = (c.sums.map Cell.sum).map Cell.t by rw [List.map_map]; rfl]
    have h1 : ps.length + c.sums.length ≤ 16777216 := by omega
    simp [-List.map_map, h1]
    rw [rng1_int (by omega) (by omega), rangeT_zero]
    simp [-List.map_map]
    refine lc_pure (enc := natT) (xs := List.range c.data.length) (fun _ => true) (fun s => (Cell.datum (k + s)).t) (by simp) (by simp; omega) (fun s q => ?_) ?_
    · simp [Cell.t, natT]
    rw [filter_tt, show ((List.range c.data.length).map fun s => (Cell.datum (k + s)).t) = ((List.range' k c.data.length).map Cell.datum).map Cell.t by rw [List.range'_eq_map_range, List.map_map, List.map_map]; rfl]
    have h2 : ps.length + (c.sums.length + c.data.length) ≤ 16777216 := by omega
    simp [-List.map_map, h2]
    refine ⟨by omega, Inn.mk ?_⟩
    refine ⟨ps ++ (c.sums.map Cell.sum ++ (List.range' k c.data.length).map Cell.datum), k + c.data.length, .str c.name, .nd (.lst false) (c.sums.map T.str), .nd (.lst false) (c.data.map pairT), ?_, ?_, ?_⟩
    · simp
    · rw [partsFrom_append, List.flatten_append, eps, ek]; simp [partsFrom]
    · rw [ek]; simp
  · rintro Ts ⟨ps, k, u1, u2, u3, rfl, eps, ek⟩
    simp
    rw [eps]; rfl
/-- values put together -/
def Kind.tog (k : Kind) (vs : List Int) : Int := match k with
  | .bits => vs.foldl Builtin.bitXor 0
  | .plain => vs.sum
  | .dial m => vs.sum % m
theorem foldl_append_one {α β : Type} (f : β → α → β) (b : β) (xs : List α) (x : α) : (xs ++ [x]).foldl f b = f (xs.foldl f b) x := by simp
theorem sum_append_one (xs : List Int) (x : Int) : (xs ++ [x]).sum = xs.sum + x := by simp
theorem law_together_ok {k : Kind} {vs : List Int} (hk : k.ok) : c__law_together [k.t, .nd (.lst false) (vs.map T.int)] = some (.int (k.tog vs), []) := by
  refine EvO.eq (EvO_runB rfl ?_)
  simp [m__law_together]
  refine loop_inv (enc := T.int) (fun pre Ts => ∃ (g : Int) (u : T), Ts = [k.t, .nd (.lst false) (vs.map T.int), .int g, u] ∧ g = (if k = .bits then pre.foldl Builtin.bitXor 0 else pre.sum)) ⟨0, .dead, rfl, by simp⟩ ?_ ?_
  · rintro pre x post e Ts ⟨g, u, rfl, eg⟩
    simp
    by_cases hb : k = .bits
    · subst hb
      simp
      refine Inn.mk ⟨Builtin.bitXor g x, .int x, rfl, ?_⟩
      rw [foldl_append_one, eg, if_pos rfl]
    · simp [hb]
      refine Inn.mk ⟨g + x, .int x, rfl, ?_⟩
      rw [sum_append_one, eg]
      cases k <;> simp_all
  · rintro Ts ⟨g, u, rfl, eg⟩
    cases k with
    | bits =>
      simp [Kind.t]
      rw [show [T.str "bits", T.str "plain"] = (["bits", "plain"] : List Str).map T.str from rfl, fIn_strs_lst]
      simp [eg, Kind.tog]
    | plain =>
      simp [Kind.t]
      rw [show [T.str "bits", T.str "plain"] = (["bits", "plain"] : List Str).map T.str from rfl, fIn_strs_lst]
      simp [eg, Kind.tog]
    | dial m =>
      have m3 : 3 ≤ m ∧ m ≤ 1000000000 := hk
      simp [Kind.t]
      simp [fIn, oe2, fInF, kids, T.flat, fMod_int (show 0 < m by omega), eg, Kind.tog]
def inP (s : Str) (p : Str × Str) : Bool := decide (s = p.1) || decide (s = p.2)
theorem fIn_pair {s : Str} {p : Str × Str} : fIn (.str s) (pairT p) = some (.bl (inP s p)) := by
  have := fIn_strs_tup (s := s) (xs := [p.1, p.2])
  simp only [List.map_cons, List.map_nil] at this
  rw [pairT, this]
  simp [inP]
def dataIn (d : List (Str × Str)) (s : Str) : List Nat := (List.range d.length).filter fun k => inP s (d.getD k (Str.empty, Str.empty))
/-- the value that data values give a cell -/
def Chart.cv (h : Chart) (vs : List Int) : Cell → Int
  | .sum s => h.kind.tog ((dataIn h.data s).map fun k => vs.getD k 0)
  | .datum n => vs.getD n 0
def Chart.full (h : Chart) (vs : List Int) : List Int := h.cells.map (h.cv vs)
theorem cells_mem {h : Chart} {c : Cell} (hc : c ∈ h.cells) : match c with
    | .sum s => s ∈ h.sums
    | .datum n => n < h.data.length := by
  have key : ∀ (cs : List Col) (n : Nat), c ∈ (partsFrom n cs).flatten → match c with
    | .sum s => s ∈ cs.flatMap Col.sums
    | .datum k => k < n + (cs.flatMap Col.data).length := fun cs => by
    induction cs with
    | nil => intro n h; simp [partsFrom] at h
    | cons d cs ih =>
      intro n h
      rw [partsFrom, List.flatten_cons, List.mem_append, List.mem_append] at h
      rcases h with (h | h) | h
      · obtain ⟨s, hs, rfl⟩ := List.mem_map.mp h
        simp [hs]
      · obtain ⟨s, hs, rfl⟩ := List.mem_map.mp h
        rw [List.mem_range'_1] at hs
        simp only [List.flatMap_cons, List.length_append]; omega
      · have := ih _ h
        cases c with
        | sum s => simp only [List.flatMap_cons]; exact List.mem_append_right _ this
        | datum k => simp only [List.flatMap_cons, List.length_append] at this ⊢; omega
  have := key h.cols 0 hc
  cases c with
  | sum s => exact this
  | datum k => rw [Nat.zero_add] at this; exact this
@[simp] theorem okS_datum : okS "datum" = true := by decide +kernel
@[simp] theorem okS_sum : okS "sum" = true := by decide +kernel
@[simp] theorem ne_sum_datum : ¬ (Str.ofString "sum" = Str.ofString "datum") := by decide +kernel
@[simp] theorem ne_datum_sum : ¬ (Str.ofString "datum" = Str.ofString "sum") := by decide +kernel
@[simp] theorem fEq_sum_datum : fEq (.str "sum") (.str "datum") = some (.bl false) := by rw [fEq_ok (by simp) (by simp)]; simp
@[simp] theorem fEq_datum_datum : fEq (.str "datum") (.str "datum") = some (.bl true) := by rw [fEq_ok (by simp) (by simp)]; simp
@[simp] theorem fEq_sum_sum : fEq (.str "sum") (.str "sum") = some (.bl true) := by rw [fEq_ok (by simp) (by simp)]; simp
@[simp] theorem fEq_datum_sum : fEq (.str "datum") (.str "sum") = some (.bl false) := by rw [fEq_ok (by simp) (by simp)]; simp
end MI
namespace MI
open PySem L2
@[simp] theorem isIns_tab {h : Chart} : isIns "Table" Str.empty h.tab = some h.tab := by
  unfold isIns Chart.tab
  simp only
  rw [if_pos ⟨trivial, by decide +kernel⟩]
theorem isIns_tab' {h : Chart} {m : Str} (e : (["kind", "columns", "held"] : List Str).findIdx? (fun x : Str => x = m) = none) : isIns "Table" m h.tab = some h.tab := by
  unfold isIns Chart.tab
  simp only
  rw [if_pos ⟨trivial, e⟩]
@[simp] theorem fld_kind {h : Chart} : fFld "Table" "kind" h.tab = some h.kind.t := by
  unfold fFld Chart.tab
  simp only [if_true]
  rw [show (["kind", "columns", "held"] : List Str).findIdx? (fun x : Str => x = "kind") = some 0 by decide +kernel]; rfl
@[simp] theorem fld_columns {h : Chart} : fFld "Table" "columns" h.tab = some (.nd .tup (h.cols.map Col.t)) := by
  unfold fFld Chart.tab
  simp only [if_true]
  rw [show (["kind", "columns", "held"] : List Str).findIdx? (fun x : Str => x = "columns") = some 1 by decide +kernel]; rfl
@[simp] theorem fld_held {h : Chart} : fFld "Table" "held" h.tab = some (.nd .tup (h.parts.map cellsT)) := by
  unfold fFld Chart.tab
  simp only [if_true]
  rw [show (["kind", "columns", "held"] : List Str).findIdx? (fun x : Str => x = "held") = some 2 by decide +kernel]; rfl
@[simp] theorem table_data {h : Chart} (w : h.Wf) : c_Table_data [h.tab] = some (.nd .tup (h.data.map pairT), []) := by
  refine EvO.eq (EvO_runB rfl ?_)
  simp [m_Table_data]
  refine lc2_inv (enc := Col.t) (xs := h.cols) (fun pre acc Ts => acc = (pre.flatMap Col.data).map pairT ∧ Ts = [h.tab, .dead, .dead]) (by simp) (by simp) ?_ ?_
  · rintro pre c post e acc Ts ⟨rfl, rfl⟩
    have d24 := w.d24
    unfold Chart.data at d24
    rw [e] at d24
    simp only [List.flatMap_append, List.flatMap_cons, List.length_append] at d24
    simp [Col.t]
    refine lcM_pure (enc := pairT) (xs := c.data) (fun _ => true) pairT (by rw [List.length_map]; simp only [sizeLine_val]; omega) (fun s hs => ?_) ?_
    · simp
    · refine Inn.mk ⟨by simp, by simp⟩
  · rintro acc Ts' ⟨rfl, rfl⟩
    simp
    rfl
@[simp] theorem table_cells {h : Chart} (w : h.Wf) : c_Table_cells [h.tab] = some (cellsT h.cells, []) := by
  refine EvO.eq (EvO_runB rfl ?_)
  have hcl := cells_len h
  have d24 := w.d24
  have s10 := w.s10
  simp [m_Table_cells]
  refine lc2_inv (enc := cellsT) (xs := h.parts) (fun pre acc Ts => acc = pre.flatten.map Cell.t ∧ Ts = [h.tab, .dead, .dead]) (by simp) (by simp) ?_ ?_
  · rintro pre c post e acc Ts ⟨rfl, rfl⟩
    have hl : h.cells.length = pre.flatten.length + (c.length + post.flatten.length) := by
      unfold Chart.cells; rw [e]; simp only [List.flatten_append, List.flatten_cons, List.length_append]
    simp [cellsT]
    refine lcM_pure (enc := Cell.t) (xs := c) (fun _ => true) Cell.t (by rw [List.length_map]; simp only [sizeLine_val]; omega) (fun s hs => ?_) ?_
    · simp
    · refine Inn.mk ⟨by simp, by simp⟩
  · rintro acc Ts' ⟨rfl, rfl⟩
    rw [show h.parts.flatten = h.cells from rfl]
    simp [cellsT]
def Kind.valB (k : Kind) (b : Int) (v : Int) : Bool := match k with
  | .bits => decide (0 ≤ v) && decide (v ≤ 2 ^ 60 - 1)
  | .plain => decide (-b ≤ v) && decide (v ≤ b)
  | .dial m => decide (0 ≤ v) && decide (v ≤ m - 1)
theorem valB_iff {k : Kind} {b v : Int} : k.valB b v = true ↔ k.val b v := by cases k <;> simp [Kind.valB, Kind.val]
@[simp] theorem is_value_int {k : Kind} {b v : Int} : c_is_value [k.t, .int v, .int b] = some (.bl (k.valB b v), []) := by
  refine EvO.eq (EvO_runB rfl ?_)
  cases k with
  | bits => simp [m_is_value, fII, iShl, iSub, Kind.valB]
  | plain => simp [m_is_value, fII, iShl, iSub, Kind.valB]
  | dial m => simp [m_is_value, fII, iShl, iSub, Kind.valB, Kind.t]; simp [fEq, okS_bits, okS_plain]
theorem check_values_ok {h : Chart} {vs : List Int} (w : h.Wf) (hl : vs.length = h.data.length) (hv : ∀ v ∈ vs, h.kind.val (10 ^ 30) v) : c_check_values [h.tab, .nd .tup (vs.map T.int)] = some (.non, []) := by
  refine EvO.eq (EvO_runB rfl ?_)
  simp [m_check_values, table_data w, hl]
  rw [enumF_tup (by simp)]
  simp
  refine loop_inv (fun pre Ts => ∃ (u1 u2 : T), Ts = [h.tab, .nd .tup (vs.map T.int), u1, u2]) ⟨.dead, .dead, rfl⟩ ?_ ?_
  · rintro pre ⟨v, i⟩ post e Ts ⟨u1, u2, rfl⟩
    obtain ⟨a, b, ea, rfl, rfl⟩ := zipIdx_split e
    have := valB_iff.mpr (hv v (by rw [ea]; simp))
    simp [enumE]
    rw [show (1000000000000000000000000000000 : Int) = 10 ^ 30 from rfl, this]
    simp
    exact Inn.mk ⟨_, _, rfl⟩
  · rintro Ts ⟨u1, u2, rfl⟩
    simp
theorem fSum_ints {o : Bool} {vs : List Int} : fSum (.nd (.lst o) (vs.map T.int)) = some (.int vs.sum) := by
  have : ∀ vs : List Int, intsOf (vs.map T.int) = some vs := fun vs => by
    induction vs with
    | nil => rfl
    | cons v vs ih => simp [intsOf, ih]
  simp [fSum, kA, this]
theorem together_ok {k : Kind} {vs : List Int} (hk : k.ok) : c_together [k.t, .nd (.lst false) (vs.map T.int)] = some (.int (k.tog vs), []) := by
  refine EvO.eq (EvO_runB rfl ?_)
  simp [m_together]
  split
  · rename_i e
    subst e
    refine loop_inv (enc := T.int) (fun pre Ts => ∃ (u : T), Ts = [Kind.t .bits, .nd (.lst false) (vs.map T.int), .int (pre.foldl Builtin.bitXor 0), u]) ⟨.dead, rfl⟩ ?_ ?_
    · rintro pre x post e Ts ⟨u, rfl⟩
      simp
      exact Inn.mk ⟨.int x, by simp⟩
    · rintro Ts ⟨u, rfl⟩
      simp [Kind.tog]
  · rename_i hb
    cases k with
    | bits => exact absurd rfl hb
    | plain => simp [fSum_ints, Kind.tog]
    | dial m =>
      have m3 : 3 ≤ m ∧ m ≤ 1000000000 := hk
      simp [fSum_ints, Kind.tog, Kind.t, fMod_int (show 0 < m by omega)]
theorem dataIn_zip (d : List (Str × Str)) (s : Str) : (d.zipIdx.filter fun p => inP s p.1).map (fun p => natT p.2) = (dataIn d s).map natT := by
  have e : d.zipIdx = (List.range d.length).map fun k => (d.getD k (Str.empty, Str.empty), k) := by
    apply List.ext_getElem?
    intro i
    rw [List.getElem?_zipIdx, List.getElem?_map]
    by_cases hi : i < d.length
    · rw [List.getElem?_range hi, List.getElem?_eq_getElem hi]
      simp [List.getElem?_eq_getElem hi]
    · rw [List.getElem?_eq_none (by omega), List.getElem?_eq_none (by simp; omega)]; rfl
  rw [e, List.filter_map, List.map_map]
  rfl
theorem data_of_ok {h : Chart} (w : h.Wf) {s : Str} : c_data_of [h.tab, .str s] = some (.nd (.lst true) ((dataIn h.data s).map natT), []) := by
  refine EvO.eq (EvO_runB rfl ?_)
  have d24 := w.d24
  simp [m_data_of, table_data w]
  rw [enumF_tup (by simp)]
  simp
  refine lc_pure (enc := enumE pairT) (xs := h.data.zipIdx) (fun p => inP s p.1) (fun p => natT p.2) (by simp) (by simp; omega) (fun p hp => ?_) ?_
  · simp [enumE, fIn_pair]
    intro _; rfl
  · rw [dataIn_zip]
    simp
theorem dataIn_lt {d : List (Str × Str)} {s : Str} {k : Nat} (hk : k ∈ dataIn d s) : k < d.length := by
  unfold dataIn at hk
  exact List.mem_range.mp (List.mem_filter.mp hk).1
theorem sum_of_ok {h : Chart} (w : h.Wf) {s : Str} {vs : List Int} (hl : vs.length = h.data.length) : c_sum_of [h.tab, .str s, .nd .tup (vs.map T.int)] = some (.int (h.cv vs (.sum s)), []) := by
  refine EvO.eq (EvO_runB rfl ?_)
  have d24 := w.d24
  have hd : (dataIn h.data s).length ≤ h.data.length := by
    unfold dataIn
    exact Nat.le_trans (List.length_filter_le _ _) (by simp)
  simp [m_sum_of, data_of_ok w]
  refine lc_pure (enc := natT) (xs := dataIn h.data s) (fun _ => true) (fun k => .int (vs.getD k 0)) (by simp) (by simp; omega) (fun k hk => ?_) ?_
  · have hk := dataIn_lt hk
    simp [natT]
    rw [atI_of (k := k) rfl (by simp; omega)]
    simp
    rw [List.getElem?_eq_getElem (by omega)]; rfl
  · rw [filter_tt, show ((dataIn h.data s).map fun k => T.int (vs.getD k 0)) = ((dataIn h.data s).map fun k => vs.getD k 0).map T.int by rw [List.map_map]; rfl]
    generalize hg : (dataIn h.data s).map (fun k => vs.getD k 0) = gs
    simp
    rw [together_ok w.k]
    simp [Chart.cv, ← hg]
theorem full_of_ok {h : Chart} (w : h.Wf) {vs : List Int} (hl : vs.length = h.data.length) : c_full_of [h.tab, .nd .tup (vs.map T.int)] = some (.nd .tup ((h.full vs).map T.int), []) := by
  refine EvO.eq (EvO_runB rfl ?_)
  have hcl := cells_len h
  have d24 := w.d24
  have s10 := w.s10
  simp [m_full_of, table_cells w, cellsT]
  refine lc_pure (enc := Cell.t) (xs := h.cells) (fun _ => true) (fun c => .int (h.cv vs c)) (by simp) (by simp; omega) (fun c hc => ?_) ?_
  · have hm := cells_mem hc
    cases c with
    | datum n =>
      have hm : n < h.data.length := hm
      simp [Cell.t]
      rw [atI_of (k := n) rfl (by simp; omega)]
      simp [Chart.cv]
      rw [List.getElem?_eq_getElem (by omega)]; rfl
    | sum s =>
      simp [Cell.t]
      rw [sum_of_ok w hl]
      simp
  · rw [filter_tt, show (h.cells.map fun c => T.int (h.cv vs c)) = (h.full vs).map T.int by unfold Chart.full; rw [List.map_map]; rfl]
    simp
theorem table_full {h : Chart} {vs : List Int} (w : h.Wf) (hl : vs.length = h.data.length) (hv : ∀ v ∈ vs, h.kind.val (10 ^ 30) v) : c_Table_full [h.tab, .nd .tup (vs.map T.int)] = some (.nd .tup ((h.full vs).map T.int), []) := by
  refine EvO.eq (EvO_runB rfl ?_)
  simp [m_Table_full, check_values_ok w hl hv, full_of_ok w hl]
end MI
namespace MI
open PySem L2
/-! ### values within their bounds -/
theorem xor_val {x y : Int} (hx : 0 ≤ x ∧ x ≤ 2 ^ 60 - 1) (hy : 0 ≤ y ∧ y ≤ 2 ^ 60 - 1) : 0 ≤ Builtin.bitXor x y ∧ Builtin.bitXor x y ≤ 2 ^ 60 - 1 := by
  rw [Bits.bitXor_pp hx.1 hy.1]
  have := Nat.xor_lt_two_pow (x := x.toNat) (y := y.toNat) (n := 60) (by omega) (by omega)
  omega
theorem foldl_xor_val : ∀ (vs : List Int) (a : Int), (0 ≤ a ∧ a ≤ 2 ^ 60 - 1) → (∀ v ∈ vs, 0 ≤ v ∧ v ≤ 2 ^ 60 - 1) → 0 ≤ vs.foldl Builtin.bitXor a ∧ vs.foldl Builtin.bitXor a ≤ 2 ^ 60 - 1
  | [], a, h, _ => h
  | v :: vs, a, h, hv => foldl_xor_val vs _ (xor_val h (hv v List.mem_cons_self)) fun u hu => hv u (List.mem_cons_of_mem _ hu)
theorem sum_bound {b : Int} (hb : 0 ≤ b) : ∀ (vs : List Int), (∀ v ∈ vs, -b ≤ v ∧ v ≤ b) → -(b * vs.length) ≤ vs.sum ∧ vs.sum ≤ b * vs.length
  | [], _ => by simp
  | v :: vs, hv => by
    have := sum_bound hb vs fun u hu => hv u (List.mem_cons_of_mem _ hu)
    have h1 := hv v List.mem_cons_self
    rw [List.sum_cons, List.length_cons, Int.natCast_add, Int.mul_add]
    simp only [Int.cast_ofNat_Int, Int.mul_one]
    omega
theorem dataIn_len (d : List (Str × Str)) (s : Str) : (dataIn d s).length ≤ d.length := by
  unfold dataIn
  exact Nat.le_trans (List.length_filter_le _ _) (by simp)
theorem tog_val {k : Kind} {vs : List Int} (hk : k.ok) (hl : vs.length ≤ 24) (hv : ∀ v ∈ vs, k.val (10 ^ 30) v) : k.val (10 ^ 32) (k.tog vs) := by
  cases k with
  | bits => exact foldl_xor_val vs 0 (by decide) hv
  | plain =>
    have := sum_bound (b := 10 ^ 30) (by decide) vs hv
    show -10 ^ 32 ≤ vs.sum ∧ vs.sum ≤ 10 ^ 32
    have h2 : (10 ^ 30 : Int) * vs.length ≤ 10 ^ 30 * 24 := Int.mul_le_mul_of_nonneg_left (by omega) (by decide)
    omega
  | dial m => exact mod_ok hk.1
/-- the bound of a cell -/
def Cell.bd : Cell → Int
  | .sum _ => 10 ^ 32
  | .datum _ => 10 ^ 30
theorem cv_val {h : Chart} (w : h.Wf) {vs : List Int} (hl : vs.length = h.data.length) (hv : ∀ v ∈ vs, h.kind.val (10 ^ 30) v) {c : Cell} (hc : c ∈ h.cells) : h.kind.val c.bd (h.cv vs c) := by
  have hm := cells_mem hc
  cases c with
  | datum n =>
    have hm : n < h.data.length := hm
    show h.kind.val (10 ^ 30) (vs.getD n 0)
    rw [List.getD_eq_getElem?_getD, List.getElem?_eq_getElem (by omega)]
    exact hv _ (List.getElem_mem _)
  | sum s =>
    have := w.d24
    have := dataIn_len h.data s
    refine tog_val w.k (by simp; omega) fun v hvv => ?_
    obtain ⟨k, hk, rfl⟩ := List.mem_map.mp hvv
    have := dataIn_lt hk
    rw [List.getD_eq_getElem?_getD, List.getElem?_eq_getElem (by omega)]
    exact hv _ (List.getElem_mem _)
/-- right bounds of cell values -/
def Chart.cellVals (h : Chart) (vs : List Int) : Prop := vs.length = h.cells.length ∧ ∀ (i : Nat) (c : Cell) (v : Int), h.cells[i]? = some c → vs[i]? = some v → h.kind.val c.bd v
def Cell.isD : Cell → Bool
  | .sum _ => false
  | .datum _ => true
/-- the data values in cell values -/
def Chart.dataOf (h : Chart) (vs : List Int) : List Int := ((h.cells.zip vs).filter fun p => p.1.isD).map Prod.snd
theorem parts_data : ∀ (cs : List Col) (n : Nat), (partsFrom n cs).flatten.filter Cell.isD = (List.range' n (cs.flatMap Col.data).length).map Cell.datum
  | [], n => rfl
  | c :: cs, n => by
    rw [partsFrom, List.flatten_cons, List.filter_append, List.filter_append, parts_data cs, List.flatMap_cons, List.length_append, ← List.range'_append_1, List.map_append]
    congr 1
    rw [List.filter_eq_nil_iff.mpr (by intro c hc; obtain ⟨s, _, rfl⟩ := List.mem_map.mp hc; simp [Cell.isD]), List.nil_append, List.filter_eq_self.mpr (by intro c hc; obtain ⟨s, _, rfl⟩ := List.mem_map.mp hc; rfl)]
theorem cells_data (h : Chart) : h.cells.filter Cell.isD = (List.range h.data.length).map Cell.datum := by
  rw [List.range_eq_range']; exact parts_data h.cols 0
theorem filter_zip_map {α β : Type} (p : α → Bool) (f : α → β) (xs : List α) : ((xs.zip (xs.map f)).filter fun q => p q.1).map Prod.snd = (xs.filter p).map f := by
  induction xs with
  | nil => rfl
  | cons x xs ih =>
    rw [List.map_cons, List.zip_cons_cons, List.filter_cons, List.filter_cons]
    by_cases h : p x = true
    · simp [h, ih]
    · simp [h, ih]
theorem dataOf_full {h : Chart} {vs : List Int} (hl : vs.length = h.data.length) : h.dataOf (h.full vs) = vs := by
  unfold Chart.dataOf Chart.full
  rw [filter_zip_map, cells_data, List.map_map, ← hl]
  apply List.ext_getElem?
  intro i
  by_cases hi : i < vs.length
  · simp [List.getElem?_range hi, List.getElem?_eq_getElem hi, Chart.cv]
  · rw [List.getElem?_eq_none (by simp; omega), List.getElem?_eq_none (by omega)]
theorem zip_filter_len {α β : Type} (p : α → Bool) : ∀ (xs : List α) (ys : List β), xs.length = ys.length → ((xs.zip ys).filter fun q => p q.1).length = (xs.filter p).length
  | [], [], _ => rfl
  | [], _ :: _, h => by simp at h
  | _ :: _, [], h => by simp at h
  | x :: xs, y :: ys, h => by
    rw [List.zip_cons_cons, List.filter_cons, List.filter_cons]
    have := zip_filter_len p xs ys (by simpa using h)
    by_cases hp : p x = true <;> simp [hp, this]
theorem dataOf_len {h : Chart} {vs : List Int} (hl : vs.length = h.cells.length) : (h.dataOf vs).length = h.data.length := by
  unfold Chart.dataOf
  rw [List.length_map, zip_filter_len _ _ _ hl.symm, cells_data]
  simp
@[simp] theorem fIx_cell0 {c : Cell} : fIx c.t (.int 0) = some (.str (if c.isD then "datum" else "sum")) := by cases c <;> simp [Cell.t, Cell.isD]
end MI
namespace MI
open PySem L2
/-! ### repr -/
mutual
/-- ints within 10 ^ 100 -/
def smT : T → Bool
  | .int i => decide (i.natAbs < 10 ^ 100)
  | .nd _ ts => smL ts
  | _ => true
def smL : List T → Bool
  | [] => true
  | t :: ts => smT t && smL ts
end
mutual
def rwT : T → Nat
  | .int _ => 101
  | .str s => 10 * s.length + 8
  | .nd _ ts => rwL ts + 3
  | _ => 5
def rwL : List T → Nat
  | [] => 0
  | t :: ts => rwT t + 2 + rwL ts
end
@[simp] theorem smT_int {i : Int} : smT (.int i) = decide (i.natAbs < 10 ^ 100) := by simp [smT]
@[simp] theorem smT_nd {k : Kd} {ts : List T} : smT (.nd k ts) = smL ts := by simp [smT]
@[simp] theorem smT_str {s : Str} : smT (.str s) = true := by simp [smT]
@[simp] theorem smT_non : smT .non = true := by simp [smT]
@[simp] theorem smT_bl {b : Bool} : smT (.bl b) = true := by simp [smT]
@[simp] theorem smL_nil : smL [] = true := by simp [smL]
@[simp] theorem smL_cons {t : T} {ts : List T} : smL (t :: ts) = (smT t && smL ts) := by simp [smL]
theorem smL_map {α : Type} {f : α → T} : ∀ {xs : List α}, (∀ x ∈ xs, smT (f x) = true) → smL (xs.map f) = true
  | [], _ => by simp
  | x :: xs, h => by rw [List.map_cons, smL_cons, h x List.mem_cons_self, smL_map (fun y hy => h y (List.mem_cons_of_mem _ hy))]; rfl
@[simp] theorem rwT_int {i : Int} : rwT (.int i) = 101 := by simp [rwT]
@[simp] theorem rwT_nd {k : Kd} {ts : List T} : rwT (.nd k ts) = rwL ts + 3 := by simp [rwT]
@[simp] theorem rwT_str {s : Str} : rwT (.str s) = 10 * s.length + 8 := by simp [rwT]
@[simp] theorem rwT_non : rwT .non = 5 := by simp [rwT]
@[simp] theorem rwT_bl {b : Bool} : rwT (.bl b) = 5 := by simp [rwT]
@[simp] theorem rwL_nil : rwL [] = 0 := by simp [rwL]
@[simp] theorem rwL_cons {t : T} {ts : List T} : rwL (t :: ts) = rwT t + 2 + rwL ts := by simp [rwL]
theorem rwL_map {α : Type} {f : α → T} {B : Nat} : ∀ {xs : List α}, (∀ x ∈ xs, rwT (f x) ≤ B) → rwL (xs.map f) ≤ (B + 2) * xs.length
  | [], _ => by simp
  | x :: xs, h => by
    have h1 := h x List.mem_cons_self
    have h2 := rwL_map (f := f) (B := B) (xs := xs) (fun y hy => h y (List.mem_cons_of_mem _ hy))
    rw [List.map_cons, rwL_cons, List.length_cons, Nat.mul_add]; omega
theorem shown_str {s : Str} (h : okS s = true) : (PyData.shown (.str s)).length ≤ 10 * s.length + 8 := by
  have := PyData.shown_le 8 (by omega) (.str s) (by
    simp only [PyData.leavesShort, List.all_eq_true, decide_eq_true_eq]
    unfold okS at h
    rw [List.all_eq_true] at h
    intro c hc
    have := h c hc
    rw [Nat.blt_eq] at this; omega)
  have e : PyData.weight (.str s) = s.length := by simp [PyData.weight]; rfl
  rw [e] at this
  exact this
mutual
theorem shown_rw : ∀ (t : T) (n : Nat), okD n t = true → smT t = true → (toD t).shown.length ≤ rwT t
  | .dead, n, h, _ => by cases n <;> simp [okD] at h
  | .non, _, _, _ => by simp [toD, PyData.shown]; decide +kernel
  | .bl b, _, _, _ => by cases b <;> (simp [toD, PyData.shown]; decide +kernel)
  | .int i, _, _, h => by
    simp only [smT_int, decide_eq_true_eq] at h
    have := int_text_length_le10 (a := i) (k := 100) (by omega) h
    simp only [toD, PyData.shown, rwT_int]
    rw [show (Str.ofString (toString i)).length = (toString i).length by
      rw [Str.ofString_eq_toList]; simp [Str.length]; exact String.length_toList]
    exact this
  | .str s, n, h, _ => by rw [okD_str] at h; rw [rwT_str]; exact shown_str h
  | .nd k ts, 0, h, _ => by simp [okD] at h
  | .nd k ts, n + 1, h, hs => by
    rw [okD_nd, Bool.and_eq_true] at h
    rw [smT_nd] at hs
    have ih := shownL_rw ts n h.2 hs
    rw [rwT_nd]
    by_cases hk : k.isTup = true
    · simp only [toD, hk, if_true, PyData.shown]
      have := tupleText_len_le (PyData.shownAll (toDL ts))
      omega
    · simp only [toD, hk, if_false, PyData.shown]
      have := listText_len_le (PyData.shownAll (toDL ts))
      simp only [Bool.false_eq_true, if_false, PyData.shown]
      omega
theorem shownL_rw : ∀ (ts : List T) (n : Nat), okDL n ts = true → smL ts = true → ((PyData.shownAll (toDL ts)).map (·.length)).sum + 2 * (PyData.shownAll (toDL ts)).length ≤ rwL ts
  | [], _, _, _ => by simp [PyData.shownAll]
  | t :: ts, n, h, hs => by
    rw [okDL_cons, Bool.and_eq_true] at h
    rw [smL_cons, Bool.and_eq_true] at hs
    have h1 := shown_rw t n h.1 hs.1
    have h2 := shownL_rw ts n h.2 hs.2
    simp only [toDL_cons, PyData.shownAll, List.map_cons, List.sum_cons, List.length_cons, rwL_cons]
    omega
end
mutual
theorem shw_sm : ∀ t : T, smT t = true → shwT t = true
  | .dead, _ => by simp [shwT]
  | .non, _ => by simp [shwT]
  | .bl _, _ => by simp [shwT]
  | .str _, _ => by simp [shwT]
  | .int i, h => by
    simp only [smT_int, decide_eq_true_eq] at h
    simp only [shwT, Nat.blt_eq]
    exact log2_lt_of (by omega) (Nat.lt_trans h (by decide +kernel))
  | .nd k ts, h => by rw [smT_nd] at h; simp only [shwT]; exact shwL_sm ts h
theorem shwL_sm : ∀ ts : List T, smL ts = true → shwL ts = true
  | [], _ => by simp [shwL]
  | t :: ts, h => by
    rw [smL_cons, Bool.and_eq_true] at h
    simp only [shwL, Bool.and_eq_true]
    exact ⟨shw_sm t h.1, shwL_sm ts h.2⟩
end
theorem fRepr_ok {t : T} (h1 : okD 60 t = true) (h2 : smT t = true) (h3 : rwT t ≤ 16777216) : fRepr t = some (.str (reprT t)) := by
  have := shown_rw t 60 h1 h2
  unfold fRepr
  rw [if_pos]
  simp only [h1, shw_sm t h2, Bool.true_and, Nat.ble_eq, sizeLine_val]
  show (toD t).shown.length ≤ _
  omega
theorem okS_reprBl {b : Bool} : okS (reprT (.bl b)) = true := by cases b <;> (simp only [reprT, toD, PyData.shown]; decide +kernel)
theorem fRepr_bl {b : Bool} : fRepr (.bl b) = some (.str (reprT (.bl b))) := fRepr_ok (by simp) (by simp) (by simp)
/-! ### what repr gives is a text -/
theorem okS_iff {s : Str} : okS s = true ↔ ∀ c ∈ s.cps.toList, c < 1114112 := by
  unfold okS; rw [List.all_eq_true]
  exact ⟨fun h c hc => by have := h c hc; rwa [Nat.blt_eq] at this, fun h c hc => by rw [Nat.blt_eq]; exact h c hc⟩
theorem char_lt (c : Char) : c.toNat < 1114112 := by
  have h := c.valid
  simp only [UInt32.isValidChar, Nat.isValidChar] at h
  have e : c.toNat = c.val.toNat := rfl
  omega
theorem okS_ofString (x : String) : okS (Str.ofString x) = true := by
  rw [okS_iff, Str.ofString_eq_toList]
  intro c hc
  simp only [List.mem_map] at hc
  obtain ⟨d, _, rfl⟩ := hc
  exact char_lt d
@[simp] theorem okS_append {a b : Str} : okS (a ++ b) = (okS a && okS b) := by
  show okS ⟨a.cps ++ b.cps⟩ = _
  simp only [okS, Array.toList_append, List.all_append]
theorem okS_join {sep : Str} (h : okS sep = true) : ∀ xs : List Str, (∀ x ∈ xs, okS x = true) → okS (Str.join sep xs) = true
  | [], _ => by show okS Str.empty = true; decide +kernel
  | [x], hx => hx x (by simp)
  | x :: y :: r, hx => by
    show okS (x ++ sep ++ Str.join sep (y :: r)) = true
    rw [okS_append, okS_append, h, hx x (by simp), okS_join h (y :: r) fun z hz => hx z (List.mem_cons_of_mem _ hz)]; rfl
theorem okS_textFrom : ∀ (ts : List Str) (k : Nat) (acc : Str), okS acc = true → (∀ t ∈ ts, okS t = true) → okS (textFrom k acc ts) = true
  | [], _, acc, h, _ => h
  | t :: ts, k, acc, h, ht => by
    show okS (textFrom (k + 1) _ ts) = true
    refine okS_textFrom ts _ _ ?_ fun z hz => ht z (List.mem_cons_of_mem _ hz)
    rw [okS_append, okS_append, h, ht t (by simp), okS_ofString]; rfl
theorem okS_listText {ts : List Str} (h : ∀ t ∈ ts, okS t = true) : okS (listText ts) = true := by
  unfold listText
  rw [okS_append, okS_textFrom ts 0 _ (okS_ofString _) h, okS_ofString]; rfl
theorem okS_tupleText {ts : List Str} (h : ∀ t ∈ ts, okS t = true) : okS (tupleText ts) = true := by
  unfold tupleText
  rw [okS_append, okS_append, okS_ofString, okS_join (okS_ofString _) ts h, okS_ofString]; rfl
theorem hex_lt {w c d : Nat} (h : d ∈ List.replicate (w - ((Nat.toDigits 16 c).map Char.toNat).length) 48 ++ (Nat.toDigits 16 c).map Char.toNat) : d < 1114112 := by
  rcases List.mem_append.mp h with h | h
  · rw [List.eq_of_mem_replicate h]; omega
  · obtain ⟨e, _, rfl⟩ := List.mem_map.mp h; exact char_lt e
theorem reprChar_lt {q c : Nat} (hc : c < 1114112) : ∀ d ∈ Builtin.Str.reprChar q c, d < 1114112 := by
  intro d hd
  unfold Builtin.Str.reprChar at hd
  simp only at hd
  split at hd
  · simp at hd; omega
  · split at hd
    · simp at hd; omega
    · split at hd
      · simp at hd; omega
      · split at hd
        · simp at hd; omega
        · split at hd
          · simp at hd; omega
          · split at hd
            · rcases List.mem_append.mp hd with hd | hd
              · simp at hd; omega
              · exact hex_lt hd
            · split at hd
              · rcases List.mem_append.mp hd with hd | hd
                · simp at hd; omega
                · exact hex_lt hd
              · rcases List.mem_append.mp hd with hd | hd
                · simp at hd; omega
                · exact hex_lt hd
theorem okS_reprText {s : Str} (h : okS s = true) : okS (reprText s) = true := by
  rw [okS_iff] at *
  have hq : reprQuote s < 1114112 := by unfold reprQuote; split <;> omega
  have key : ∀ (l : List Nat) (acc : Array Nat), (∀ c ∈ l, c < 1114112) → (∀ c ∈ acc.toList, c < 1114112) → ∀ c ∈ (l.foldl (fun out c => out ++ (Builtin.Str.reprChar (reprQuote s) c).toArray) acc).toList, c < 1114112 := by
    intro l
    induction l with
    | nil => intro acc _ h; exact h
    | cons x l ih =>
      intro acc hl ha
      refine ih _ (fun c hc => hl c (List.mem_cons_of_mem _ hc)) fun c hc => ?_
      rw [Array.toList_append] at hc
      rcases List.mem_append.mp hc with hc | hc
      · exact ha c hc
      · exact reprChar_lt (hl x List.mem_cons_self) c hc
  intro c hc
  unfold reprText at hc
  rw [Array.toList_push, List.mem_append] at hc
  rcases hc with hc | hc
  · rw [← Array.foldl_toList] at hc
    exact key s.cps.toList #[reprQuote s] h (by intro c hc; simp at hc; omega) c hc
  · rw [List.mem_singleton.mp hc]; exact hq
mutual
theorem okS_shown : ∀ (t : T) (n : Nat), okD n t = true → okS (toD t).shown = true
  | .dead, n, h => by cases n <;> simp [okD] at h
  | .non, _, _ => by simp only [toD, PyData.shown]; exact okS_ofString _
  | .bl b, _, _ => by cases b <;> (simp only [toD, PyData.shown]; exact okS_ofString _)
  | .int i, _, _ => by simp only [toD, PyData.shown]; exact okS_ofString _
  | .str s, n, h => by rw [okD_str] at h; simp only [toD, PyData.shown]; exact okS_reprText h
  | .nd k ts, 0, h => by simp [okD] at h
  | .nd k ts, n + 1, h => by
    rw [okD_nd, Bool.and_eq_true] at h
    have ih := okS_shownL ts n h.2
    by_cases hk : k.isTup = true
    · simp only [toD, hk, if_true, PyData.shown]
      exact okS_tupleText ih
    · simp only [toD, hk, if_false, PyData.shown, Bool.false_eq_true]
      exact okS_listText ih
theorem okS_shownL : ∀ (ts : List T) (n : Nat), okDL n ts = true → ∀ x ∈ PyData.shownAll (toDL ts), okS x = true
  | [], _, _ => by simp [PyData.shownAll]
  | t :: ts, n, h => by
    rw [okDL_cons, Bool.and_eq_true] at h
    intro x hx
    simp only [toDL_cons, PyData.shownAll, List.mem_cons] at hx
    rcases hx with rfl | hx
    · exact okS_shown t n h.1
    · exact okS_shownL ts n h.2 x hx
end
theorem okS_reprT {t : T} {n : Nat} (h : okD n t = true) : okS (reprT t) = true := okS_shown t n h
end MI
namespace MI
open PySem L2
theorem jar_spec {ns : List Int} {turn : Nat} (ht : turn ≤ 1000) : ∃ a b, c__law_jar [.nd .scr (ns.map T.int), .int turn] = some (jarT a b 0, []) ∧ JarOk 0 a b 0 := by
  suffices h : EvO (c__law_jar [.nd .scr (ns.map T.int), .int turn]) fun p => ∃ a b, p = (jarT a b 0, []) ∧ JarOk 0 a b 0 by
    obtain ⟨p, e, a, b, rfl, hj⟩ := h
    exact ⟨a, b, e, hj⟩
  refine EvO_runB rfl ?_
  have key : ∀ cell : Int, Ev (mSeq (mSet 3 (mFrz (m2 fAdd (mC (.int 60013)) (m2 fMul (mC (.int 8009)) (mRd 1))))) (mSeq (mFor (mItA (m2 fAdd (mSl fCut (mRd 0) mNoP (mPt (mC (.int 5)))) (mLst (mCons (mIm (mRd 2)) mNil)))) (mPut 4) (mSet 3 (m2 (fII iMod) (mF (c1 fInt) (mCons (m2 fAdd (m2 fMul (mRd 3) (mC (.int 28411))) (mRd 4)) mNil)) (mC (.int 2147483087))))) (mRet (mLst (mCons (mIf (mOr (asB (m2 fLt (mRd 2) (mC (.int 0)))) (asB (m2 fGe (mRd 2) (m2 (fII iPow) (mC (.int 10)) (mC (.int 18)))))) (mF (c1 fAbs) (mCons (mRd 2) mNil)) (mC (.int 0))) (mCons (mIm (mRd 3)) (mCons (mC (.int 0)) mNil)))))))
      [.nd .scr (ns.map T.int), .int turn, .int cell, .dead, .dead] fun fl Ts => outO [] fl Ts fun p => ∃ a b, p = (jarT a b 0, []) ∧ JarOk 0 a b 0 := by
    intro cell
    simp
    rw [fMul_int (mul_small (by decide) (by omega))]
    simp [fCut_scr]
    rw [cutT_map]
    have hle : (cutT ns none (some 5)).length + 1 ≤ 16777216 := by
      have : (cutT ns none (some 5)).length ≤ 5 := by
        simp only [cutT, HT.sIx]
        simp
        omega
      omega
    simp [hle]
    rw [show (cutT ns none (some 5)).map T.int ++ [T.int cell] = (cutT ns none (some 5) ++ [cell]).map T.int by simp]
    refine ⟨by omega, ?_⟩
    refine loop_inv (enc := T.int) (fun pre Ts => ∃ (g : Int) (u : T), Ts = [.nd .scr (ns.map T.int), .int turn, .int cell, .int g, u] ∧ 0 ≤ g ∧ g < 2147483399) ⟨60013 + 8009 * turn, .dead, rfl, by omega, by omega⟩ ?_ ?_
    · rintro pre x post e Ts ⟨g, u, rfl, g0, g1⟩
      simp
      rw [fMul_int (mul_small (by omega) (by decide))]
      simp [fMod_int]
      refine Inn.mk ⟨_, _, rfl, Int.emod_nonneg _ (by omega), ?_⟩
      have := Int.emod_lt_of_pos (g * 28411 + x) (show (0 : Int) < 2147483087 by omega)
      omega
    · rintro Ts ⟨g, u, rfl, g0, g1⟩
      simp
      split
      · simp [fAbs]
        exact ⟨by split <;> omega, g0, g1, by omega, by omega⟩
      · split
        · simp [fAbs]
          exact ⟨by split <;> omega, g0, g1, by omega, by omega⟩
        · exact ⟨by omega, g0, g1, by omega, by omega⟩
  unfold m__law_jar
  simp only [List.cons_append, List.nil_append, Nat.reduceSub, List.replicate]
  rw [Ev_mSeq]
  simp
  split
  · rename_i hlt
    rw [atI_of (k := turn) rfl (by simpa using hlt)]
    simp
    simpa using key _
  · rw [fMul_int (mul_small (by decide) (by omega))]
    simp
    simpa using key _
end MI
namespace MI
open PySem L2
theorem cutT_take {α : Type} (xs : List α) (j : Nat) : cutT xs none (some j) = xs.take j := by
  simp only [cutT, HT.sIx_nat, HT.sIx_none]
  simp
theorem cutT_drop {α : Type} (xs : List α) (j : Nat) : cutT xs (some j) none = xs.drop j := by
  simp only [cutT, HT.sIx_nat, HT.sIx_none]
  by_cases h : j ≤ xs.length
  · rw [Nat.min_eq_left h]; exact List.take_of_length_le (by simp)
  · rw [Nat.min_eq_right (by omega), List.drop_eq_nil_of_le (Nat.le_refl _), List.drop_eq_nil_of_le (by omega)]; simp
theorem set_split {α : Type} (xs : List α) (i : Nat) (x : α) (h : i < xs.length) : xs.take i ++ [x] ++ xs.drop (i + 1) = xs.set i x := by
  rw [List.set_eq_take_append_cons_drop, if_pos h]; simp
theorem full_cellVals {h : Chart} {vs : List Int} (w : h.Wf) (hl : vs.length = h.data.length) (hv : ∀ v ∈ vs, h.kind.val (10 ^ 30) v) : h.cellVals (h.full vs) := by
  refine ⟨by simp [Chart.full], fun i c v hc e => ?_⟩
  unfold Chart.full at e
  rw [List.getElem?_map, hc] at e
  simp at e
  rw [← e]
  exact cv_val w hl hv (List.mem_of_getElem? hc)
theorem small_val {h : Chart} (w : h.Wf) {c : Cell} {x : Int} (h0 : 0 ≤ x) (h2 : x ≤ 2) : h.kind.val c.bd x := by
  have hk := w.k
  generalize h.kind = k at *
  have hb : 10 ^ 30 ≤ c.bd := by cases c <;> simp [Cell.bd]
  cases k with
  | bits => exact ⟨h0, by omega⟩
  | plain => exact ⟨by omega, by omega⟩
  | dial m => have : 3 ≤ m ∧ m ≤ 1000000000 := hk; exact ⟨h0, by omega⟩
theorem set_cellVals {h : Chart} {vs : List Int} {i : Nat} {x : Int} (hv : h.cellVals vs) (hx : ∀ c, h.cells[i]? = some c → h.kind.val c.bd x) : h.cellVals (vs.set i x) := by
  refine ⟨by rw [List.length_set]; exact hv.1, fun j c v hc e => ?_⟩
  by_cases hj : i = j
  · subst hj
    by_cases hi : i < vs.length
    · rw [List.getElem?_set_self hi] at e
      injection e with e; subst e
      exact hx c hc
    · rw [List.getElem?_eq_none (by simp; omega)] at e; cases e
  · rw [List.getElem?_set_ne hj] at e
    exact hv.2 j c v hc e
theorem cellVals_sm {h : Chart} (w : h.Wf) {vs : List Int} (hv : h.cellVals vs) : smL (vs.map T.int) = true := by
  refine smL_map fun v hvv => ?_
  obtain ⟨i, hi, rfl⟩ := List.getElem_of_mem hvv
  have := hv.2 i _ _ (List.getElem?_eq_getElem (by have := hv.1; omega)) (List.getElem?_eq_getElem hi)
  generalize h.cells[i]'(by have := hv.1; omega) = c at this
  have hk := w.k
  generalize h.kind = k at *
  have hb : c.bd ≤ 10 ^ 32 := by cases c <;> simp [Cell.bd]
  rw [smT_int, decide_eq_true_eq]
  cases k with
  | bits => have : 0 ≤ vs[i] ∧ vs[i] ≤ 2 ^ 60 - 1 := this; omega
  | plain => have : -c.bd ≤ vs[i] ∧ vs[i] ≤ c.bd := this; omega
  | dial m => have : 0 ≤ vs[i] ∧ vs[i] ≤ m - 1 := this; have hk : 3 ≤ m ∧ m ≤ 1000000000 := hk; omega
@[simp] theorem isIns_full {h : Chart} : isIns "Table" "full" h.tab = some h.tab := isIns_tab' (by decide +kernel)
@[simp] theorem isIns_is_right {h : Chart} : isIns "Table" "is_right" h.tab = some h.tab := isIns_tab' (by decide +kernel)
@[simp] theorem fIsNot_bl {a b : Bool} : fIsNot (.bl a) (.bl b) = some (.bl (!decide (a = b))) := rfl
theorem fNe_str_self {s : Str} (h : okS s = true) : fNe (.str s) (.str s) = some (.bl false) := by rw [fNe_ok (by simpa using h) (by simpa using h)]; simp
end MI
namespace MI
open PySem L2
/-! ### putting values together -/
abbrev bx := Builtin.bitXor
theorem bx_nat (a b : Nat) : bx a b = ((a ^^^ b : Nat) : Int) := by
  show Builtin.bitXor a b = _
  rw [Bits.bitXor_pp (by omega) (by omega)]; simp
theorem bx_nn {a b : Int} (ha : 0 ≤ a) (hb : 0 ≤ b) : 0 ≤ bx a b := Bits.bitXor_nonneg ha hb
theorem nat_of {a : Int} (h : 0 ≤ a) : ∃ n : Nat, a = n := ⟨a.toNat, by omega⟩
theorem bx_zero {a : Int} (ha : 0 ≤ a) : bx 0 a = a := by
  obtain ⟨n, rfl⟩ := nat_of ha
  rw [show (0 : Int) = ((0 : Nat) : Int) from rfl, bx_nat]; simp
theorem bx_four {a b c d : Int} (ha : 0 ≤ a) (hb : 0 ≤ b) (hc : 0 ≤ c) (hd : 0 ≤ d) : bx (bx a b) (bx c d) = bx (bx a c) (bx b d) := by
  obtain ⟨a, rfl⟩ := nat_of ha
  obtain ⟨b, rfl⟩ := nat_of hb
  obtain ⟨c, rfl⟩ := nat_of hc
  obtain ⟨d, rfl⟩ := nat_of hd
  simp only [bx_nat]
  congr 1
  rw [Nat.xor_assoc, Nat.xor_assoc, ← Nat.xor_assoc b c d, ← Nat.xor_assoc c b d, Nat.xor_comm b c]
theorem foldl_bx_nn {α : Type} (f : α → Int) : ∀ (l : List α) (a : Int), 0 ≤ a → (∀ x ∈ l, 0 ≤ f x) → 0 ≤ (l.map f).foldl bx a
  | [], a, h, _ => h
  | x :: l, a, h, hl => foldl_bx_nn f l _ (bx_nn h (hl x List.mem_cons_self)) fun y hy => hl y (List.mem_cons_of_mem _ hy)
theorem foldl_bx_zip {α : Type} (f g : α → Int) : ∀ (l : List α) (a b : Int), 0 ≤ a → 0 ≤ b → (∀ x ∈ l, 0 ≤ f x ∧ 0 ≤ g x) → (l.map fun x => bx (f x) (g x)).foldl bx (bx a b) = bx ((l.map f).foldl bx a) ((l.map g).foldl bx b)
  | [], a, b, _, _, _ => rfl
  | x :: l, a, b, ha, hb, hl => by
    have hx := hl x List.mem_cons_self
    simp only [List.map_cons, List.foldl_cons]
    rw [bx_four ha hb hx.1 hx.2, foldl_bx_zip f g l _ _ (bx_nn ha hx.1) (bx_nn hb hx.2) fun y hy => hl y (List.mem_cons_of_mem _ hy)]
/-- two values put together -/
def Kind.op (k : Kind) (a b : Int) : Int := k.tog [a, b]
theorem op_bits {a b : Int} (ha : 0 ≤ a) : Kind.op .bits a b = bx a b := by
  show bx (bx 0 a) b = _
  rw [bx_zero ha]
theorem op_plain {a b : Int} : Kind.op .plain a b = a + b := by simp [Kind.op, Kind.tog]
theorem op_dial {m a b : Int} : Kind.op (.dial m) a b = (a + b) % m := by simp [Kind.op, Kind.tog]
theorem sum_map_add {α : Type} (f g : α → Int) : ∀ l : List α, (l.map fun x => f x + g x).sum = (l.map f).sum + (l.map g).sum
  | [] => by simp
  | x :: l => by simp only [List.map_cons, List.sum_cons, sum_map_add f g l]; omega
theorem sum_map_mod {α : Type} (f : α → Int) (m : Int) : ∀ l : List α, (l.map fun x => f x % m).sum % m = (l.map f).sum % m
  | [] => by simp
  | x :: l => by
    simp only [List.map_cons, List.sum_cons]
    rw [Int.add_emod, sum_map_mod f m l, Int.emod_emod_of_dvd _ (Int.dvd_refl m), ← Int.add_emod]
theorem tog_zip {α : Type} (k : Kind) (l : List α) (f g : α → Int) (h : k = .bits → ∀ x ∈ l, 0 ≤ f x ∧ 0 ≤ g x) : k.tog (l.map fun x => k.op (f x) (g x)) = k.op (k.tog (l.map f)) (k.tog (l.map g)) := by
  cases k with
  | bits =>
    have h := h rfl
    have nn : 0 ≤ Kind.tog .bits (l.map f) := foldl_bx_nn f l 0 (by omega) fun x hx => (h x hx).1
    rw [op_bits nn]
    have e : (l.map fun x => Kind.op .bits (f x) (g x)) = l.map fun x => bx (f x) (g x) := List.map_congr_left fun x hx => op_bits (h x hx).1
    rw [e]
    have := foldl_bx_zip f g l 0 0 (by omega) (by omega) h
    rw [bx_zero (by omega)] at this
    exact this
  | plain =>
    simp only [op_plain]
    exact sum_map_add f g l
  | dial m =>
    simp only [op_dial]
    show (l.map fun x => (f x + g x) % m).sum % m = ((l.map f).sum % m + (l.map g).sum % m) % m
    rw [sum_map_mod (fun x => f x + g x) m l, sum_map_add, ← Int.add_emod]
theorem tog_zero {α : Type} (k : Kind) (l : List α) : k.tog (l.map fun _ => 0) = 0 := by
  have hs : (l.map fun _ => (0 : Int)).sum = 0 := by
    induction l with
    | nil => rfl
    | cons x l ih => simp only [List.map_cons, List.sum_cons, ih]; rfl
  cases k with
  | bits =>
    show (l.map fun _ => (0 : Int)).foldl bx 0 = 0
    induction l with
    | nil => rfl
    | cons x l ih => simp only [List.map_cons, List.foldl_cons, bx_zero (show (0 : Int) ≤ 0 by omega)]; exact ih (by simpa using hs)
  | plain => exact hs
  | dial m => show _ % m = 0; rw [hs]; simp
/-- one of them is put together with 1 -/
theorem tog_one (k : Kind) (l : List Nat) (f : Nat → Int) (a : Nat) (nd : l.Nodup) (ha : a ∈ l) (h : k = .bits → ∀ x ∈ l, 0 ≤ f x) (hd : ∀ m, k = .dial m → 3 ≤ m) (hv : ∀ m, k = .dial m → ∀ x ∈ l, f x % m = f x) : k.tog (l.map fun x => if x = a then k.op (f x) 1 else f x) = k.op (k.tog (l.map f)) 1 := by
  have one : k.tog (l.map fun x => if x = a then 1 else 0) = 1 := by
    have hs : ∀ l : List Nat, l.Nodup → a ∈ l → (l.map fun x => if x = a then (1 : Int) else 0).sum = 1 := fun l => by
      induction l with
      | nil => intro _ h; exact nomatch h
      | cons x l ih =>
        intro nd ha
        obtain ⟨n1, n2⟩ := List.nodup_cons.mp nd
        rw [List.map_cons, List.sum_cons]
        by_cases e : x = a
        · subst e
          have e0 : (l.map fun y => if y = x then (1 : Int) else 0) = l.map fun _ => 0 := List.map_congr_left fun y hy => if_neg fun z => n1 (by rw [← z]; exact hy)
          have : (l.map fun _ => (0 : Int)).sum = 0 := tog_zero .plain l
          rw [if_pos rfl, e0, this]; rfl
        · rw [if_neg e, ih n2 ((List.mem_cons.mp ha).resolve_left fun z => e z.symm)]; rfl
    cases k with
    | bits =>
      have hb : ∀ (l : List Nat) (c : Int), 0 ≤ c → l.Nodup → (a ∈ l → (l.map fun x => if x = a then (1 : Int) else 0).foldl bx c = bx c 1) ∧ (a ∉ l → (l.map fun x => if x = a then (1 : Int) else 0).foldl bx c = c) := fun l => by
        induction l with
        | nil => intro c _ _; exact ⟨(fun h => nomatch h), fun _ => rfl⟩
        | cons x l ih =>
          intro c hc nd
          obtain ⟨n1, n2⟩ := List.nodup_cons.mp nd
          simp only [List.map_cons, List.foldl_cons]
          have b0 : bx c 0 = c := by
            obtain ⟨n, rfl⟩ := nat_of hc
            rw [show (0 : Int) = ((0 : Nat) : Int) from rfl, bx_nat]; simp
          by_cases e : x = a
          · subst e
            rw [if_pos rfl]
            exact ⟨fun _ => (ih _ (bx_nn hc (by omega)) n2).2 n1, fun h => absurd List.mem_cons_self h⟩
          · rw [if_neg e, b0]
            exact ⟨fun h => (ih c hc n2).1 ((List.mem_cons.mp h).resolve_left fun z => e z.symm), fun h => (ih c hc n2).2 fun z => h (List.mem_cons_of_mem _ z)⟩
      show (l.map fun x => if x = a then (1 : Int) else 0).foldl bx 0 = 1
      rw [(hb l 0 (by omega) nd).1 ha, bx_zero (by omega)]
    | plain => exact hs l nd ha
    | dial m =>
      have := hd m rfl
      show _ % m = 1
      rw [hs l nd ha]
      exact Int.emod_eq_of_lt (by omega) (by omega)
  have e : (l.map fun x => if x = a then k.op (f x) 1 else f x) = l.map fun x => k.op (f x) (if x = a then 1 else 0) := List.map_congr_left fun x hx => by
    by_cases e : x = a
    · rw [if_pos e, if_pos e]
    · rw [if_neg e, if_neg e]
      cases k with
      | bits =>
        rw [op_bits (h rfl x hx)]
        obtain ⟨n, hn⟩ := nat_of (h rfl x hx)
        rw [hn, show (0 : Int) = ((0 : Nat) : Int) from rfl, bx_nat]; simp
      | plain => rw [op_plain]; omega
      | dial m => rw [op_dial, Int.add_zero, hv m rfl x hx]
  rw [e, tog_zip k l f _ (fun hk x hx => ⟨h hk x hx, by split <;> omega⟩), one]
theorem op_ne {k : Kind} {b x : Int} (hk : k.ok) (hv : k.val b x) : k.op x 1 ≠ x := by
  cases k with
  | bits =>
    rw [op_bits hv.1]
    obtain ⟨n, rfl⟩ := nat_of hv.1
    rw [show (1 : Int) = ((1 : Nat) : Int) from rfl, bx_nat]
    intro h
    have h : n ^^^ 1 = n := by omega
    have h2 : n ^^^ (n ^^^ 1) = n ^^^ n := by rw [h]
    rw [← Nat.xor_assoc, Nat.xor_self, Nat.zero_xor] at h2
    omega
  | plain => rw [op_plain]; omega
  | dial m =>
    have h3 : 3 ≤ m ∧ m ≤ 1000000000 := hk
    have hv : 0 ≤ x ∧ x ≤ m - 1 := hv
    rw [op_dial]
    by_cases e : x = m - 1
    · rw [e, show m - 1 + 1 = m by omega, Int.emod_self]; omega
    · rw [Int.emod_eq_of_lt (by omega) (by omega)]; omega
theorem op_val {k : Kind} {x y : Int} (hk : k.ok) (hx : k.val (10 ^ 29) x) (hy : k.val (10 ^ 29) y) : k.val (10 ^ 30) (k.op x y) := by
  cases k with
  | bits => rw [op_bits hx.1]; exact xor_val hx hy
  | plain =>
    have hx : -10 ^ 29 ≤ x ∧ x ≤ 10 ^ 29 := hx
    have hy : -10 ^ 29 ≤ y ∧ y ≤ 10 ^ 29 := hy
    rw [op_plain]; show -10 ^ 30 ≤ x + y ∧ x + y ≤ 10 ^ 30; omega
  | dial m => rw [op_dial]; exact mod_ok hk.1
end MI
namespace MI
open PySem L2
theorem nodup_of_filter {α : Type} (p : α → Bool) : ∀ l : List α, (l.filter p).Nodup → (l.filter fun x => !p x).Nodup → l.Nodup
  | [], _, _ => List.nodup_nil
  | x :: l, h1, h2 => by
    by_cases hp : p x = true
    · rw [List.filter_cons_of_pos hp] at h1
      rw [List.filter_cons_of_neg (by simp [hp])] at h2
      obtain ⟨n1, n2⟩ := List.nodup_cons.mp h1
      exact List.nodup_cons.mpr ⟨fun hm => n1 (List.mem_filter.mpr ⟨hm, hp⟩), nodup_of_filter p l n2 h2⟩
    · rw [List.filter_cons_of_neg hp] at h1
      rw [List.filter_cons_of_pos (by simp [hp])] at h2
      obtain ⟨n1, n2⟩ := List.nodup_cons.mp h2
      exact List.nodup_cons.mpr ⟨fun hm => n1 (List.mem_filter.mpr ⟨hm, by simp [hp]⟩), nodup_of_filter p l h1 n2⟩
theorem parts_sums : ∀ (cs : List Col) (n : Nat), ((partsFrom n cs).flatten.filter fun c => !c.isD) = (cs.flatMap Col.sums).map Cell.sum
  | [], n => rfl
  | c :: cs, n => by
    rw [partsFrom, List.flatten_cons, List.filter_append, List.filter_append, parts_sums cs, List.flatMap_cons, List.map_append]
    congr 1
    rw [List.filter_eq_self.mpr (by intro c hc; obtain ⟨s, _, rfl⟩ := List.mem_map.mp hc; rfl), List.filter_eq_nil_iff.mpr (by intro c hc; obtain ⟨s, _, rfl⟩ := List.mem_map.mp hc; simp [Cell.isD]), List.append_nil]
theorem nodup_map {α β : Type} (f : α → β) (hf : ∀ a b, f a = f b → a = b) : ∀ {l : List α}, l.Nodup → (l.map f).Nodup
  | [], _ => List.nodup_nil
  | x :: l, h => by
    obtain ⟨n1, n2⟩ := List.nodup_cons.mp h
    rw [List.map_cons]
    exact List.nodup_cons.mpr ⟨fun hm => by obtain ⟨y, hy, e⟩ := List.mem_map.mp hm; exact n1 (hf _ _ e ▸ hy), nodup_map f hf n2⟩
theorem cells_nodup {h : Chart} (w : h.Wf) : h.cells.Nodup := by
  refine nodup_of_filter Cell.isD _ ?_ ?_
  · rw [cells_data]; exact nodup_map _ (fun a b e => by injection e) List.nodup_range
  · unfold Chart.cells Chart.parts
    rw [parts_sums]; exact nodup_map _ (fun a b e => by injection e) w.sd
theorem sum_mem_cells {h : Chart} {s : Str} (hs : s ∈ h.sums) : Cell.sum s ∈ h.cells := by
  have : Cell.sum s ∈ h.cells.filter fun c => !c.isD := by
    unfold Chart.cells Chart.parts
    rw [parts_sums]; exact List.mem_map_of_mem hs
  exact (List.mem_filter.mp this).1
theorem datum_mem_cells {h : Chart} {n : Nat} (hn : n < h.data.length) : Cell.datum n ∈ h.cells := by
  have : Cell.datum n ∈ h.cells.filter Cell.isD := by rw [cells_data]; exact List.mem_map_of_mem (List.mem_range.mpr hn)
  exact (List.mem_filter.mp this).1
/-! ### sorted texts -/
theorem isort_perm_eq {xs ys : List Str} (h : xs.Perm ys) : isortB leS xs = isortB leS ys :=
  srt_unique (le := fun a b => leS a b = true) leS_anti ((isortB_perm leS xs).trans (h.trans (isortB_perm leS ys).symm)) (isortB_srt leS_tr leS_tot xs) (isortB_srt leS_tr leS_tot ys)
theorem fSorted_strs {o : Bool} {xs : List Str} (h : xs.length < 64) : fSorted (.nd (.lst o) (xs.map T.str)) = some (.nd (.lst true) ((isortB leS xs).map T.str)) := by
  cases xs with
  | nil => simp [fSorted, kA, intsOf, isortB]
  | cons x xs =>
    have e1 : intsOf ((x :: xs).map T.str) = none := rfl
    simp only [fSorted, kA, Option.bind_some, e1, strsOf_map, h, if_true]
mutual
theorem eqT_self : ∀ (t : T) (n : Nat), okD n t = true → PyData.eqv (toD t) (toD t) = true
  | .dead, n, h => by cases n <;> simp [okD] at h
  | .non, _, _ => by simp [toD, PyData.eqv]
  | .bl b, _, _ => by simp [toD, PyData.eqv]
  | .int i, _, _ => by simp [toD, PyData.eqv]
  | .str s, _, _ => by simp [toD, PyData.eqv]
  | .nd k ts, 0, h => by simp [okD] at h
  | .nd k ts, n + 1, h => by
    rw [okD_nd, Bool.and_eq_true] at h
    have ih := eqTL_self ts n h.2
    by_cases hk : k.isTup = true
    · simp only [toD, hk, if_true, PyData.eqv]; exact ih
    · simp only [toD, hk, if_false, PyData.eqv, Bool.false_eq_true]; exact ih
theorem eqTL_self : ∀ (ts : List T) (n : Nat), okDL n ts = true → PyData.eqvAll (toDL ts) (toDL ts) = true
  | [], _, _ => by simp [PyData.eqvAll]
  | t :: ts, n, h => by
    rw [okDL_cons, Bool.and_eq_true] at h
    simp only [toDL_cons, PyData.eqvAll, eqT_self t n h.1, eqTL_self ts n h.2, Bool.and_self]
end
theorem fNe_self {t : T} (h : okD 60 t = true) : fNe t t = some (.bl false) := by
  rw [fNe_ok h h]
  simp [eqT, eqT_self t 60 h]
theorem eqT_cell (c d : Cell) : eqT c.t d.t = decide (c = d) := by
  cases c with
  | sum s =>
    cases d with
    | sum s' => simp [eqT, Cell.t, PyData.eqv, PyData.eqvAll, toD]; rfl
    | datum n => simp [eqT, Cell.t, PyData.eqv, PyData.eqvAll, toD]
  | datum n =>
    cases d with
    | sum s' => simp [eqT, Cell.t, PyData.eqv, PyData.eqvAll, toD]
    | datum n' => simp [eqT, Cell.t, PyData.eqv, PyData.eqvAll, toD]; rw [Bool.eq_iff_iff]; simp; omega
def Cell.nm : Cell → Prop
  | .sum s => nameB s = true
  | .datum _ => True
theorem okD_cell {n : Nat} {c : Cell} (h : c.nm) : okD (n + 1) c.t = true := by
  cases c with
  | sum s => simp [Cell.t, okS_name (show nameB s = true from h)]
  | datum k => simp [Cell.t]
theorem cell_nm {h : Chart} (w : h.Wf) {c : Cell} (hc : c ∈ h.cells) : c.nm := by
  have := cells_mem hc
  cases c with
  | sum s => exact w.sn s this
  | datum n => trivial
theorem any_eqT_cell {c : Cell} : ∀ {cs : List Cell}, (cs.map Cell.t).any (fun t => eqT t c.t) = decide (c ∈ cs)
  | [] => by simp
  | d :: cs => by
    rw [List.map_cons, List.any_cons, any_eqT_cell, eqT_cell]
    by_cases e : d = c
    · subst e; simp
    · have e' : ¬ c = d := fun z => e z.symm
      simp [e, e']
theorem cell_flat {c : Cell} : c.t.flat = false := by cases c <;> rfl
theorem fIn_cells {o : Bool} {c : Cell} {cs : List Cell} (hc : c.nm) (hs : ∀ d ∈ cs, d.nm) : fIn c.t (.nd (.lst o) (cs.map Cell.t)) = some (.bl (decide (c ∈ cs))) := by
  have h1 : fInF false c.t (.nd (.lst o) (cs.map Cell.t)) = none := by simp [fInF, kids, cell_flat]
  have h2 : fInD false c.t (.nd (.lst o) (cs.map Cell.t)) = some (.bl (decide (c ∈ cs))) := by
    simp [fInD, okD_cell (n := 49) hc, okDL_map (n := 50) (f := Cell.t) (xs := cs) (fun d hd => okD_cell (n := 49) (hs d hd))]
    have := any_eqT_cell (c := c) (cs := cs)
    rw [List.any_map] at this
    exact this
  simp only [fIn, oe2, h1, h2]
/-- the text of a cell -/
def Cell.rp (c : Cell) : Str := reprT c.t
theorem cell_repr {c : Cell} (h : c.nm) (hb : match c with
    | .datum n => n < 1000
    | _ => True) : fRepr c.t = some (.str c.rp) := by
  refine fRepr_ok (okD_cell (n := 59) h) ?_ ?_
  · cases c with
    | sum s => simp [Cell.t]
    | datum n => have hb : n < 1000 := hb; simp [Cell.t]; omega
  · cases c with
    | sum s =>
      have := name_len (show nameB s = true from h)
      have e : (Str.ofString "sum").length = 3 := by decide +kernel
      simp [Cell.t]
      omega
    | datum n =>
      have e : (Str.ofString "datum").length = 5 := by decide +kernel
      simp [Cell.t]
      omega
def Kind.isDial : Kind → Bool
  | .dial _ => true
  | _ => false
@[simp] theorem isB_int_kind {k : Kind} : isB .int k.t = some (.bl k.isDial) := by cases k <;> rfl
@[simp] theorem fIx_chart0 {h : Chart} : fIx h.l (.int 0) = some h.kind.t := by simp [Chart.l]
@[simp] theorem fIx_chart1 {h : Chart} : fIx h.l (.int 1) = some (.nd (.lst false) (h.cols.map Col.l)) := by simp [Chart.l]
def smallV (v : Int) : Prop := 0 ≤ v ∧ v ≤ 899
theorem small_spec {n : Nat} {a b c : Int} {h : Chart} {Q : T × List T → Prop} (hj : JarOk n a b c) (hn : n ≤ 1000000) (w : h.Wf)
    (q : ∀ (vs : List Int) a' b' c', vs.length = h.data.length → (∀ v ∈ vs, 0 ≤ v ∧ v ≤ 899 ∧ h.kind.val (10 ^ 29) v) → JarOk (n + 24) a' b' c' → Q (.nd (.lst true) (vs.map T.int), [jarT a' b' c'])) : EvO (c__law_small [jarT a b c, h.l]) Q := by
  refine EvO_runB rfl ?_
  have d24 := w.d24
  simp [m__law_small, pairs_ok w]
  refine lc_inv (enc := pairT) (xs := h.data) (fun pre acc Ts => ∃ (vs : List Int) (a' b' c' : Int), acc = vs.map T.int ∧ Ts = [jarT a' b' c', h.l, .dead] ∧ vs.length = pre.length ∧ (∀ v ∈ vs, 0 ≤ v ∧ v ≤ 899 ∧ h.kind.val (10 ^ 29) v) ∧ JarOk (n + pre.length) a' b' c') (by simp) ⟨[], a, b, c, rfl, by simp, rfl, by simp, hj⟩ ?_ ?_
  · rintro pre x post e acc Ts ⟨vs, a', b', c', rfl, rfl, hl, hv, hjj⟩
    have hpl : pre.length < h.data.length := by rw [e]; simp
    have hsz : vs.length < 16777216 := by omega
    have fin : ∀ (v a2 b2 c2 : Int) (acc : List T), acc = (vs ++ [v]).map T.int → (0 ≤ v ∧ v ≤ 899 ∧ h.kind.val (10 ^ 29) v) → JarOk (n + pre.length + 1) a2 b2 c2 → Inn (fun Ts => ∃ (us : List Int) (a' b' c' : Int), acc = us.map T.int ∧ Ts = [jarT a' b' c', h.l, .dead] ∧ us.length = (pre ++ [x]).length ∧ (∀ v ∈ us, 0 ≤ v ∧ v ≤ 899 ∧ h.kind.val (10 ^ 29) v) ∧ JarOk (n + (pre ++ [x]).length) a' b' c') [jarT a2 b2 c2, h.l, .dead] := fun v a2 b2 c2 acc he hvv hj2 => by
      refine Inn.mk ⟨vs ++ [v], a2, b2, c2, he, rfl, by simp [hl], ?_, ?_⟩
      · intro x hx
        rcases List.mem_append.mp hx with hx | hx
        · exact hv x hx
        · rw [List.mem_singleton.mp hx]; exact hvv
      · rw [List.length_append]; exact hj2
    have hk := w.k
    simp
    split
    · rename_i hd
      refine dip_spec hjj (by omega) (by omega) (by omega) fun d a2 b2 c2 d0 d1 hj2 => ?_
      simp [hsz]
      refine fin d a2 b2 c2 _ (by simp) ⟨d0, by omega, ?_⟩ hj2
      cases hkk : h.kind with
      | bits => exact ⟨d0, by omega⟩
      | plain => exact ⟨by omega, by omega⟩
      | dial m => rw [hkk] at hk; have hk : 3 ≤ m ∧ m ≤ 1000000000 := hk; exact ⟨d0, by omega⟩
    · rename_i hd
      refine dip_spec hjj (by omega) (by omega) (by omega) fun d a2 b2 c2 d0 d1 hj2 => ?_
      simp [hsz]
      refine fin d a2 b2 c2 _ (by simp) ⟨d0, by omega, ?_⟩ hj2
      cases hkk : h.kind with
      | bits => exact ⟨d0, by omega⟩
      | plain => exact ⟨by omega, by omega⟩
      | dial m => rw [hkk] at hd; simp [Kind.isDial] at hd
  · rintro acc Ts ⟨vs, a', b', c', rfl, rfl, hl, hv, hjj⟩
    simp
    exact q vs _ _ _ hl hv (hjj.mono (by omega))
theorem val_weaken {k : Kind} {a b v : Int} (hab : a ≤ b) (h : k.val a v) : k.val b v := by
  cases k with
  | bits => exact h
  | plain => obtain ⟨h1, h2⟩ := h; exact ⟨by omega, by omega⟩
  | dial m => exact h
theorem cv_zip {h : Chart} (vs us : List Int) (hl : vs.length = h.data.length) (hl2 : us.length = h.data.length) (hn : h.kind = .bits → (∀ v ∈ vs, 0 ≤ v) ∧ ∀ v ∈ us, 0 ≤ v) {c : Cell} (hc : c ∈ h.cells) :
    h.cv ((List.range h.data.length).map fun k => h.kind.op (vs.getD k 0) (us.getD k 0)) c = h.kind.op (h.cv vs c) (h.cv us c) := by
  have hm := cells_mem hc
  have g : ∀ k, k < h.data.length → ((List.range h.data.length).map fun k => h.kind.op (vs.getD k 0) (us.getD k 0)).getD k 0 = h.kind.op (vs.getD k 0) (us.getD k 0) := fun k hk => by
    rw [List.getD_eq_getElem?_getD, List.getElem?_map, List.getElem?_range hk]; rfl
  have nn : ∀ (ws : List Int) (k : Nat), (∀ v ∈ ws, 0 ≤ v) → 0 ≤ ws.getD k 0 := fun ws k hw => by
    rw [List.getD_eq_getElem?_getD]
    cases e : ws[k]? with
    | none => simp
    | some v => exact hw v (List.mem_of_getElem? e)
  cases c with
  | datum n => exact g n hm
  | sum s =>
    show h.kind.tog _ = _
    rw [show ((dataIn h.data s).map fun k => ((List.range h.data.length).map fun k => h.kind.op (vs.getD k 0) (us.getD k 0)).getD k 0) = (dataIn h.data s).map fun k => h.kind.op (vs.getD k 0) (us.getD k 0) from List.map_congr_left fun k hk => g k (dataIn_lt hk)]
    exact tog_zip h.kind _ _ _ fun hb k _ => ⟨nn vs k (hn hb).1, nn us k (hn hb).2⟩
theorem dataIn_nodup (d : List (Str × Str)) (s : Str) : (dataIn d s).Nodup := List.nodup_range.sublist (List.filter_sublist)
theorem mem_dataIn {d : List (Str × Str)} {s : Str} {k : Nat} (hk : k < d.length) : k ∈ dataIn d s ↔ inP s d[k] = true := by
  unfold dataIn
  rw [List.mem_filter, List.getD_eq_getElem?_getD, List.getElem?_eq_getElem hk]
  simp [hk]
/-- what a changed datum touches -/
def Chart.touched (h : Chart) (n : Nat) : List Cell := match h.data[n]? with
  | some p => [.datum n, .sum p.1, .sum p.2]
  | none => []
theorem cv_one {h : Chart} (w : h.Wf) (vs : List Int) (hl : vs.length = h.data.length) (hv : ∀ v ∈ vs, h.kind.val (10 ^ 30) v) {n : Nat} (hn : n < h.data.length) {c : Cell} (hc : c ∈ h.cells) :
    h.cv (vs.set n (h.kind.op (vs.getD n 0) 1)) c = if c ∈ h.touched n then h.kind.op (h.cv vs c) 1 else h.cv vs c := by
  have hm := cells_mem hc
  have et : h.touched n = [.datum n, .sum h.data[n].1, .sum h.data[n].2] := by unfold Chart.touched; rw [List.getElem?_eq_getElem hn]
  have g : ∀ k, (vs.set n (h.kind.op (vs.getD n 0) 1)).getD k 0 = if k = n then h.kind.op (vs.getD k 0) 1 else vs.getD k 0 := fun k => by
    by_cases e : k = n
    · subst e
      rw [if_pos rfl, List.getD_eq_getElem?_getD, List.getElem?_set_self (by omega)]; rfl
    · rw [if_neg e, List.getD_eq_getElem?_getD, List.getElem?_set_ne (fun z => e z.symm), List.getD_eq_getElem?_getD]
  have hval : ∀ k, k < vs.length → h.kind.val (10 ^ 30) (vs.getD k 0) := fun k hk => by
    rw [List.getD_eq_getElem?_getD, List.getElem?_eq_getElem hk]; exact hv _ (List.getElem_mem _)
  cases c with
  | datum k =>
    show (vs.set n _).getD k 0 = _
    rw [g k, et]
    by_cases e : k = n
    · subst e; simp; rfl
    · simp [e]; rfl
  | sum s =>
    show h.kind.tog _ = _
    rw [show ((dataIn h.data s).map fun k => (vs.set n (h.kind.op (vs.getD n 0) 1)).getD k 0) = (dataIn h.data s).map fun k => if k = n then h.kind.op (vs.getD k 0) 1 else vs.getD k 0 from List.map_congr_left fun k _ => g k]
    by_cases hs : n ∈ dataIn h.data s
    · have hin := (mem_dataIn hn).mp hs
      have : Cell.sum s ∈ h.touched n := by
        rw [et]
        simp only [inP, Bool.or_eq_true, decide_eq_true_eq] at hin
        rcases hin with e | e <;> simp [e]
      rw [if_pos this]
      refine tog_one h.kind _ _ n (dataIn_nodup _ _) hs (fun hb k hk => ?_) (fun m hk => ?_) fun m hk k hkk => ?_
      · have := hval k (by have := dataIn_lt hk; omega)
        rw [hb] at this; exact this.1
      · have := w.k; rw [hk] at this; exact this.1
      · have h1 := hval k (by have := dataIn_lt hkk; omega)
        rw [hk] at h1
        have h1 : 0 ≤ vs.getD k 0 ∧ vs.getD k 0 ≤ m - 1 := h1
        exact Int.emod_eq_of_lt h1.1 (by omega)
    · have : Cell.sum s ∉ h.touched n := by
        rw [et]
        intro hm
        apply hs
        rw [mem_dataIn hn]
        simp at hm
        simp only [inP, Bool.or_eq_true, decide_eq_true_eq]
        exact hm
      rw [if_neg this]
      show _ = h.kind.tog _
      congr 1
      exact List.map_congr_left fun k hk => if_neg fun z => hs (by rw [← z]; exact hk)
theorem touched_nodup {h : Chart} (w : h.Wf) {n : Nat} (hn : n < h.data.length) : (h.touched n).Nodup := by
  have et : h.touched n = [.datum n, .sum h.data[n].1, .sum h.data[n].2] := by unfold Chart.touched; rw [List.getElem?_eq_getElem hn]
  have hp := w.dp _ (List.getElem_mem hn)
  have hne : h.data[n].1 ≠ h.data[n].2 := fun z => by have := hp.2.2; rw [z, ltS_irrefl] at this; cases this
  rw [et]; simp [hne]
theorem touched_cells {h : Chart} (w : h.Wf) {n : Nat} (hn : n < h.data.length) : ∀ c ∈ h.touched n, c ∈ h.cells := by
  have et : h.touched n = [.datum n, .sum h.data[n].1, .sum h.data[n].2] := by unfold Chart.touched; rw [List.getElem?_eq_getElem hn]
  have hp := w.dp _ (List.getElem_mem hn)
  rw [et]
  intro c hc
  simp at hc
  rcases hc with rfl | rfl | rfl
  · exact datum_mem_cells hn
  · exact sum_mem_cells hp.1
  · exact sum_mem_cells hp.2.1
end MI
namespace MI
open PySem L2
theorem fMul_zeros {n : Nat} (h : n ≤ 1000) : fMul (.nd .tup [.int 0]) (.int n) = some (.nd .tup ((List.replicate n (0:Int)).map T.int)) := by
  have h1 : fMulT (.nd .tup [.int 0]) (.int n) = some (.nd .tup ((List.replicate n (0:Int)).map T.int)) := by
    have hf : (List.replicate n [T.int 0]).flatten = (List.replicate n (0:Int)).map T.int := by
      clear h
      induction n with
      | zero => rfl
      | succ n ih => rw [List.replicate_succ, List.flatten_cons, ih, List.replicate_succ]; rfl
    have hi : immL [T.int 0] = true := by simp
    have a1 : (-1000 : Int) ≤ n := by omega
    have a2 : (n : Int) ≤ 1000 := by omega
    simp [fMulT, hi, a1, a2, hf]
  simp [fMul, oe2, fII, fMulL, kLe, h1]
theorem getD_replicate0 (n k : Nat) : (List.replicate n (0 : Int)).getD k 0 = 0 := by
  rw [List.getD_eq_getElem?_getD, List.getElem?_replicate]; split <;> rfl
theorem full_zeros {h : Chart} : h.full (List.replicate h.data.length 0) = List.replicate h.cells.length 0 := by
  unfold Chart.full
  rw [show h.cells.map (h.cv (List.replicate h.data.length 0)) = h.cells.map fun _ => (0 : Int) from List.map_congr_left fun c hc => ?_]
  · exact List.map_const' ..
  · cases c with
    | datum n => exact getD_replicate0 _ _
    | sum s =>
      show h.kind.tog _ = 0
      rw [show ((dataIn h.data s).map fun k => (List.replicate h.data.length (0 : Int)).getD k 0) = (dataIn h.data s).map fun _ => 0 from List.map_congr_left fun k _ => getD_replicate0 _ _]
      exact tog_zero _ _
def Chart.both (h : Chart) (vs us : List Int) : List Int := (List.range h.data.length).map fun k => h.kind.op (vs.getD k 0) (us.getD k 0)
theorem full_both {h : Chart} (vs us : List Int) (hl : vs.length = h.data.length) (hl2 : us.length = h.data.length) (hn : h.kind = .bits → (∀ v ∈ vs, 0 ≤ v) ∧ ∀ v ∈ us, 0 ≤ v) :
    h.full (h.both vs us) = (List.range h.cells.length).map fun k => h.kind.op ((h.full vs).getD k 0) ((h.full us).getD k 0) := by
  refine List.ext_getElem (by simp [Chart.full]) fun i h1 h2 => ?_
  have hi : i < h.cells.length := by simpa [Chart.full] using h1
  have e : ∀ ws : List Int, (h.full ws).getD i 0 = h.cv ws h.cells[i] := fun ws => by
    unfold Chart.full
    rw [List.getD_eq_getElem?_getD, List.getElem?_map, List.getElem?_eq_getElem hi]; rfl
  rw [List.getElem_map, List.getElem_range, e vs, e us, ← cv_zip vs us hl hl2 hn (List.getElem_mem hi)]
  have := e (h.both vs us)
  rw [List.getD_eq_getElem?_getD, List.getElem?_eq_getElem h1] at this
  exact this
theorem zero_val {h : Chart} (w : h.Wf) : h.kind.val (10 ^ 30) 0 := by
  have hk := w.k
  generalize h.kind = k at *
  cases k with
  | bits => exact ⟨by omega, by omega⟩
  | plain => exact ⟨by omega, by omega⟩
  | dial m => have : 3 ≤ m ∧ m ≤ 1000000000 := hk; exact ⟨by omega, by omega⟩
theorem one_val {h : Chart} (w : h.Wf) : h.kind.val (10 ^ 29) 1 := by
  have hk := w.k
  generalize h.kind = k at *
  cases k with
  | bits => exact ⟨by omega, by omega⟩
  | plain => exact ⟨by omega, by omega⟩
  | dial m => have : 3 ≤ m ∧ m ≤ 1000000000 := hk; exact ⟨by omega, by omega⟩
theorem atI_nat {α : Type} {xs : List α} {k : Nat} (hk : k < xs.length) : atI xs (k : Int) = some xs[k] := atI_of rfl hk
theorem atI_getD {xs : List Int} {k : Nat} (hk : k < xs.length) : atI (xs.map T.int) (k : Int) = some (.int (xs.getD k 0)) := by
  rw [atI_nat (by simpa using hk), List.getElem_map, List.getD_eq_getElem?_getD, List.getElem?_eq_getElem hk]; rfl
theorem rng1_nat {n : Nat} (h : n ≤ 1000) : rng1 [.int n] = some ((List.range n).map natT) := by
  rw [rng1_int (by omega) (by omega), rangeT_zero, Int.toNat_natCast]
theorem tog2_ok {k : Kind} {a b : Int} (hk : k.ok) : c__law_together [k.t, .nd (.lst false) [.int a, .int b]] = some (.int (k.op a b), []) := law_together_ok (vs := [a, b]) hk
theorem map_getD_range {α : Type} (d : α) (cs : List α) : (List.range cs.length).map (fun k => cs.getD k d) = cs := by
  refine List.ext_getElem (by simp) fun i h1 h2 => ?_
  rw [List.getElem_map, List.getElem_range, List.getD_eq_getElem?_getD, List.getElem?_eq_getElem h2]; rfl
theorem range_filter_map {α β : Type} (d : α) (cs : List α) (q : α → Bool) (f : α → β) : ((List.range cs.length).filter fun k => q (cs.getD k d)).map (fun k => f (cs.getD k d)) = (cs.filter q).map f := by
  have h := map_getD_range d cs
  have h2 : (cs.filter q) = ((List.range cs.length).filter fun k => q (cs.getD k d)).map fun k => cs.getD k d := by
    conv => lhs; rw [← h]
    rw [List.filter_map]; rfl
  rw [h2, List.map_map]; rfl
theorem moved_perm {h : Chart} (w : h.Wf) {n : Nat} (hn : n < h.data.length) : (h.cells.filter fun c => decide (c ∈ h.touched n)).Perm (h.touched n) := by
  refine (List.perm_ext_iff_of_nodup ((cells_nodup w).sublist List.filter_sublist) (touched_nodup w hn)).mpr fun c => ?_
  rw [List.mem_filter, decide_eq_true_eq]
  exact ⟨fun z => z.2, fun z => ⟨touched_cells w hn c z, z⟩⟩
theorem touched_eq {h : Chart} {n : Nat} (hn : n < h.data.length) : h.touched n = [.datum n, .sum h.data[n].1, .sum h.data[n].2] := by
  unfold Chart.touched; rw [List.getElem?_eq_getElem hn]
theorem right06_spec {n : Nat} {a b c : Int} (hj : JarOk n a b c) (hn : n ≤ 1000) : EvO (c__law_right_v1 [jarT a b c]) fun p => p.1 = .bl true := by
  refine EvO_runB rfl ?_
  simp [m__law_right_v1, rng1_int, rangeT_zero]
  refine loop_inv (fun pre Ts => ∃ (a' b' c' : Int) (u4 u5 u6 u7 u8 u9 u10 u11 u12 u13 u14 u15 u16 u17 u18 u19 u1 u2 u3 : T), Ts = [jarT a' b' c', u1, u2, u3, u4, u5, u6, u7, u8, u9, u10, u11, u12, u13, u14, u15, u16, u17, u18, u19] ∧ JarOk (n + 1000 * pre.length) a' b' c' ∧ hidOk u1 = true ∧ hidOk u2 = true ∧ hidOk u3 = true) ⟨a, b, c, .dead, .dead, .dead, .dead, .dead, .dead, .dead, .dead, .dead, .dead, .dead, .dead, .dead, .dead, .dead, .dead, .dead, .dead, .dead, rfl, hj, rfl, rfl, rfl⟩ ?_ ?_
  · rintro pre x post e Ts ⟨a', b', c', u4, u5, u6, u7, u8, u9, u10, u11, u12, u13, u14, u15, u16, u17, u18, u19, u1, u2, u3, rfl, hjj, hu1, hu2, hu3⟩
    have hpl : pre.length < 3 := by
      have := congrArg List.length e
      simp at this; omega
    simp
    refine chart_spec (most := 5) (sm := 8) (dm := 12) hjj (by omega) (by omega) (by omega) (by omega) (by omega) (by omega) fun h a1 b1 c1 w _ _ hdm hj1 => ?_
    simp
    rw [show T.nd (.lst false) [h.kind.t, .nd (.lst false) (h.cols.map Col.l)] = h.l from rfl, made_ok w]
    simp
    refine small_spec hj1 (by omega) w fun vs a2 b2 c2 hl hv hj2 => ?_
    simp
    refine small_spec hj2 (by omega) w fun us a3 b3 c3 hl2 hv2 hj3 => ?_
    have hcl := cells_len h
    have d24 := w.d24
    have s10 := w.s10
    have s1 := w.s1
    simp [hl, hl2]
    rw [rng1_nat (by omega)]
    simp
    refine lc_pure (enc := natT) (xs := List.range h.data.length) (fun _ => true) (fun k => .int (h.kind.op (vs.getD k 0) (us.getD k 0))) (by simp [hu1]) (by simp; omega) (fun k hk => ?_) ?_
    · have hk : k < h.data.length := by simpa using hk
      simp [natT]
      rw [atI_getD (by omega)]
      simp
      rw [atI_getD (by omega)]
      simp [tog2_ok w.k]
    · rw [show (((List.range h.data.length).filter fun _ => true).map fun k => T.int (h.kind.op (vs.getD k 0) (us.getD k 0))) = (h.both vs us).map T.int by unfold Chart.both; rw [filter_tt, List.map_map]; rfl]
      have hlb : (h.both vs us).length = h.data.length := by simp [Chart.both]
      have hfb := full_both vs us hl hl2 fun _ => ⟨fun v hvv => (hv v hvv).1, fun v hvv => (hv2 v hvv).1⟩
      have gv : ∀ (ws : List Int), (∀ v ∈ ws, 0 ≤ v ∧ v ≤ 899 ∧ h.kind.val (10 ^ 29) v) → ws.length = h.data.length → ∀ k, k < h.data.length → h.kind.val (10 ^ 29) (ws.getD k 0) := fun ws hw e k hk => by
        rw [List.getD_eq_getElem?_getD, List.getElem?_eq_getElem (by omega)]; exact (hw _ (List.getElem_mem _)).2.2
      have hbv : ∀ v ∈ h.both vs us, h.kind.val (10 ^ 30) v := fun v hvv => by
        obtain ⟨k, hk, rfl⟩ := List.mem_map.mp hvv
        have hk : k < h.data.length := by simpa using hk
        exact op_val w.k (gv vs hv hl k hk) (gv us hv2 hl2 k hk)
      have w30 : ∀ (ws : List Int), (∀ v ∈ ws, 0 ≤ v ∧ v ≤ 899 ∧ h.kind.val (10 ^ 29) v) → ∀ v ∈ ws, h.kind.val (10 ^ 30) v := fun ws hw v hvv => val_weaken (by omega) (hw v hvv).2.2
      generalize hbo : h.both vs us = bo at *
      simp [table_full w hl (w30 vs hv), table_full w hl2 (w30 us hv2), table_full w hlb hbv]
      have hFl : (h.full vs).length = h.cells.length := by simp [Chart.full]
      have hGl : (h.full us).length = h.cells.length := by simp [Chart.full]
      have hfz := full_zeros (h := h)
      have hFc : ∀ ws : List Int, ws.length = h.data.length → (h.full ws).length = h.cells.length := fun ws _ => by simp [Chart.full]
      rw [hFl, rng1_nat (by omega)]
      simp
      refine lc_pure (enc := natT) (xs := List.range h.cells.length) (fun _ => true) (fun k => .int (h.kind.op ((h.full vs).getD k 0) ((h.full us).getD k 0))) (by simp [hu1]) (by simp; omega) (fun k hk => ?_) ?_
      · have hk : k < h.cells.length := by simpa using hk
        simp [natT]
        rw [atI_getD (by omega)]
        simp
        rw [atI_getD (by omega)]
        simp [tog2_ok w.k]
      · rw [show (((List.range h.cells.length).filter fun _ => true).map fun k => T.int (h.kind.op ((h.full vs).getD k 0) ((h.full us).getD k 0))) = (h.full bo).map T.int by rw [hfb, filter_tt, List.map_map]; rfl]
        rw [fNe_self (by simp [okDL_ints])]
        generalize hF : h.full vs = F at *
        generalize hG : h.full us = G at *
        generalize hFB : h.full bo = FB at *
        simp [hl, hFl]
        rw [fMul_zeros (by omega)]
        simp [-List.map_replicate]
        rw [table_full w (by simp) (fun v hvv => by rw [(List.mem_replicate.mp hvv).2]; exact zero_val w), hfz]
        simp [-List.map_replicate, hFl]
        rw [fMul_zeros (by omega)]
        simp [-List.map_replicate]
        rw [fNe_self (by simp [okDL_ints, -List.map_replicate])]
        simp [-List.map_replicate, hl]
        rw [rng1_nat (by omega)]
        simp
        refine loop_inv (fun pre' Ts => ∃ (u14 u15 u16 u17 u18 u19 u1 u2 u3 : T), Ts = [jarT a3 b3 c3, u1, u2, u3, natT x, h.l, h.tab, h.kind.t, T.nd (Kd.lst false) (List.map T.int vs),
        T.nd (Kd.lst false) (List.map T.int us), T.nd (Kd.lst true) (List.map T.int bo), T.nd Kd.tup (List.map T.int F),
        T.nd Kd.tup (List.map T.int G), T.nd Kd.tup (List.map T.int FB), u14, u15, u16, u17, u18, u19] ∧ hidOk u1 = true ∧ hidOk u2 = true ∧ hidOk u3 = true) ⟨_, _, _, _, _, _, _, _, _, rfl, hu1, hu2, hu3⟩ ?_ ?_
        · rintro pre' at_ post' e' Ts ⟨u14, u15, u16, u17, u18, u19, u1, u2, u3, rfl, hu1, hu2, hu3⟩
          have hat : at_ < h.data.length := by
            have : at_ ∈ List.range h.data.length := by rw [e']; simp
            simpa using this
          simp [natT]
          rw [fCut_lst (by simp), cutT_map, cutT_take]
          generalize hv1 : vs.take at_ = v1
          have hl1 : v1.length = at_ := by rw [← hv1, List.length_take]; omega
          simp
          rw [atI_getD (by omega)]
          have l1 : v1.length + 1 ≤ 16777216 := by omega
          have l1' : v1.length < 16777216 := by omega
          simp [tog2_ok w.k, l1, l1']
          rw [fCut_lst (by simp), show ((at_ : Int) + 1) = ((at_ + 1 : Nat) : Int) by omega, cutT_map, cutT_drop]
          generalize hv3 : vs.drop (at_ + 1) = v3
          have hl3 : v3.length = vs.length - (at_ + 1) := by rw [← hv3, List.length_drop]
          have l2 : v1.length + 1 + v3.length ≤ 16777216 := by omega
          have l3 : v1.length + (1 + v3.length) ≤ 16777216 := by omega
          have hset : v1.map T.int ++ T.int (h.kind.op (vs.getD at_ 0) 1) :: v3.map T.int = (vs.set at_ (h.kind.op (vs.getD at_ 0) 1)).map T.int := by
            rw [← set_split _ _ _ (by omega), hv1, hv3]; simp
          simp only [List.getD_eq_getElem?_getD] at hset
          simp [l1, l2, l3, l1']
          rw [hset]
          have hsl : (vs.set at_ (h.kind.op (vs.getD at_ 0) 1)).length = h.data.length := by rw [List.length_set]; exact hl
          have hsv : ∀ v ∈ vs.set at_ (h.kind.op (vs.getD at_ 0) 1), h.kind.val (10 ^ 30) v := fun v hvv => by
            rcases List.mem_or_eq_of_mem_set hvv with hm | hm
            · exact w30 vs hv v hm
            · rw [hm]; exact op_val w.k (gv vs hv hl at_ hat) (one_val w)
          have hc1 := fun c (hc : c ∈ h.cells) => cv_one w vs hl (w30 vs hv) hat (c := c) hc
          simp only [List.getD_eq_getElem?_getD] at hsl hsv hc1
          generalize hnv : vs.set at_ (h.kind.op (vs[at_]?.getD 0) 1) = nv at *
          simp [table_full w hsl hsv, places_ok w]
          have hNl : (h.full nv).length = h.cells.length := by simp [Chart.full]
          have hNg : ∀ k, (hk : k < h.cells.length) → (h.full nv).getD k 0 = h.cv nv h.cells[k] := fun k hk => by
            unfold Chart.full
            rw [List.getD_eq_getElem?_getD, List.getElem?_map, List.getElem?_eq_getElem hk]; rfl
          have hFg : ∀ k, (hk : k < h.cells.length) → F.getD k 0 = h.cv vs h.cells[k] := fun k hk => by
            rw [← hF]
            unfold Chart.full
            rw [List.getD_eq_getElem?_getD, List.getElem?_map, List.getElem?_eq_getElem hk]; rfl
          have hCg : ∀ k, (hk : k < h.cells.length) → h.cells.getD k (.datum 0) = h.cells[k] := fun k hk => by
            rw [List.getD_eq_getElem?_getD, List.getElem?_eq_getElem hk]; rfl
          have hCt : ∀ k, (hk : k < h.cells.length) → atI (h.cells.map Cell.t) (k : Int) = some h.cells[k].t := fun k hk => by
            rw [atI_nat (by simpa using hk), List.getElem_map]
          have hNe : ∀ c ∈ h.cells, (!decide (h.cv nv c = h.cv vs c)) = decide (c ∈ h.touched at_) := fun c hc => by
            rw [hc1 c hc]
            by_cases ht : c ∈ h.touched at_
            · rw [if_pos ht]
              have := op_ne w.k (cv_val w hl (w30 vs hv) hc)
              simp [this, ht]
            · rw [if_neg ht]; simp [ht]
          have hNF : ∀ k, (hk : k < h.cells.length) → h.cells[k] ∈ h.touched at_ → (h.full nv).getD k 0 = h.kind.op (F.getD k 0) 1 := fun k hk ht => by
            rw [hNg k hk, hFg k hk, hc1 _ (List.getElem_mem hk), if_pos ht]
          have hmc : ∀ c ∈ h.cells, c.nm := fun c hc => cell_nm w hc
          have hmd : ∀ c ∈ h.cells, fRepr c.t = some (.str c.rp) := fun c hc => cell_repr (cell_nm w hc) (by
            have := cells_mem hc
            cases c with
            | sum s => trivial
            | datum n => have : n < h.data.length := this; show n < 1000; omega)
          have htc := touched_cells w hat
          have hper := moved_perm w hat
          have hte := touched_eq (h := h) hat
          generalize hNN : h.full nv = NN at *
          rw [rng1_nat (by omega)]
          simp
          refine lc_pure (enc := natT) (xs := List.range h.cells.length) (fun k => decide (h.cells.getD k (.datum 0) ∈ h.touched at_)) (fun k => (h.cells.getD k (.datum 0)).t) (by simp [hu1]) (by simp; omega) (fun k hk => ?_) ?_
          · have hk : k < h.cells.length := by simpa using hk
            have hcg := hCg k hk
            simp only [List.getD_eq_getElem?_getD] at hcg
            simp [natT, hcg]
            rw [atI_getD (by omega), hNg k hk]
            simp
            rw [atI_getD (by omega), hFg k hk]
            simp
            have hne := hNe _ (List.getElem_mem hk)
            refine ⟨by rw [hcg, ← hne, Bool.not_not], ?_⟩
            rw [hCt k hk]
            simp
            intro _
            rw [hcg]
          · rw [range_filter_map (.datum 0) h.cells (fun c => decide (c ∈ h.touched at_)) Cell.t]
            generalize hmv : (h.cells.filter fun c => decide (c ∈ h.touched at_)) = mv at *
            simp [pairs_ok w]
            rw [atI_nat (by simpa using hat), List.getElem_map]
            generalize h.data[at_] = pr at *
            simp [pairT]
            refine lc_pure (enc := T.str) (xs := [pr.1, pr.2]) (fun _ => true) (fun s => (Cell.sum s).t) (by simp [hu2]) (by simp) (fun s hs => ?_) ?_
            · simp [Cell.t]
            · have hmvl : mv.length = 3 := by rw [hper.length_eq, hte]; rfl
              have hmvc : ∀ c ∈ mv, c ∈ h.cells := fun c hc => htc c (hper.mem_iff.mp hc)
              simp
              rw [show T.nd (.lst false) [T.nd Kd.tup [T.str (Str.ofString "datum"), T.int ↑at_], (Cell.sum pr.fst).t, (Cell.sum pr.snd).t] = .nd (.lst false) ((h.touched at_).map Cell.t) by rw [hte]; rfl]
              generalize htt : h.touched at_ = tt at *
              refine lc_pure (enc := Cell.t) (xs := mv) (fun _ => true) (fun c => .str c.rp) (by simp [hu3]) (by rw [hmvl]; decide) (fun c hc => ?_) ?_
              · simp [hmd c (hmvc c hc)]
              · rw [show ((mv.filter fun _ => true).map fun c => T.str c.rp) = (mv.map Cell.rp).map T.str by rw [filter_tt, List.map_map]; rfl]
                have httl : tt.length = 3 := by rw [← hper.length_eq, hmvl]
                have hsort := isort_perm_eq (hper.map Cell.rp)
                have hokr : ∀ c ∈ mv, okS c.rp = true := fun c hc => okS_reprT (n := 60) (okD_cell (n := 59) (hmc c (hmvc c hc)))
                generalize hms : mv.map Cell.rp = ms at *
                have hmsl : ms.length < 64 := by rw [← hms, List.length_map]; omega
                have hoks : ∀ s ∈ ms, okS s = true := fun s hs => by
                  rw [← hms] at hs
                  obtain ⟨c, hc, rfl⟩ := List.mem_map.mp hs
                  exact hokr c hc
                simp [fSorted_strs hmsl]
                refine lc_pure (enc := Cell.t) (xs := tt) (fun _ => true) (fun c => .str c.rp) (by simp [hu3]) (by rw [httl]; decide) (fun c hc => ?_) ?_
                · simp [hmd c (htc c hc)]
                · rw [show ((tt.filter fun _ => true).map fun c => T.str c.rp) = (tt.map Cell.rp).map T.str by rw [filter_tt, List.map_map]; rfl]
                  generalize hts : tt.map Cell.rp = ts at *
                  have htsl : ts.length < 64 := by rw [← hts, List.length_map]; omega
                  simp [fSorted_strs htsl]
                  rw [← hsort, fNe_self (by
                    have : ∀ s ∈ isortB leS ms, okS s = true := fun s hs => hoks s ((isortB_perm leS ms).mem_iff.mp hs)
                    simp [okDL_strs this])]
                  simp
                  rw [rng1_nat (by omega)]
                  simp
                  refine loop_inv (fun _ Ts => ∃ u1 : T, Ts = [jarT a3 b3 c3, u1, u2, u3, T.int ↑x, h.l, h.tab, h.kind.t, T.nd (Kd.lst false) (List.map T.int vs),
      T.nd (Kd.lst false) (List.map T.int us), T.nd (Kd.lst true) (List.map T.int bo), T.nd Kd.tup (List.map T.int F),
      T.nd Kd.tup (List.map T.int G), T.nd Kd.tup (List.map T.int FB), T.int ↑at_,
      T.nd (Kd.lst false) (List.map T.int nv), T.nd Kd.tup (List.map T.int NN),
      T.nd (Kd.lst false) (List.map Cell.t h.cells), T.nd (Kd.lst true) (List.map Cell.t mv),
      T.nd (Kd.lst false) (List.map Cell.t tt)] ∧ hidOk u1 = true) ⟨u1, rfl, hu1⟩ ?_ ?_
                  · rintro pre3 k post3 e3 Ts ⟨u1, rfl, hu1⟩
                    have hk : k < h.cells.length := by
                      have : k ∈ List.range h.cells.length := by rw [e3]; simp
                      simpa using this
                    simp [natT]
                    rw [hCt k hk]
                    simp
                    rw [fIn_cells (hmc _ (List.getElem_mem hk)) fun d hd => hmc d (htc d hd)]
                    simp
                    split
                    · rename_i hin
                      rw [atI_getD (by omega)]
                      simp
                      rw [atI_getD (by omega)]
                      simp [tog2_ok w.k]
                      have := hNF k hk hin
                      simp only [List.getD_eq_getElem?_getD] at this
                      simp [this]
                      exact Inn.mk ⟨_, rfl, rfl⟩
                    · exact Inn.mk ⟨_, rfl, rfl⟩
                  · rintro Ts ⟨u1, rfl, hu1⟩
                    simp
                    exact Inn.mk ⟨_, _, _, _, _, _, _, _, _, rfl, hu1, hu2, hu3⟩
        · rintro Ts ⟨u14, u15, u16, u17, u18, u19, u1, u2, u3, rfl, hu1, hu2, hu3⟩
          simp
          exact Inn.mk ⟨_, _, _, _, _, _, _, _, _, _, _, _, _, _, _, _, _, _, _, _, _, _, rfl, hj3.mono (by simp; omega), hu1, hu2, hu3⟩
  · rintro Ts ⟨a', b', c', u4, u5, u6, u7, u8, u9, u10, u11, u12, u13, u14, u15, u16, u17, u18, u19, u1, u2, u3, rfl, hjj, hu1, hu2, hu3⟩
    simp
theorem plain06 (ns : List Int) (hl : ns.length ≤ 63) : c_law_v1 [.nd .scr (ns.map T.int)] = some (.bl true, []) := by
  refine EvO.eq (EvO_runB rfl ?_)
  simp [m_law_v1, fMin, fMax]
  rw [rng1_int (by split <;> split <;> omega) (by split <;> split <;> omega), rangeT_zero]
  generalize hN : Int.toNat _ = N
  have hN : N ≤ 6 := by rw [← hN]; split <;> split <;> omega
  simp
  refine lc_pure (enc := natT) (xs := List.range N) (fun _ => true) (fun _ => .bl true) (by simp) (by simp; omega) (fun k hk => ?_) ?_
  · have hk : k < N := by simpa using hk
    obtain ⟨a, b, e, hj⟩ := jar_spec (ns := ns) (turn := k) (by omega)
    simp [natT]
    rw [e]
    simp
    refine (right06_spec hj (by omega)).mono fun p hp => ?_
    rw [hp]; simp
  · simp [fBools_map]
end MI
namespace MI
open PySem PySem.Spec PyProof.Rows L2 He
end MI
open PySem PySem.W PySem.Calls PyProof.Rows
set_option maxHeartbeats 0 in
theorem law_holds (plain : ∀ ns : List Int, ns.length ≤ 63 → MI.c_law_v1 [.nd .scr (ns.map MI.T.int)] = some (.bl true, [])) : PySem.Challenge.rw_pairsums_k06_whole_values_put_together.Holds := by
  w_on; o_law
  refine HandSHeadRun.head_any (r := OpenLaw.row PySem.Challenge.rw_pairsums_k06_whole_values_put_together) (q := view (OpenLaw.row PySem.Challenge.rw_pairsums_k06_whole_values_put_together).prog [56]) (H := MI.hk) (ob := MI.ob) (M := 10000) (loose := MI.names) (d := HandSHeadRun.topDef (OpenLaw.row PySem.Challenge.rw_pairsums_k06_whole_values_put_together).prog 56) (kwd := []) MI.ob_eq
    (by kernel_rfl) (fun s => by kernel_rfl) MI.run (by kernel_rfl) (by kernel_rfl) (by kernel_rfl) (by rfl) (by first | assumption | decide +kernel) (by decide +kernel) ⟨rfl, rfl, rfl, rfl, rfl, by decide +kernel⟩ ?hw ?hc
  case hw => w_witness2
  case hc =>
    refine MI.walk_ofG (l := PySem.Challenge.rw_pairsums_k06_whole_values_put_together) (n := 63) (k := 16) (x := "_law_cells") (CX := L2.CX0) rfl (by decide) (by kernel_rfl) ⟨rfl, by decide, by decide⟩ ?F (fun _ _ _ _ z => z)
    intro w mg fa h Y G hmg0
    obtain ⟨K, KX, c⟩ := Y
    have hmg : mg ("law" : PySem.Str) = some (.ref fa) := by
      have e : (HandSHeadRun.topDef (OpenLaw.row PySem.Challenge.rw_pairsums_k06_whole_values_put_together).prog 56).name = ("law" : PySem.Str) := by kernel_rfl
      rw [← e]
      exact hmg0
    have e := hmg.symm.trans (He.glo_ok KX G (c.fact 68))
    cases e
    obtain ⟨fd, F, _, _, FD⟩ := MI.f_law_v1 (w := w) c KX G
    have bA := L2.FunD.bindsA (ps := ["_law_cells"]) FD fun _ _ _ _ _ _ us hl => match us, hl with | [_], _ => rfl
    exact ⟨K, fd, MI.spT ⟨K, He.ga K⟩ [] MI.c_law_v1, KX, fun s u => bA s [u] rfl, fun H a ns hl _ hS => MI.sp_start (plain ns hl) hS, fun base _ _ => F base⟩
theorem PySem.Challenge.cw_pairsums_k06_whole_values_put_together_holds : PySem.Challenge.rw_pairsums_k06_whole_values_put_together.Holds := by
  exact law_holds MI.plain06
