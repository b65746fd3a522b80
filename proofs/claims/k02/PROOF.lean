import PyProof.Rows.All
import Wide.All
import OpenK.AllK
import Wide.FinOn
import HandS.ForMost
import HandS.Lambda
import HandS.Star
import HandS.NoneIn
import HandS.Style
import HandS.Defaults
import HandS.Walk
import HandS.Comp
import HandS.Zip
import HandS.Rev
import KE.GoesEnum
import HandS.More
import HandS.SetFor
import HandS.Wide
import HandS.WideBits
import HandS.TupAny
import HandS.TupLe
import HandS.Deep
import HandS.Steps
import HandS.IsInst
import HandS.Property
import HandS.HeadEnd
import HandS.Codes
import HandS.SortInts
import HandS.TupSets
import HandS.SortRule
import HandS.Text
import HandS.Strs
import HandS.Dict
import HandS.Small
import HandS.DictComp
import HandS.TupMul
import HandS.Conv
import KE.KStateDown
import HandS.Words
import HandS.WordsExc
import HandS.Head0
import HandS.Head1
import HandS.Head2
import HandS.HeadHook1
import HandS.HeadHook2
import HandS.HeadNt
import HandS.Ends
import HandS.RevTup
import HandS.Gcd
import KE.KDictZip
import PyProof.SeqIndex
import HandS.TryOnly
import PyProof.ExcBaseAll.ArithmeticError
import HandS.ExcIs
import HandS.SortOrd
import PyProof.Rows.StrStep
import KE.KDictPairs
import PyProof.ListStr
import HandS.ExcInit
import HandS.ExcField
import HandS.HeadHook4
import KE.KExcHand
import KE.KExcIs
import HandS.FStr
import HandS.RaiseMore
import KE.KCallOwn
import HandS.ClsMeth
import PyProof.InstEq
import KE.KFmtOwn
import HandS.Records
import PySem.Challenge.RW_pairsums_k02_tables_made_and_told
import HandS.Head3
set_option Elab.async false
set_option linter.all false
set_option maxRecDepth 100000
set_option maxHeartbeats 4000000
namespace MI
open PySem L2
def noT : Option HO → Option HO
  | some (.tbl _) => none
  | o => o
theorem noT_none {x : Option HO} (h : x = none) : noT x = none := by rw [h]; rfl
instance {x : Option HO} : Coe (x = none) (noT x = none) := ⟨noT_none⟩
theorem noT_at {x : Option HO} {o : HO} (h : noT x = none) (e : x = some o) : ∃ ps, o = .tbl ps := by
  rw [e] at h
  cases o <;> first | exact ⟨_, rfl⟩ | cases h
theorem noT_cases {x : Option HO} (h : noT x = none) : x = none ∨ ∃ ps, x = some (.tbl ps) := by
  cases x with
  | none => exact .inl rfl
  | some o =>
    obtain ⟨ps, e⟩ := noT_at h rfl
    exact .inr ⟨ps, by rw [e]⟩
theorem noT_tbl {x : Option HO} {ps : Array Value} (h : x = some (.tbl ps)) : noT x = none := by rw [h]; rfl
def fixO (H' : Hp) (a : Addr) : HO → Prop
  | .tbl _ => True
  | .lst xs => H' a = some (.lst xs)
  | .tup xs => H' a = some (.tup xs)
  | .dK kvs => H' a = some (.dK kvs)
  | .dT kvs => H' a = some (.dT kvs)
  | .set S n => H' a = some (.set S n)
  | .ins C dx fs => H' a = some (.ins C dx fs)
  | .own x => H' a = some (.own x)
  | .xd fs => H' a = some (.xd fs)
  | .met f x => H' a = some (.met f x)
  | .rng lo hi => H' a = some (.rng lo hi)
  | .frz o u => H' a = some (.frz o u)
  | .ext P => H' a = some (.ext P)
theorem fix_of {H' : Hp} {a : Addr} {o : HO} (h : H' a = some o) : fixO H' a o := by
  cases o <;> first | exact h | trivial
theorem fix_tbl {H' : Hp} {a : Addr} {o : HO} (h : ∃ ps, o = .tbl ps) : fixO H' a o := by
  obtain ⟨ps, rfl⟩ := h
  trivial
theorem fix_at {H' : Hp} {a : Addr} {o : HO} (h : fixO H' a o) (n : ∀ ps, o ≠ .tbl ps) : H' a = some o := by
  cases o <;> first | exact h | exact absurd rfl (n _)
theorem fix_by {H' : Hp} {a : Addr} {o : HO} (h : (∀ ps, o ≠ .tbl ps) → fixO H' a o) : fixO H' a o := by
  by_cases t : ∃ ps, o = .tbl ps
  · exact fix_tbl t
  · exact h fun ps e => t ⟨ps, e⟩
theorem fix_back {H H' : Hp} {a : Addr} (hn : noT (H' a) = none) {o : HO} (e : H a = some o) (h : fixO H' a o) : noT (H a) = none := by
  by_cases t : ∃ ps, o = .tbl ps
  · obtain ⟨ps, rfl⟩ := t
    exact noT_tbl e
  · obtain ⟨ps, z⟩ := noT_at hn (fix_at h fun ps e => t ⟨ps, e⟩)
    exact absurd ⟨ps, z⟩ t
theorem fix_congr {H1 H2 : Hp} {a : Addr} {o : HO} (e : H2 a = H1 a) (h : fixO H1 a o) : fixO H2 a o := by
  cases o <;> first | exact e.trans h | trivial
theorem fix_upd {H1 : Hp} {a b : Addr} {o u : HO} (ne : a ≠ b) (h : fixO H1 a o) : fixO (upd H1 b u) a o := fix_congr (upd_ne ne) h
theorem fix_trans {H1 H2 : Hp} {a : Addr} {o : HO} (h : fixO H1 a o) (k : H1 a = some o → (∀ ps, o ≠ .tbl ps) → fixO H2 a o) : fixO H2 a o := fix_by fun n => k (fix_at h n) n
structure Ext (H H' : Hp) : Prop where
  keep : ∀ a o, H a = some o → H' a = some o
  tbl : ∀ a ps, H' a = some (.tbl ps) → H a = some (.tbl ps)
instance {H H' : Hp} : CoeFun (Ext H H') (fun _ => ∀ a o, H a = some o → H' a = some o) := ⟨Ext.keep⟩
theorem Ext.refl {H : Hp} : Ext H H := ⟨fun _ _ e => e, fun _ _ e => e⟩
theorem Ext.trans {H H1 H2 : Hp} (e : Ext H H1) (f : Ext H1 H2) : Ext H H2 := ⟨fun a o h => f a o (e a o h), fun a ps h => e.tbl a ps (f.tbl a ps h)⟩
theorem Ext.upd {H : Hp} {p : Addr} {o : HO} (hp : H p = none) (no : ∀ ps, o ≠ .tbl ps) : Ext H (L2.upd H p o) :=
  ⟨fun a u e => by rw [upd_ne (ne_of_none e hp)]; exact e, fun a ps e => by
    by_cases ea : a = p
    · rw [ea, upd_same] at e
      exact absurd (Option.some.inj e) (no ps)
    · rw [upd_ne ea] at e
      exact e⟩
inductive Kd where
  | tup | scr | lst (o : Bool) | dK (o : Bool) (ks : List Key) | dT (o : Bool) (ks : List (List Key)) | ins (o : Bool) (c : Str) (fs : List Str)
inductive T where
  | dead | non | bl (b : Bool) | int (i : Int) | str (s : Str) | nd (k : Kd) (ts : List T)
def Kd.own : Kd → Bool
  | .tup => false
  | .scr => false
  | .lst o => o
  | .dK o _ => o
  | .dT o _ => o
  | .ins o _ _ => o
def Kd.fz : Kd → Kd
  | .tup => .tup
  | .scr => .scr
  | .lst _ => .lst false
  | .dK _ ks => .dK false ks
  | .dT _ ks => .dT false ks
  | .ins _ c fs => .ins false c fs
def Kd.isTup : Kd → Bool
  | .tup => true
  | _ => false
mutual
def T.imm : T → Bool
  | .dead => false
  | .non => true
  | .bl _ => true
  | .int _ => true
  | .str _ => true
  | .nd k ts => !k.own && immL ts
def immL : List T → Bool
  | [] => true
  | t :: ts => t.imm && immL ts
end
mutual
def T.pur : T → Bool
  | .dead => false
  | .non => true
  | .bl _ => true
  | .int _ => true
  | .str _ => true
  | .nd k ts => k.isTup && purL ts
def purL : List T → Bool
  | [] => true
  | t :: ts => t.pur && purL ts
end
mutual
def T.fz : T → T
  | .dead => .dead
  | .non => .non
  | .bl b => .bl b
  | .int i => .int i
  | .str s => .str s
  | .nd k ts => .nd k.fz (fzL ts)
def fzL : List T → List T
  | [] => []
  | t :: ts => t.fz :: fzL ts
end
theorem fzL_eq : ∀ ts : List T, fzL ts = ts.map T.fz
  | [] => rfl
  | t :: ts => by rw [fzL, fzL_eq ts]; rfl
theorem immL_eq : ∀ ts : List T, immL ts = ts.all T.imm
  | [] => rfl
  | t :: ts => by rw [immL, immL_eq ts]; rfl
structure Gc where
  K : PySem.W.Frag
  cl : Str → Addr
  /-- the code objects' tables, and the names of what is made by them -/
  tab : List (Addr × Str)
def LW (K : PySem.W.Frag) (a : Addr) (xs : List V) : Prop := ∃ (o : Obj) (its : Array Value) (n : Nat), K.lookup a = some o ∧ o.cls = .type "list" ∧ o.dict = none ∧ o.data = .seq its n ∧ its.size ≤ sizeLine ∧ Vals xs its.toList
def KTup (K : PySem.W.Frag) (a : Addr) (xs : List V) : Prop := (∃ i r, xs = V.int i :: r) ∧ ∃ (o : Obj) (its : Array Value) (n : Nat), K.lookup a = some o ∧ o.cls = .type "tuple" ∧ o.data = .seq its n ∧ its.size ≤ sizeLine ∧ Vals xs its.toList
def At (g : Gc) (S : Addr → Prop) (H : Hp) (k : Kd) (a : Addr) (xs : List V) : Prop :=
  match k with
  | .tup => H a = some (.tup xs) ∨ KTup g.K a xs
  | .lst true => H a = some (.lst xs)
  | .lst false => H a = some (.lst xs) ∧ S a
  | .scr => (Rd H a (.lst xs) ∧ S a) ∨ LW g.K a xs
  | .dK o ks => H a = some (.dK (ks.zip xs)) ∧ ks.length = xs.length ∧ (o = false → S a)
  | .dT o ks => (Rd H a (.dT (ks.zip xs)) ∧ (o = true → H a = some (.dT (ks.zip xs)))) ∧ ks.length = xs.length ∧ (o = false → S a)
  | .ins o c fs => (∃ dx, H a = some (.ins (g.cl c) dx (fs.zip xs))) ∧ fs.length = xs.length ∧ (o = false → S a)
mutual
def Rp (g : Gc) (S : Addr → Prop) (H : Hp) : T → V → List Addr → Prop
  | .dead, _, A => A = []
  | .non, x, A => x = .non ∧ A = []
  | .bl b, x, A => x = .bl b ∧ A = []
  | .int i, x, A => x = .int i ∧ A = []
  | .str s, x, A => x = .str s ∧ A = []
  | .nd k ts, x, A => ∃ a xs B, x = .ref a ∧ At g S H k a xs ∧ A = (if k.own then a :: B else B) ∧ (k.own = true ∨ k.isTup = true ∨ B = []) ∧ RpL g S H ts xs B
def RpL (g : Gc) (S : Addr → Prop) (H : Hp) : List T → List V → List Addr → Prop
  | [], xs, A => xs = [] ∧ A = []
  | t :: ts, xs, A => ∃ y ys A1 A2, xs = y :: ys ∧ A = A1 ++ A2 ∧ Rp g S H t y A1 ∧ RpL g S H ts ys A2
end
section
variable {g : Gc} {S S' : Addr → Prop} {H H' : Hp} {M : Addr → Prop}
theorem At.own_mut {k : Kd} {a : Addr} {xs : List V} (h : At g S H k a xs) (ho : k.own = true) : Mut (H a) := by
  cases k with
  | tup => cases ho
  | scr => cases ho
  | lst o =>
    have e : o = true := ho
    subst e
    have h : H a = some (.lst xs) := h
    rw [h]; trivial
  | dK o ks =>
    obtain ⟨h, _⟩ := h
    rw [h]; trivial
  | dT o ks =>
    obtain ⟨h, _⟩ := h
    rw [h.2 ho]; trivial
  | ins o c fs =>
    obtain ⟨⟨dx, h⟩, _⟩ := h
    rw [h]; trivial
theorem At.own_ob {k : Kd} {a : Addr} {xs : List V} (h : At g S H k a xs) (ho : k.own = true) : ∃ o, H a = some o ∧ (∀ ps, o ≠ .tbl ps) ∧ ∀ P, o ≠ .ext P := by
  cases k with
  | tup => cases ho
  | scr => cases ho
  | lst o =>
    have e : o = true := ho
    subst e
    have h : H a = some (.lst xs) := h
    exact ⟨_, h, (fun _ z => nomatch z), fun _ z => by cases z⟩
  | dK o ks => exact ⟨_, h.1, (fun _ z => nomatch z), fun _ z => by cases z⟩
  | dT o ks => exact ⟨_, h.1.2 ho, (fun _ z => nomatch z), fun _ z => by cases z⟩
  | ins o c fs =>
    obtain ⟨⟨dx, h⟩, _⟩ := h
    exact ⟨_, h, (fun _ z => nomatch z), fun _ z => by cases z⟩
theorem rd_keepF {a : Addr} {u : HO} (n : ∀ ps, u ≠ .tbl ps) (h : Rd H a u) (k : ∀ o, H a = some o → fixO H' a o) : Rd H' a u := by
  rcases h with h | ⟨o, h⟩
  · exact .inl (fix_at (k _ h) n)
  · exact .inr ⟨o, k _ h⟩
theorem At.keepF {k : Kd} {a : Addr} {xs : List V} (h : At g S H k a xs) (kp : ∀ a o, H a = some o → ¬ M a → fixO H' a o) (hm : ∀ a, M a → Mut (H a)) (hS : ∀ a, S a → ¬ M a) (hs : ∀ a, S a → S' a) (ho : k.own = true → ¬ M a) : At g S' H' k a xs := by
  cases k with
  | tup =>
    rcases (show H a = some (.tup xs) ∨ KTup g.K a xs from h) with h | h
    · refine Or.inl (kp a _ h fun m => ?_)
      have mu := hm a m
      rw [h] at mu; exact mu
    · exact Or.inr h
  | lst o =>
    cases o with
    | true => exact kp _ _ h (ho rfl)
    | false => exact ⟨kp _ _ h.1 (hS a h.2), hs _ h.2⟩
  | scr =>
    rcases (show (Rd H a (.lst xs) ∧ S a) ∨ LW g.K a xs from h) with h | h
    · exact Or.inl ⟨rd_keepF (fun _ z => nomatch z) h.1 fun o e => kp a o e (hS a h.2), hs _ h.2⟩
    · exact Or.inr h
  | dK o ks =>
    refine ⟨kp _ _ h.1 ?_, h.2.1, fun e => hs _ (h.2.2 e)⟩
    cases o with
    | true => exact ho rfl
    | false => exact hS a (h.2.2 rfl)
  | dT o ks =>
    have nm : ¬ M a := by
      cases o with
      | true => exact ho rfl
      | false => exact hS a (h.2.2 rfl)
    exact ⟨⟨rd_keepF (fun _ z => nomatch z) h.1.1 fun o e => kp a o e nm, fun e => kp _ _ (h.1.2 e) nm⟩, h.2.1, fun e => hs _ (h.2.2 e)⟩
  | ins o c fs =>
    obtain ⟨⟨dx, e⟩, h2⟩ := h
    refine ⟨⟨dx, kp _ _ e ?_⟩, h2.1, fun e => hs _ (h2.2 e)⟩
    cases o with
    | true => exact ho rfl
    | false => exact hS a (h2.2 rfl)
theorem At.keep {k : Kd} {a : Addr} {xs : List V} (h : At g S H k a xs) (kp : ∀ a o, H a = some o → ¬ M a → H' a = some o) (hm : ∀ a, M a → Mut (H a)) (hS : ∀ a, S a → ¬ M a) (hs : ∀ a, S a → S' a) (ho : k.own = true → ¬ M a) : At g S' H' k a xs := h.keepF (fun a o e n => fix_of (kp a o e n)) hm hS hs ho
theorem At.fz {k : Kd} {a : Addr} {xs : List V} (h : At g S H k a xs) (hs : ∀ a, S a → S' a) (ho : k.own = true → S' a) : At g S' H k.fz a xs := by
  cases k with
  | tup => exact h
  | lst o =>
    cases o with
    | true => exact ⟨h, ho rfl⟩
    | false => exact ⟨h.1, hs _ h.2⟩
  | scr =>
    rcases (show (Rd H a (.lst xs) ∧ S a) ∨ LW g.K a xs from h) with h | h
    · exact Or.inl ⟨h.1, hs _ h.2⟩
    · exact Or.inr h
  | dK o ks =>
    refine ⟨h.1, h.2.1, fun _ => ?_⟩
    cases o with
    | true => exact ho rfl
    | false => exact hs _ (h.2.2 rfl)
  | dT o ks =>
    refine ⟨⟨h.1.1, fun z => nomatch z⟩, h.2.1, fun _ => ?_⟩
    cases o with
    | true => exact ho rfl
    | false => exact hs _ (h.2.2 rfl)
  | ins o c fs =>
    refine ⟨h.1, h.2.1, fun _ => ?_⟩
    cases o with
    | true => exact ho rfl
    | false => exact hs _ (h.2.2 rfl)
theorem At.sqT {a : Addr} {xs : List V} (h : At g S H .tup a xs) : SqT g.K H a xs := by
  rcases (show H a = some (.tup xs) ∨ KTup g.K a xs from h) with h | h
  · exact .inl (.inl h)
  · exact .inr h.2
theorem At.sqL {o : Bool} {a : Addr} {xs : List V} (h : At g S H (.lst o) a xs) : SqL g.K H a xs := by
  cases o with
  | true => exact SqL.of h
  | false => exact SqL.of h.1
theorem At.lst {o : Bool} {a : Addr} {xs : List V} (h : At g S H (.lst o) a xs) : H a = some (.lst xs) := by
  cases o with
  | true => exact h
  | false => exact h.1
theorem At.sqS {a : Addr} {xs : List V} (h : At g S H .scr a xs) : SqL g.K H a xs := by
  rcases (show (Rd H a (.lst xs) ∧ S a) ∨ LW g.K a xs from h) with h | h
  · exact Or.inl h.1
  · exact Or.inr h
theorem At.rd {o : Bool} {a : Addr} {xs : List V} (h : At g S H (.lst o) a xs) : Rd H a (.lst xs) := by
  cases o with
  | true => exact .inl h
  | false => exact .inl h.1
theorem Kd.fz_own (k : Kd) : k.fz.own = false := by cases k <;> rfl
mutual
theorem Rp.keepF (kp : ∀ a o, H a = some o → ¬ M a → fixO H' a o) (hm : ∀ a, M a → Mut (H a)) (hS : ∀ a, S a → ¬ M a) (hs : ∀ a, S a → S' a) :
    ∀ (t : T) (x : V) (A : List Addr), Rp g S H t x A → (∀ a ∈ A, ¬ M a) → Rp g S' H' t x A
  | .dead, _, _, h, _ => h
  | .non, _, _, h, _ => h
  | .bl _, _, _, h, _ => h
  | .int _, _, _, h, _ => h
  | .str _, _, _, h, _ => h
  | .nd k ts, x, A, h, hA => by
    obtain ⟨a, xs, B, e, at_, eA, c, r⟩ := h
    refine ⟨a, xs, B, e, at_.keepF kp hm hS hs fun ho => hA a ?_, eA, c, RpL.keepF kp hm hS hs ts xs B r fun b hb => hA b ?_⟩
    · rw [eA, if_pos ho]; exact List.mem_cons_self
    · rw [eA]
      split
      · exact List.mem_cons_of_mem _ hb
      · exact hb
theorem RpL.keepF (kp : ∀ a o, H a = some o → ¬ M a → fixO H' a o) (hm : ∀ a, M a → Mut (H a)) (hS : ∀ a, S a → ¬ M a) (hs : ∀ a, S a → S' a) :
    ∀ (ts : List T) (xs : List V) (A : List Addr), RpL g S H ts xs A → (∀ a ∈ A, ¬ M a) → RpL g S' H' ts xs A
  | [], _, _, h, _ => h
  | t :: ts, xs, A, h, hA => by
    obtain ⟨y, ys, A1, A2, e1, e2, r1, r2⟩ := h
    subst e2
    exact ⟨y, ys, A1, A2, e1, rfl, Rp.keepF kp hm hS hs t y A1 r1 fun a ha => hA a (List.mem_append_left _ ha), RpL.keepF kp hm hS hs ts ys A2 r2 fun a ha => hA a (List.mem_append_right _ ha)⟩
end
theorem Rp.keep (kp : ∀ a o, H a = some o → ¬ M a → H' a = some o) (hm : ∀ a, M a → Mut (H a)) (hS : ∀ a, S a → ¬ M a) (hs : ∀ a, S a → S' a) (t : T) (x : V) (A : List Addr) (r : Rp g S H t x A) (hA : ∀ a ∈ A, ¬ M a) : Rp g S' H' t x A := Rp.keepF (fun a o e n => fix_of (kp a o e n)) hm hS hs t x A r hA
theorem RpL.keep (kp : ∀ a o, H a = some o → ¬ M a → H' a = some o) (hm : ∀ a, M a → Mut (H a)) (hS : ∀ a, S a → ¬ M a) (hs : ∀ a, S a → S' a) (ts : List T) (xs : List V) (A : List Addr) (r : RpL g S H ts xs A) (hA : ∀ a ∈ A, ¬ M a) : RpL g S' H' ts xs A := RpL.keepF (fun a o e n => fix_of (kp a o e n)) hm hS hs ts xs A r hA
mutual
theorem Rp.fz (hs : ∀ a, S a → S' a) : ∀ (t : T) (x : V) (A : List Addr), Rp g S H t x A → (∀ a ∈ A, S' a) → Rp g S' H t.fz x []
  | .dead, _, _, h, _ => rfl
  | .non, _, _, h, _ => ⟨h.1, rfl⟩
  | .bl _, _, _, h, _ => ⟨h.1, rfl⟩
  | .int _, _, _, h, _ => ⟨h.1, rfl⟩
  | .str _, _, _, h, _ => ⟨h.1, rfl⟩
  | .nd k ts, x, A, h, hA => by
    obtain ⟨a, xs, B, e, at_, eA, c, r⟩ := h
    refine ⟨a, xs, [], e, at_.fz hs fun ho => hA a ?_, ?_, .inr (.inr rfl), RpL.fz hs ts xs B r fun b hb => hA b ?_⟩
    · rw [eA, if_pos ho]; exact List.mem_cons_self
    · rw [Kd.fz_own]; rfl
    · rw [eA]
      split
      · exact List.mem_cons_of_mem _ hb
      · exact hb
theorem RpL.fz (hs : ∀ a, S a → S' a) : ∀ (ts : List T) (xs : List V) (A : List Addr), RpL g S H ts xs A → (∀ a ∈ A, S' a) → RpL g S' H (fzL ts) xs []
  | [], _, _, h, _ => ⟨h.1, rfl⟩
  | t :: ts, xs, A, h, hA => by
    obtain ⟨y, ys, A1, A2, e1, e2, r1, r2⟩ := h
    subst e2
    exact ⟨y, ys, [], [], e1, rfl, Rp.fz hs t y A1 r1 fun a ha => hA a (List.mem_append_left _ ha), RpL.fz hs ts ys A2 r2 fun a ha => hA a (List.mem_append_right _ ha)⟩
end
mutual
theorem Rp.imm_nil : ∀ (t : T) (x : V) (A : List Addr), Rp g S H t x A → t.imm = true → A = []
  | .dead, _, _, h, _ => h
  | .non, _, _, h, _ => h.2
  | .bl _, _, _, h, _ => h.2
  | .int _, _, _, h, _ => h.2
  | .str _, _, _, h, _ => h.2
  | .nd k ts, x, A, h, hi => by
    obtain ⟨a, xs, B, e, at_, eA, c, r⟩ := h
    have hi : (!k.own && immL ts) = true := hi
    obtain ⟨h1, h2⟩ := Bool.and_eq_true_iff.mp hi
    rw [eA, if_neg (by simpa using h1)]
    exact RpL.imm_nil ts xs B r h2
theorem RpL.imm_nil : ∀ (ts : List T) (xs : List V) (A : List Addr), RpL g S H ts xs A → immL ts = true → A = []
  | [], _, _, h, _ => h.2
  | t :: ts, xs, A, h, hi => by
    obtain ⟨y, ys, A1, A2, e1, e2, r1, r2⟩ := h
    have hi : (t.imm && immL ts) = true := hi
    obtain ⟨h1, h2⟩ := Bool.and_eq_true_iff.mp hi
    rw [e2, Rp.imm_nil t y A1 r1 h1, RpL.imm_nil ts ys A2 r2 h2]; rfl
end
mutual
theorem Rp.cells : ∀ (t : T) (x : V) (A : List Addr), Rp g S H t x A → ∀ a ∈ A, Mut (H a)
  | .dead, _, _, h => by rw [show _ = [] from h]; exact fun a z => nomatch z
  | .non, _, _, h => by rw [h.2]; exact fun a z => nomatch z
  | .bl _, _, _, h => by rw [h.2]; exact fun a z => nomatch z
  | .int _, _, _, h => by rw [h.2]; exact fun a z => nomatch z
  | .str _, _, _, h => by rw [h.2]; exact fun a z => nomatch z
  | .nd k ts, x, A, h => by
    obtain ⟨a, xs, B, e, at_, eA, c, r⟩ := h
    intro b hb
    rw [eA] at hb
    split at hb
    · rename_i ho
      rcases List.mem_cons.mp hb with rfl | hb
      · exact at_.own_mut ho
      · exact RpL.cells ts xs B r b hb
    · exact RpL.cells ts xs B r b hb
theorem RpL.cells : ∀ (ts : List T) (xs : List V) (A : List Addr), RpL g S H ts xs A → ∀ a ∈ A, Mut (H a)
  | [], _, _, h => by rw [h.2]; exact fun a z => nomatch z
  | t :: ts, xs, A, h => by
    obtain ⟨y, ys, A1, A2, e1, e2, r1, r2⟩ := h
    intro b hb
    rw [e2] at hb
    rcases List.mem_append.mp hb with hb | hb
    · exact Rp.cells t y A1 r1 b hb
    · exact RpL.cells ts ys A2 r2 b hb
end
mutual
theorem T.fz_imm : ∀ t : T, t.imm = true → t.fz = t
  | .dead, _ => rfl
  | .non, _ => rfl
  | .bl _, _ => rfl
  | .int _, _ => rfl
  | .str _, _ => rfl
  | .nd k ts, h => by
    have h : (!k.own && immL ts) = true := h
    obtain ⟨h1, h2⟩ := Bool.and_eq_true_iff.mp h
    rw [T.fz, fzL_imm ts h2]
    cases k with
    | tup => rfl
    | scr => rfl
    | lst o =>
      cases o with
      | true => cases h1
      | false => rfl
    | dK o ks =>
      cases o with
      | true => cases h1
      | false => rfl
    | dT o ks =>
      cases o with
      | true => cases h1
      | false => rfl
    | ins o c fs =>
      cases o with
      | true => cases h1
      | false => rfl
theorem fzL_imm : ∀ ts : List T, immL ts = true → fzL ts = ts
  | [], _ => rfl
  | t :: ts, h => by
    have h : (t.imm && immL ts) = true := h
    obtain ⟨h1, h2⟩ := Bool.and_eq_true_iff.mp h
    rw [fzL, T.fz_imm t h1, fzL_imm ts h2]
end
theorem RpL.length : ∀ (ts : List T) (xs : List V) (A : List Addr), RpL g S H ts xs A → ts.length = xs.length
  | [], _, _, h => by rw [h.1]; rfl
  | t :: ts, xs, A, h => by
    obtain ⟨y, ys, A1, A2, e1, e2, r1, r2⟩ := h
    rw [e1, List.length_cons, List.length_cons, RpL.length ts ys A2 r2]
theorem RpL.get : ∀ (ts : List T) (xs : List V) (A : List Addr), RpL g S H ts xs A → ∀ (i : Nat) (t : T), ts[i]? = some t → ∃ x B, xs[i]? = some x ∧ Rp g S H t x B ∧ ∀ a ∈ B, a ∈ A
  | [], _, _, h, i, t, e => by simp at e
  | t0 :: ts, xs, A, h, i, t, e => by
    obtain ⟨y, ys, A1, A2, e1, e2, r1, r2⟩ := h
    subst e1; subst e2
    cases i with
    | zero =>
      simp at e; subst e
      exact ⟨y, A1, rfl, r1, fun a ha => List.mem_append_left _ ha⟩
    | succ i =>
      obtain ⟨x, B, h1, h2, h3⟩ := RpL.get ts ys A2 r2 i t (by simpa using e)
      exact ⟨x, B, by simpa using h1, h2, fun a ha => List.mem_append_right _ (h3 a ha)⟩
theorem RpL.append : ∀ (ts : List T) (xs : List V) (A : List Addr) (us : List T) (ys : List V) (B : List Addr), RpL g S H ts xs A → RpL g S H us ys B → RpL g S H (ts ++ us) (xs ++ ys) (A ++ B)
  | [], _, _, us, ys, B, h, h' => by rw [h.1, h.2]; exact h'
  | t :: ts, xs, A, us, ys, B, h, h' => by
    obtain ⟨y, zs, A1, A2, e1, e2, r1, r2⟩ := h
    subst e1; subst e2
    exact ⟨y, zs ++ ys, A1, A2 ++ B, rfl, List.append_assoc _ _ _, r1, RpL.append ts zs A2 us ys B r2 h'⟩
theorem RpL.one {t : T} {x : V} {A : List Addr} (h : Rp g S H t x A) : RpL g S H [t] [x] A := ⟨x, [], A, [], rfl, (List.append_nil _).symm, h, rfl, rfl⟩
end
def Rp1 (g : Gc) (S : Addr → Prop) (H : Hp) (t : T) (o : Option V) (A : List Addr) : Prop := (t = .dead ∧ A = []) ∨ ∃ x, o = some x ∧ Rp g S H t x A
def slot (Ts : List T) (i : Nat) : T := Ts.getD i .dead
structure TbO (g : Gc) (H : Hp) : Prop where
  tabs : LamX.Tabs g.tab H
structure StT (g : Gc) (S : Addr → Prop) (H : Hp) : Prop where
  st : ∀ a, S a → ∃ o, H a = some o ∧ ∀ ps, o ≠ .tbl ps
  tb : TbO g H
theorem StT.weak {g : Gc} {S : Addr → Prop} {H : Hp} (t : StT g S H) (a : Addr) (h : S a) : ∃ o, H a = some o := (t.st a h).imp fun _ z => z.1
instance {g : Gc} {S : Addr → Prop} {H : Hp} : CoeFun (StT g S H) (fun _ => ∀ a, S a → ∃ o, H a = some o) := ⟨StT.weak⟩
structure SR (g : Gc) (S : Addr → Prop) (H : Hp) (σ : L2.St) (Ts : List T) (A : Nat → List Addr) : Prop where
  rep : ∀ i, Rp1 g S H (slot Ts i) (σ.getD i none) (A i)
  nd : ∀ i, (A i).Nodup
  dj : ∀ i j, i ≠ j → ∀ a ∈ A i, a ∉ A j
  ns : ∀ i, ∀ a ∈ A i, ¬ S a
  len : Ts.length = σ.length
  st : StT g S H
structure Po (S : Addr → Prop) (H : Hp) (A : Nat → List Addr) (S' : Addr → Prop) (H' : Hp) (A' : Nat → List Addr) : Prop where
  keep : ∀ a o, H a = some o → (∀ i, a ∉ A i) → fixO H' a o
  sub : ∀ a, S a → S' a
  snew : ∀ a, S' a → S a ∨ (∃ i, a ∈ A i) ∨ noT (H a) = none
  anew : ∀ i, ∀ a ∈ A' i, (∃ j, a ∈ A j) ∨ noT (H a) = none
def Stb (eff : List Nat) (H : Hp) (Ts : List T) (A : Nat → List Addr) (H' : Hp) (Ts' : List T) (A' : Nat → List Addr) : Prop :=
  ∀ j, j ∉ eff → slot Ts' j = slot Ts j ∧ A' j = A j ∧ ∀ a ∈ A j, ∀ o, H a = some o → H' a = some o
structure Ow (bo : List Nat) (H : Hp) (A : Nat → List Addr) (S' : Addr → Prop) (A' : Nat → List Addr) (Ax : List Addr) : Prop where
  ns : ∀ a ∈ Ax, ¬ S' a
  dj : ∀ i, i ∉ bo → ∀ a ∈ Ax, a ∉ A' i
  nd : bo = [] → Ax.Nodup
  new : ∀ a ∈ Ax, (∃ j, a ∈ A j) ∨ noT (H a) = none
section
variable {g : Gc} {S S1 S2 : Addr → Prop} {H H1 H2 : Hp} {A A1 A2 : Nat → List Addr} {σ : L2.St} {Ts Ts1 Ts2 : List T} {eff eff1 eff2 bo : List Nat}
theorem SR.tb (R : SR g S H σ Ts A) : TbO g H := R.st.tb
theorem TbO.ext (t : TbO g H) (e : Ext H H1) : TbO g H1 := ⟨t.tabs.ext e⟩
theorem SR.cells (R : SR g S H σ Ts A) : ∀ i, ∀ a ∈ A i, Mut (H a) := fun i a ha => by
  rcases R.rep i with ⟨_, e⟩ | ⟨x, _, r⟩
  · rw [e] at ha; exact nomatch ha
  · exact Rp.cells _ _ _ r a ha
theorem tabs_keep (t : TbO g H) (k : ∀ a ps, H a = some (.tbl ps) → H1 a = some (.tbl ps)) (k2 : ∀ a P, H a = some (.ext P) → H1 a = some (.ext P)) (bk : ∀ a ps, H1 a = some (.tbl ps) → ∃ qs, H a = some (.tbl qs)) : TbO g H1 :=
  ⟨fun p hp => by
    obtain ⟨ps, h1, h2, h3⟩ := t.tabs p hp
    refine ⟨ps, k _ _ h1, h2, fun pos cv hc => ?_⟩
    obtain ⟨c, e1, e2⟩ := h3 pos cv hc
    exact ⟨c, e1, k2 _ _ e2⟩⟩
theorem tabs_upd {a : Addr} {o o' : HO} (t : TbO g H) (h : H a = some o) (n1 : ∀ ps, o ≠ .tbl ps) (n2 : ∀ P, o ≠ .ext P) (n3 : ∀ ps, o' ≠ .tbl ps) : TbO g (upd H a o') :=
  tabs_keep t (fun b ps e => by
    rw [upd_ne (fun z => n1 ps (by rw [z, h] at e; exact Option.some.inj e))]
    exact e) (fun b P e => by
    rw [upd_ne (fun z => n2 P (by rw [z, h] at e; exact Option.some.inj e))]
    exact e) fun b ps e => by
    by_cases eb : b = a
    · rw [eb, upd_same] at e
      exact absurd (Option.some.inj e) (n3 ps)
    · rw [upd_ne eb] at e
      exact ⟨ps, e⟩
theorem mut_tbl {o : HO} (h : Mut (some o)) : ∀ ps, o ≠ .tbl ps := fun ps e => by
  rw [e] at h
  exact h
theorem mut_ne {o : Option HO} (h : Mut o) : noT o ≠ none := fun n => by
  rcases noT_cases n with e | ⟨ps, e⟩ <;> rw [e] at h <;> exact h
theorem Po.refl : Po S H A S H A := ⟨fun _ _ e _ => fix_of e, fun _ h => h, fun _ h => .inl h, fun i a h => .inl ⟨i, h⟩⟩
theorem Po.trans (R : SR g S H σ Ts A) (p : Po S H A S1 H1 A1) (q : Po S1 H1 A1 S2 H2 A2) : Po S H A S2 H2 A2 where
  keep := fun a o e n => fix_trans (p.keep a o e n) fun eu nt => q.keep a o eu fun i hi => by
    rcases p.anew i a hi with ⟨j, hj⟩ | hn
    · exact n j hj
    · obtain ⟨ps, z⟩ := noT_at hn e
      exact nt ps z
  sub := fun a h => q.sub a (p.sub a h)
  snew := fun a h => by
    have back : noT (H1 a) = none → (∃ i, a ∈ A i) ∨ noT (H a) = none := fun hn => by
      cases e : H a with
      | none => exact .inr rfl
      | some o =>
        by_cases hj : ∃ j, a ∈ A j
        · exact .inl hj
        · exact .inr (e ▸ fix_back hn e (p.keep a o e fun i hi => hj ⟨i, hi⟩))
    rcases q.snew a h with h | ⟨i, hi⟩ | hn
    · exact p.snew a h
    · exact .inr (p.anew i a hi)
    · exact .inr (back hn)
  anew := fun i a h => by
    rcases q.anew i a h with ⟨j, hj⟩ | hn
    · exact p.anew j a hj
    · cases e : H a with
      | none => exact .inr rfl
      | some o =>
        by_cases hj : ∃ j, a ∈ A j
        · exact .inl hj
        · exact .inr (e ▸ fix_back hn e (p.keep a o e fun i hi => hj ⟨i, hi⟩))
theorem Stb.refl : Stb eff H Ts A H Ts A := fun j _ => ⟨rfl, rfl, fun _ _ _ e => e⟩
theorem Stb.trans (p : Stb eff1 H Ts A H1 Ts1 A1) (q : Stb eff2 H1 Ts1 A1 H2 Ts2 A2) : Stb (eff1 ++ eff2) H Ts A H2 Ts2 A2 := fun j hj => by
  have h1 : j ∉ eff1 := fun z => hj (List.mem_append_left _ z)
  have h2 : j ∉ eff2 := fun z => hj (List.mem_append_right _ z)
  obtain ⟨a1, a2, a3⟩ := p j h1
  obtain ⟨b1, b2, b3⟩ := q j h2
  exact ⟨b1.trans a1, b2.trans a2, fun a ha o e => b3 a (by rw [a2]; exact ha) o (a3 a ha o e)⟩
theorem Stb.mono (p : Stb eff1 H Ts A H1 Ts1 A1) (h : ∀ j ∈ eff1, j ∈ eff2) : Stb eff2 H Ts A H1 Ts1 A1 := fun j hj => p j fun z => hj (h j z)
theorem Rp.held {t : T} {x : V} {Ax : List Addr} (R1 : SR g S1 H1 σ Ts1 A1) (r : Rp g S1 H1 t x Ax) (o : Ow bo H A S1 A1 Ax) (p : Po S1 H1 A1 S2 H2 A2) (s : Stb eff2 H1 Ts1 A1 H2 Ts2 A2) (d : ∀ j ∈ bo, j ∉ eff2) : Rp g S2 H2 t x Ax := by
  refine Rp.keepF (M := fun a => ∃ j, j ∈ eff2 ∧ a ∈ A1 j) (fun a ob e n => ?_) (fun a ⟨j, _, hj⟩ => R1.cells j a hj) (fun a hs ⟨j, _, hj⟩ => R1.ns j a hj hs) p.sub t x Ax r fun a ha ⟨j, hj, hA⟩ => ?_
  · by_cases h : ∃ j, a ∈ A1 j
    · obtain ⟨j, hj⟩ := h
      by_cases he : j ∈ eff2
      · exact absurd ⟨j, he, hj⟩ n
      · exact fix_of ((s j he).2.2 a hj ob e)
    · exact p.keep a ob e fun i hi => h ⟨i, hi⟩
  · have hb : j ∉ bo := fun z => d j z hj
    exact o.dj j hb a ha hA
theorem RpL.held {ts : List T} {xs : List V} {Ax : List Addr} (R1 : SR g S1 H1 σ Ts1 A1) (r : RpL g S1 H1 ts xs Ax) (o : Ow bo H A S1 A1 Ax) (p : Po S1 H1 A1 S2 H2 A2) (s : Stb eff2 H1 Ts1 A1 H2 Ts2 A2) (d : ∀ j ∈ bo, j ∉ eff2) : RpL g S2 H2 ts xs Ax := by
  refine RpL.keepF (M := fun a => ∃ j, j ∈ eff2 ∧ a ∈ A1 j) (fun a ob e n => ?_) (fun a ⟨j, _, hj⟩ => R1.cells j a hj) (fun a hs ⟨j, _, hj⟩ => R1.ns j a hj hs) p.sub ts xs Ax r fun a ha ⟨j, hj, hA⟩ => ?_
  · by_cases h : ∃ j, a ∈ A1 j
    · obtain ⟨j, hj⟩ := h
      by_cases he : j ∈ eff2
      · exact absurd ⟨j, he, hj⟩ n
      · exact fix_of ((s j he).2.2 a hj ob e)
    · exact p.keep a ob e fun i hi => h ⟨i, hi⟩
  · have hb : j ∉ bo := fun z => d j z hj
    exact o.dj j hb a ha hA
end
end MI
namespace MI
open PySem L2
section
variable {g : Gc} {S S1 S2 : Addr → Prop} {H H1 H2 : Hp} {A A1 A2 : Nat → List Addr} {σ σ2 : L2.St} {Ts Ts1 Ts2 : List T} {eff eff1 eff2 bo bo2 : List Nat} {Ax Ay : List Addr}
theorem Ow.held (R1 : SR g S1 H1 σ Ts1 A1) (R2 : SR g S2 H2 σ2 Ts2 A2) (hc : ∀ a ∈ Ax, Mut (H1 a)) (o : Ow bo H A S1 A1 Ax) (p : Po S1 H1 A1 S2 H2 A2) (s : Stb eff2 H1 Ts1 A1 H2 Ts2 A2) (d : ∀ j ∈ bo, j ∉ eff2) : Ow bo H A S2 A2 Ax where
  ns := fun a ha h => by
    rcases p.snew a h with h | ⟨i, hi⟩ | hn
    · exact o.ns a ha h
    · have hb : i ∈ bo := Classical.byContradiction fun z => o.dj i z a ha hi
      have e := (s i (d i hb)).2.1
      exact R2.ns i a (by rw [e]; exact hi) h
    · exact mut_ne (hc a ha) hn
  dj := fun i hi a ha h => by
    rcases p.anew i a h with ⟨j, hj⟩ | hn
    · have hb : j ∈ bo := Classical.byContradiction fun z => o.dj j z a ha hj
      have e := (s j (d j hb)).2.1
      have ne : i ≠ j := by rintro rfl; exact hi hb
      exact R2.dj i j ne a h (by rw [e]; exact hj)
    · exact mut_ne (hc a ha) hn
  nd := o.nd
  new := o.new
theorem Ow.back (p : Po S H A S1 H1 A1) (o : Ow bo H1 A1 S2 A2 Ay) : ∀ a ∈ Ay, (∃ j, a ∈ A j) ∨ noT (H a) = none := fun a ha => by
  rcases o.new a ha with ⟨j, hj⟩ | hn
  · exact p.anew j a hj
  · cases e : H a with
    | none => exact .inr rfl
    | some ob =>
      by_cases hj : ∃ j, a ∈ A j
      · exact .inl hj
      · exact .inr (e ▸ fix_back hn e (p.keep a ob e fun i hi => hj ⟨i, hi⟩))
theorem Ow.app (p : Po S H A S1 H1 A1) (hc : ∀ a ∈ Ax, Mut (H1 a)) (o1 : Ow bo H A S1 A1 Ax) (o : Ow bo H A S2 A2 Ax) (o2 : Ow bo2 H1 A1 S2 A2 Ay) : Ow (bo ++ bo2) H A S2 A2 (Ax ++ Ay) where
  ns := fun a ha => (List.mem_append.mp ha).elim (o.ns a) (o2.ns a)
  dj := fun i hi a ha => (List.mem_append.mp ha).elim (o.dj i (fun z => hi (List.mem_append_left _ z)) a) (o2.dj i (fun z => hi (List.mem_append_right _ z)) a)
  nd := fun e => by
    obtain ⟨e1, e2⟩ := List.append_eq_nil_iff.mp e
    refine List.nodup_append.mpr ⟨o.nd e1, o2.nd e2, fun a ha b hb e3 => ?_⟩
    subst e3
    rcases o2.new a hb with ⟨j, hj⟩ | hn
    · exact o1.dj j (by rw [e1]; exact fun z => nomatch z) a ha hj
    · exact mut_ne (hc a ha) hn
  new := fun a ha => (List.mem_append.mp ha).elim (o.new a) (o2.back p a)
theorem Ow.nil : Ow bo H A S2 A2 [] := ⟨(fun _ h => nomatch h), (fun _ _ _ h => nomatch h), (fun _ => List.nodup_nil), (fun _ h => nomatch h)⟩
theorem Ow.mono {bo' : List Nat} (o : Ow bo H A S2 A2 Ax) (h : ∀ i ∈ bo, i ∈ bo') (hn : bo' = [] → bo = []) : Ow bo' H A S2 A2 Ax := ⟨o.ns, fun i hi => o.dj i fun z => hi (h i z), fun e => o.nd (hn e), o.new⟩
abbrev M (α : Type) := List T → Option (α × List T)
def bnd {α β : Type} (x : M α) (f : α → M β) : M β := fun s => match x s with
  | none => none
  | some (a, s') => f a s'
def ret {α : Type} (a : α) : M α := fun s => some (a, s)
def lft {α : Type} (o : Option α) : M α := fun s => match o with
  | none => none
  | some a => some (a, s)
theorem bnd_some {α β : Type} {x : M α} {f : α → M β} {s s2 : List T} {b : β} (h : bnd x f s = some (b, s2)) : ∃ a s1, x s = some (a, s1) ∧ f a s1 = some (b, s2) := by
  unfold bnd at h
  cases e : x s with
  | none => rw [e] at h; cases h
  | some p => obtain ⟨a, s1⟩ := p; rw [e] at h; exact ⟨a, s1, rfl, h⟩
theorem lft_some {α : Type} {o : Option α} {s s2 : List T} {b : α} (h : lft o s = some (b, s2)) : o = some b ∧ s2 = s := by
  unfold lft at h
  cases o with
  | none => cases h
  | some a =>
    have h : some (a, s) = some (b, s2) := h
    injection h with h
    injection h with h1 h2
    exact ⟨by rw [h1], h2.symm⟩
def TM (g : Gc) (f : M T) (eff bo : List Nat) : TE := fun σ H Q => ∃ S Ts A t Ts', SR g S H σ Ts A ∧ f Ts = some (t, Ts') ∧
  ∀ x H' S' A' Ax, SR g S' H' σ Ts' A' → Rp g S' H' t x Ax → Ow bo H A S' A' Ax → Po S H A S' H' A' → Stb eff H Ts A H' Ts' A' → Q x H'
def TMt (g : Gc) (f : M Bool) (eff : List Nat) : TT := fun σ H Q => ∃ S Ts A b Ts', SR g S H σ Ts A ∧ f Ts = some (b, Ts') ∧
  ∀ H' S' A', SR g S' H' σ Ts' A' → Po S H A S' H' A' → Stb eff H Ts A H' Ts' A' → Q b H'
def TMs (g : Gc) (f : M (List T)) (eff bo : List Nat) : TA := fun σ H Q => ∃ S Ts A ts Ts', SR g S H σ Ts A ∧ f Ts = some (ts, Ts') ∧
  ∀ xs H' S' A' Ax, SR g S' H' σ Ts' A' → RpL g S' H' ts xs Ax → Ow bo H A S' A' Ax → Po S H A S' H' A' → Stb eff H Ts A H' Ts' A' → Q xs H'
def PEm (g : Gc) (X : Cx) (e : Expr) (f : M T) (eff bo : List Nat) : Prop := PE X e (TM g f eff bo)
def PTm (g : Gc) (X : Cx) (e : Expr) (f : M Bool) (eff : List Nat) : Prop := PT X e (TMt g f eff)
def PAm (g : Gc) (X : Cx) (es : List Expr) (f : M (List T)) (eff bo : List Nat) : Prop := PA X es (TMs g f eff bo)
theorem PE.imp {X : Cx} {e : Expr} {t t' : TE} (h : PE X e t) (i : ∀ σ H Q, t' σ H Q → t σ H Q) : PE X e t' := ⟨fun pins s σ H Q I q => h.run pins s σ H Q I (i σ H Q q)⟩
theorem PT.imp {X : Cx} {e : Expr} {t t' : TT} (h : PT X e t) (i : ∀ σ H Q, t' σ H Q → t σ H Q) : PT X e t' := ⟨fun pins s σ H Q I q => h.run pins s σ H Q I (i σ H Q q)⟩
theorem PA.imp {X : Cx} {e : List Expr} {t t' : TA} (h : PA X e t) (i : ∀ σ H Q, t' σ H Q → t σ H Q) : PA X e t' := ⟨fun pos pins s σ H Q I q => h.run pos pins s σ H Q I (i σ H Q q)⟩
theorem PS.imp {X : Cx} {e : Stmt} {t t' : TS} (h : PS X e t) (i : ∀ D σ H, t' D σ H → t D σ H) : PS X e t' := ⟨fun pins s σ H D I q => h.run pins s σ H D I (i D σ H q)⟩
theorem PSs.imp {X : Cx} {e : List Stmt} {t t' : TS} (h : PSs X e t) (i : ∀ D σ H, t' D σ H → t D σ H) : PSs X e t' := ⟨fun pins s σ H D I q => h.run pins s σ H D I (i D σ H q)⟩
end
end MI
namespace MI
open PySem L2
structure New (g : Gc) (S : Addr → Prop) (H H' : Hp) (t : T) (z : V) (Az : List Addr) : Prop where
  ext : Ext H H'
  rep : Rp g S H' t z Az
  nd : Az.Nodup
  new : ∀ a ∈ Az, H a = none
section
variable {g : Gc} {S S1 S2 : Addr → Prop} {H H1 H2 : Hp} {A A1 A2 : Nat → List Addr} {σ : L2.St} {Ts Ts1 Ts2 : List T} {eff eff1 eff2 bo bo2 : List Nat} {Ax Ay : List Addr}
theorem Rp.ext (e : Ext H H1) {t : T} {x : V} (r : Rp g S H t x Ax) : Rp g S H1 t x Ax :=
  Rp.keep (M := fun _ => False) (fun a o h _ => e a o h) (fun _ h => h.elim) (fun _ _ h => h) (fun _ h => h) t x Ax r fun _ _ h => h
theorem RpL.ext (e : Ext H H1) {t : List T} {x : List V} (r : RpL g S H t x Ax) : RpL g S H1 t x Ax :=
  RpL.keep (M := fun _ => False) (fun a o h _ => e a o h) (fun _ h => h.elim) (fun _ _ h => h) (fun _ h => h) t x Ax r fun _ _ h => h
theorem SR.ext (R : SR g S H σ Ts A) (e : Ext H H1) : SR g S H1 σ Ts A where
  rep := fun i => by
    rcases R.rep i with h | ⟨x, h1, h2⟩
    · exact .inl h
    · exact .inr ⟨x, h1, h2.ext e⟩
  nd := R.nd
  dj := R.dj
  ns := R.ns
  len := R.len
  st := ⟨fun a h => let ⟨o, q, n⟩ := R.st.st a h; ⟨o, e a o q, n⟩, R.tb.ext e⟩
theorem Po.ext (e : Ext H H1) : Po S H A S H1 A := ⟨fun a o h _ => fix_of (e a o h), fun _ h => h, fun _ h => .inl h, fun i a h => .inl ⟨i, h⟩⟩
theorem Stb.ext (e : Ext H H1) : Stb eff H Ts A H1 Ts A := fun j _ => ⟨rfl, rfl, fun a _ o h => e a o h⟩
theorem SR.fresh (R : SR g S H σ Ts A) {a : Addr} (h : H a = none) : ¬ S a ∧ ∀ i, a ∉ A i :=
  ⟨(fun z => by obtain ⟨o, q⟩ := R.st a z; rw [h] at q; cases q), fun i z => mut_ne (R.cells i a z) h⟩
theorem Ow.of_new (R : SR g S H σ Ts A) {t : T} {z : V} {Az : List Addr} (n : New g S H H1 t z Az) : Ow bo H A S A Az :=
  ⟨fun a ha => (R.fresh (n.new a ha)).1, fun i _ a ha => (R.fresh (n.new a ha)).2 i, fun _ => n.nd, fun a ha => .inr (n.new a ha)⟩
theorem New.atom {t : T} {z : V} (r : Rp g S H t z []) : New g S H H t z [] := ⟨Ext.refl, r, List.nodup_nil, fun _ h => nomatch h⟩
abbrev RC := List V → Hp → VK → Prop
def OpT (g : Gc) (r : R2) (f : T → T → Option T) : Prop := ∀ S H a b x y Ax Ay t Q, Rp g S H a x Ax → Rp g S H b y Ay → f a b = some t → (∀ z H' Az, New g S H H' t z Az → Q z H') → r x y H Q
def UnT (g : Gc) (r : V → Hp → VK → Prop) (f : T → Option T) : Prop := ∀ S H a x Ax t Q, Rp g S H a x Ax → f a = some t → (∀ z H' Az, New g S H H' t z Az → Q z H') → r x H Q
def CallT (g : Gc) (r : RC) (f : List T → Option T) : Prop := ∀ S H ts xs Ax t Q, RpL g S H ts xs Ax → f ts = some t → (∀ z H' Az, New g S H H' t z Az → Q z H') → r xs H Q
theorem tm_two {fa : M T} {fb : M T} {R : V → V → Hp → Prop} {a b : T} (d : ∀ j ∈ bo, j ∉ eff2) (SR0 : SR g S H σ Ts A) (ea : fa Ts = some (a, Ts1)) (eb : fb Ts1 = some (b, Ts2))
    (h : ∀ x y H' S' A' Ax Ay, SR g S' H' σ Ts2 A' → Rp g S' H' a x Ax → Rp g S' H' b y Ay → Ow bo H A S' A' Ax → Ow (bo ++ bo2) H A S' A' (Ax ++ Ay) → Po S H A S' H' A' → Stb (eff1 ++ eff2) H Ts A H' Ts2 A' → R x y H') :
    TM g fa eff1 bo σ H fun x H1 => TM g fb eff2 bo2 σ H1 fun y H2 => R x y H2 := by
  refine ⟨S, Ts, A, a, Ts1, SR0, ea, fun x H1 S1 A1 Ax R1 r1 o1 p1 s1 => ⟨S1, Ts1, A1, b, Ts2, R1, eb, fun y H2 S2 A2 Ay R2 r2 o2 p2 s2 => ?_⟩⟩
  have hc := Rp.cells _ _ _ r1
  have o1' := o1.held R1 R2 hc p2 s2 d
  exact h x y H2 S2 A2 Ax Ay R2 (r1.held R1 o1 p2 s2 d) r2 o1' (Ow.app p1 hc o1 o1' o2) (p1.trans SR0 p2) (s1.trans s2)
end
section
variable {g : Gc} {X : Cx} {a b c : Expr} {fa fb fc : M T} {e1 e2 e3 b1 b2 b3 : List Nat} {pos : Pos} {r : R2} {f : T → T → Option T}
def m2 (f : T → T → Option T) (fa fb : M T) : M T := bnd fa fun a => bnd fb fun b => lft (f a b)
def m1 (f : T → Option T) (fa : M T) : M T := bnd fa fun a => lft (f a)
theorem tm_op2 {fa fb : M T} (hop : OpT g r f) (d : ∀ j ∈ b1, j ∉ e2) (σ : L2.St) (H : Hp) (Q : VK) (h : TM g (m2 f fa fb) (e1 ++ e2) [] σ H Q) : tOp r (TM g fa e1 b1) (TM g fb e2 b2) σ H Q := by
  obtain ⟨S, Ts, A, t, Ts', R, e, k⟩ := h
  obtain ⟨ta, Ts1, ea, e⟩ := bnd_some e
  obtain ⟨tb, Ts2, eb, e⟩ := bnd_some e
  obtain ⟨ef, rfl⟩ := lft_some e
  refine tm_two d R ea eb fun x y H' S' A' Ax Ay R' rx ry _ _ p s => ?_
  refine hop S' H' ta tb x y Ax Ay t Q rx ry ef fun z H2 Az n => ?_
  have R2 := R'.ext n.ext
  have o : Ow [] H' A' S' A' Az := Ow.of_new R' n
  refine k z H2 S' A' Az R2 n.rep ⟨o.ns, o.dj, o.nd, o.back p⟩ (p.trans R (Po.ext n.ext)) ?_
  have := s.trans (Stb.ext (eff := []) (Ts := Ts') (A := A') n.ext)
  rw [List.append_nil] at this
  exact this
theorem tm_un1 {fa : M T} {r : V → Hp → VK → Prop} {f : T → Option T} (hop : UnT g r f) (σ : L2.St) (H : Hp) (Q : VK) (h : TM g (m1 f fa) e1 [] σ H Q) : tUn r (TM g fa e1 b1) σ H Q := by
  obtain ⟨S, Ts, A, t, Ts', R, e, k⟩ := h
  obtain ⟨ta, Ts1, ea, e⟩ := bnd_some e
  obtain ⟨ef, rfl⟩ := lft_some e
  refine ⟨S, Ts, A, ta, Ts', R, ea, fun x H' S' A' Ax R' rx o1 p s => ?_⟩
  refine hop S' H' ta x Ax t Q rx ef fun z H2 Az n => ?_
  have o : Ow [] H' A' S' A' Az := Ow.of_new R' n
  refine k z H2 S' A' Az (R'.ext n.ext) n.rep ⟨o.ns, o.dj, o.nd, o.back p⟩ (p.trans R (Po.ext n.ext)) ?_
  have := s.trans (Stb.ext (eff := []) (Ts := Ts') (A := A') n.ext)
  rw [List.append_nil] at this
  exact this
theorem tm_bin {op : Operator} (ho : OpR X (binaryOp op) r) (hop : OpT g r f) (ha : PEm g X a fa e1 b1) (hb : PEm g X b fb e2 b2) (d : ∀ j ∈ b1, j ∉ e2 := by decide) : PEm g X (.BinOp a op b pos) (m2 f fa fb) (e1 ++ e2) [] :=
  PE.imp (pe_op ho ha hb) (tm_op2 hop d)
theorem tm_cmp {op : CmpOp} (ho : OpR X (compareOp op) r) (hop : OpT g r f) (ha : PEm g X a fa e1 b1) (hb : PEm g X b fb e2 b2) (d : ∀ j ∈ b1, j ∉ e2 := by decide) (hm : behindInMarks op b = false := by rfl) : PEm g X (.Compare a [op] [b] pos) (m2 f fa fb) (e1 ++ e2) [] :=
  PE.imp (pe_cmpR ho ha hb hm) (tm_op2 hop d)
def asB (fa : M T) : M Bool := bnd fa fun t => lft (match t with
  | .bl b => some b
  | _ => none)
theorem asB_some {fa : M T} {s s' : List T} {k : Bool} (h : asB fa s = some (k, s')) : fa s = some (.bl k, s') := by
  obtain ⟨t, s1, e1, e2⟩ := bnd_some h
  obtain ⟨e3, rfl⟩ := lft_some e2
  cases t with
  | bl q => injection e3 with e3; rw [e1, e3]
  | _ => cases e3
theorem tmt_of {t : TE} {fa : M T} (h : ∀ σ H Q, TM g fa e1 b1 σ H Q → t σ H Q) (σ : L2.St) (H : Hp) (Q : Bool → Hp → Prop) (q : TMt g (asB fa) e1 σ H Q) : tTest t σ H Q := by
  obtain ⟨S, Ts, A, k, Ts', R, e, w⟩ := q
  refine h σ H _ ⟨S, Ts, A, .bl k, Ts', R, asB_some e, fun x H' S' A' Ax R' rx o p s => ?_⟩
  exact ⟨k, rx.1, w H' S' A' R' p s⟩
theorem tmt_cmp {op : CmpOp} (ho : OpR X (compareOp op) r) (hop : OpT g r f) (ha : PEm g X a fa e1 b1) (hb : PEm g X b fb e2 b2) (d : ∀ j ∈ b1, j ∉ e2 := by decide) (hm : behindInMarks op b = false := by rfl) : PTm g X (.Compare a [op] [b] pos) (asB (m2 f fa fb)) (e1 ++ e2) :=
  PT.imp (pt_cmpR ho ha hb hm) (tmt_of (b1 := []) (tm_op2 hop d))
end
section
variable {g : Gc} {X : Cx} {pos : Pos}
def mC (t : T) : M T := ret t
def mRd (i : Nat) : M T := fun Ts => match slot Ts i with
  | .dead => none
  | t => some (t, Ts)
def mIm (fa : M T) : M T := bnd fa fun t => lft (if t.imm then some t else none)
def mFz (i : Nat) : M T := fun Ts => match slot Ts i with
  | .dead => none
  | t => if t.imm then some (t, Ts) else some (t.fz, Ts.set i t.fz)
def mMv (i : Nat) : M T := fun Ts => match slot Ts i with
  | .dead => none
  | t => if t.imm then some (t, Ts) else some (t, Ts.set i .dead)
theorem tm_c {v : V} {t : T} {e : Expr} (h : PE X e (tC v)) (r : ∀ S H, Rp g S H t v []) : PEm g X e (mC t) [] [] :=
  PE.imp h fun σ H Q ⟨S, Ts, A, t', Ts', R, e, k⟩ => by
    have e : some (t, Ts) = some (t', Ts') := e
    injection e with e
    injection e with e1 e2
    subst e1; subst e2
    exact k v H S A [] R (r S H) Ow.nil Po.refl Stb.refl
theorem tm_int {i : Int} {j : Nat} : PEm g X (.Constant (.int i) j pos) (mC (.int i)) [] [] := tm_c pe_int fun _ _ => ⟨rfl, rfl⟩
theorem tm_str {x : Str} {j : Nat} : PEm g X (.Constant (.str x) j pos) (mC (.str x)) [] [] := tm_c pe_str fun _ _ => ⟨rfl, rfl⟩
theorem tm_bl {b : Bool} {j : Nat} : PEm g X (.Constant (.bool b) j pos) (mC (.bl b)) [] [] := tm_c pe_bl fun _ _ => ⟨rfl, rfl⟩
theorem tm_non {j : Nat} : PEm g X (.Constant .none j pos) (mC .non) [] [] := tm_c pe_non fun _ _ => ⟨rfl, rfl⟩
theorem mRd_some {i : Nat} {Ts Ts' : List T} {t : T} (h : mRd i Ts = some (t, Ts')) : slot Ts i = t ∧ t ≠ .dead ∧ Ts' = Ts := by
  unfold mRd at h
  cases e : slot Ts i <;> rw [e] at h <;> first | (cases h; done) | (injection h with h; injection h with h1 h2; subst h1; subst h2; exact ⟨rfl, (fun z => nomatch z), rfl⟩)
theorem SR.at {S : Addr → Prop} {H : Hp} {σ : L2.St} {Ts : List T} {A : Nat → List Addr} {i : Nat} {t : T} (R : SR g S H σ Ts A) (e : slot Ts i = t) (n : t ≠ .dead) : ∃ x, σ[i]? = some (some x) ∧ Rp g S H t x (A i) := by
  rcases R.rep i with ⟨h, _⟩ | ⟨x, h1, h2⟩
  · exact absurd (e.symm.trans h) n
  · rw [e] at h2
    refine ⟨x, ?_, h2⟩
    rw [List.getD_eq_getElem?_getD] at h1
    cases q : σ[i]? with
    | none => rw [q] at h1; cases h1
    | some o => rw [q] at h1; exact congrArg some h1
theorem tm_rd {i : Nat} {e : Expr} (h : PE X e (tVar i)) : PEm g X e (mRd i) [] [i] :=
  PE.imp h fun σ H Q ⟨S, Ts, A, t, Ts', R, e, k⟩ => by
    obtain ⟨e1, n, rfl⟩ := mRd_some e
    obtain ⟨x, hx, rx⟩ := R.at e1 n
    refine ⟨x, hx, k x H S A (A i) R rx ⟨R.ns i, fun j hj a ha => R.dj i j (fun z => hj (by rw [z]; exact List.mem_singleton.mpr rfl)) a ha, (fun z => nomatch z), fun a ha => .inl ⟨i, ha⟩⟩ Po.refl Stb.refl⟩
theorem tm_im {e : Expr} {fa : M T} {e1 b1 : List Nat} (h : PEm g X e fa e1 b1) : PEm g X e (mIm fa) e1 [] :=
  PE.imp h fun σ H Q ⟨S, Ts, A, t, Ts', R, e, k⟩ => by
    obtain ⟨t', Ts1, ea, e⟩ := bnd_some e
    obtain ⟨ef, rfl⟩ := lft_some e
    split at ef
    · rename_i hi
      injection ef with ef
      subst ef
      refine ⟨S, Ts, A, t', Ts', R, ea, fun x H' S' A' Ax R' rx o p s => ?_⟩
      have en := Rp.imm_nil _ _ _ rx hi
      subst en
      exact k x H' S' A' [] R' rx Ow.nil p s
    · cases ef
theorem SR.frz {S : Addr → Prop} {H : Hp} {σ : L2.St} {Ts : List T} {A : Nat → List Addr} {i : Nat} {t : T} (R : SR g S H σ Ts A) (e : slot Ts i = t) (n : t ≠ .dead) :
    SR g (fun a => S a ∨ a ∈ A i) H σ (Ts.set i t.fz) (fun j => if j = i then [] else A j) ∧ Po S H A (fun a => S a ∨ a ∈ A i) H (fun j => if j = i then [] else A j) ∧ Stb [i] H Ts A H (Ts.set i t.fz) (fun j => if j = i then [] else A j) := by
  obtain ⟨x, hx, rx⟩ := R.at e n
  have il : i < Ts.length := by
    rw [R.len]
    exact (List.getElem?_eq_some_iff.mp hx).1
  have hset : ∀ j, j ≠ i → slot (Ts.set i t.fz) j = slot Ts j := fun j hj => by
    unfold slot
    rw [List.getD_eq_getElem?_getD, List.getD_eq_getElem?_getD, List.getElem?_set_ne (Ne.symm hj)]
  have hself : slot (Ts.set i t.fz) i = t.fz := by
    unfold slot
    rw [List.getD_eq_getElem?_getD, List.getElem?_set_self il]; rfl
  refine ⟨⟨fun j => ?_, fun j => ?_, fun j k hjk a ha => ?_, fun j a ha => ?_, by rw [List.length_set]; exact R.len, ⟨fun a h => ?_, R.tb⟩⟩, ⟨fun _ _ h _ => fix_of h, fun a h => .inl h, fun a h => h.elim .inl fun z => .inr (.inl ⟨i, z⟩), fun j a h => ?_⟩, fun j hj => ?_⟩
  · by_cases hj : j = i
    · subst hj
      rw [hself, if_pos rfl]
      refine .inr ⟨x, ?_, Rp.fz (fun _ h => .inl h) t x _ rx fun a ha => .inr ha⟩
      rw [List.getD_eq_getElem?_getD, hx]; rfl
    · rw [hset j hj, if_neg hj]
      rcases R.rep j with h | ⟨y, h1, h2⟩
      · exact .inl h
      · exact .inr ⟨y, h1, Rp.keep (M := fun _ => False) (fun a o h _ => h) (fun _ h => h.elim) (fun _ _ h => h) (fun _ h => .inl h) _ _ _ h2 fun _ _ h => h⟩
  · split
    · exact List.nodup_nil
    · exact R.nd j
  · split at ha
    · exact nomatch ha
    · split
      · exact fun z => nomatch z
      · exact R.dj j k hjk a ha
  · split at ha
    · exact nomatch ha
    · rename_i hj
      rintro (h | h)
      · exact R.ns j a ha h
      · exact R.dj j i hj a ha h
  · rcases h with h | h
    · exact R.st.st a h
    · have := R.cells i a h
      cases q : H a with
      | none => rw [q] at this; exact this.elim
      | some o => exact ⟨o, rfl, mut_tbl (by rw [q] at this; exact this)⟩
  · split at h
    · exact nomatch h
    · exact .inl ⟨j, h⟩
  · have hj : j ≠ i := fun z => hj (by rw [z]; exact List.mem_singleton.mpr rfl)
    exact ⟨hset j hj, if_neg hj, fun _ _ _ h => h⟩
theorem tm_fz {i : Nat} {e : Expr} (h : PE X e (tVar i)) : PEm g X e (mFz i) [i] [] :=
  PE.imp h fun σ H Q ⟨S, Ts, A, t, Ts', R, e, k⟩ => by
    have key : ∃ u, slot Ts i = u ∧ u ≠ .dead ∧ (if u.imm then some (u, Ts) else some (u.fz, Ts.set i u.fz)) = some (t, Ts') := by
      unfold mFz at e
      cases q : slot Ts i <;> rw [q] at e <;> first | (cases e; done) | exact ⟨_, rfl, (fun z => nomatch z), e⟩
    obtain ⟨u, e1, n, e2⟩ := key
    obtain ⟨x, hx, rx⟩ := R.at e1 n
    refine ⟨x, hx, ?_⟩
    split at e2
    · rename_i hi
      injection e2 with e2
      injection e2 with h1 h2
      subst h1; subst h2
      have en := Rp.imm_nil _ _ _ rx hi
      rw [en] at rx
      exact k x H S A [] R rx Ow.nil Po.refl Stb.refl
    · injection e2 with e2
      injection e2 with h1 h2
      subst h1; subst h2
      obtain ⟨R', p, s⟩ := R.frz e1 n
      exact k x H _ _ [] R' (Rp.fz (fun _ h => .inl h) u x _ rx fun a ha => .inr ha) Ow.nil p s
end
end MI
namespace MI
open PySem L2
section
variable {g : Gc} {S S1 S2 : Addr → Prop} {H H1 H2 : Hp} {A A1 A2 : Nat → List Addr} {σ : L2.St} {Ts Ts1 Ts2 : List T} {eff eff1 eff2 bo bo2 : List Nat} {Ax Ay : List Addr}
theorem RpL.at : ∀ (ts : List T) (xs : List V) (A : List Addr), RpL g S H ts xs A → ∀ (i : Nat) (t : T), ts[i]? = some t → ∃ x B, xs[i]? = some x ∧ Rp g S H t x B ∧ B.Sublist A
  | [], _, _, h, i, t, e => by simp at e
  | t0 :: ts, xs, A, h, i, t, e => by
    obtain ⟨y, ys, A1, A2, e1, e2, r1, r2⟩ := h
    subst e1; subst e2
    cases i with
    | zero =>
      simp at e; subst e
      exact ⟨y, A1, rfl, r1, List.sublist_append_left _ _⟩
    | succ i =>
      obtain ⟨x, B, h1, h2, h3⟩ := RpL.at ts ys A2 r2 i t (by simpa using e)
      exact ⟨x, B, by simpa using h1, h2, h3.trans (List.sublist_append_right _ _)⟩
theorem Ow.part {B : List Addr} (o : Ow bo H A S2 A2 Ax) (h : B.Sublist Ax) : Ow bo H A S2 A2 B :=
  ⟨fun a ha => o.ns a (h.subset ha), fun i hi a ha => o.dj i hi a (h.subset ha), fun e => (o.nd e).sublist h, fun a ha => o.new a (h.subset ha)⟩
theorem RpL.imm_one {ts : List T} {xs : List V} (r : RpL g S H ts xs Ax) (hi : immL ts = true) : RpL g S H ts xs [] := by
  have e := RpL.imm_nil _ _ _ r hi
  rw [← e]; exact r
theorem Ow.rebase (p : Po S H A S1 H1 A1) (o : Ow bo H1 A1 S2 A2 Ay) : Ow bo H A S2 A2 Ay := ⟨o.ns, o.dj, o.nd, o.back p⟩
theorem SR.mv {i : Nat} {t : T} (R : SR g S H σ Ts A) (e : slot Ts i = t) (n : t ≠ .dead) :
    SR g S H σ (Ts.set i .dead) (fun j => if j = i then [] else A j) ∧ Po S H A S H (fun j => if j = i then [] else A j) ∧ Stb [i] H Ts A H (Ts.set i .dead) (fun j => if j = i then [] else A j) ∧ Ow [] H A S (fun j => if j = i then [] else A j) (A i) := by
  obtain ⟨x, hx, rx⟩ := R.at e n
  have il : i < Ts.length := by
    rw [R.len]
    exact (List.getElem?_eq_some_iff.mp hx).1
  have hset : ∀ j, j ≠ i → slot (Ts.set i .dead) j = slot Ts j := fun j hj => by
    unfold slot
    rw [List.getD_eq_getElem?_getD, List.getD_eq_getElem?_getD, List.getElem?_set_ne (Ne.symm hj)]
  have hself : slot (Ts.set i .dead) i = .dead := by
    unfold slot
    rw [List.getD_eq_getElem?_getD, List.getElem?_set_self il]; rfl
  refine ⟨⟨fun j => ?_, fun j => ?_, fun j k hjk a ha => ?_, fun j a ha => ?_, by rw [List.length_set]; exact R.len, R.st⟩, ⟨fun _ _ h _ => fix_of h, fun a h => h, fun a h => .inl h, fun j a h => ?_⟩, fun j hj => ?_, ⟨R.ns i, fun j _ a ha => ?_, fun _ => R.nd i, fun a ha => .inl ⟨i, ha⟩⟩⟩
  · by_cases hj : j = i
    · subst hj
      rw [hself, if_pos rfl]
      exact .inl ⟨rfl, rfl⟩
    · rw [hset j hj, if_neg hj]
      exact R.rep j
  · split
    · exact List.nodup_nil
    · exact R.nd j
  · split at ha
    · exact nomatch ha
    · split
      · exact fun z => nomatch z
      · exact R.dj j k hjk a ha
  · split at ha
    · exact nomatch ha
    · exact R.ns j a ha
  · split at h
    · exact nomatch h
    · exact .inl ⟨j, h⟩
  · have hj : j ≠ i := fun z => hj (by rw [z]; exact List.mem_singleton.mpr rfl)
    exact ⟨hset j hj, if_neg hj, fun _ _ _ h => h⟩
  · split
    · exact fun z => nomatch z
    · rename_i hj
      exact R.dj i j (Ne.symm hj) a ha
end
section
variable {g : Gc} {X : Cx} {a b c e : Expr} {es : List Expr} {fa fb fc : M T} {fs : M (List T)} {e1 e2 e3 b1 b2 b3 : List Nat} {pos p2 : Pos} {r : R2} {f : T → T → Option T}
theorem tm_mv {i : Nat} {e : Expr} (h : PE X e (tVar i)) : PEm g X e (mMv i) [i] [] :=
  PE.imp h fun σ H Q ⟨S, Ts, A, t, Ts', R, e, k⟩ => by
    have key : ∃ u, slot Ts i = u ∧ u ≠ .dead ∧ (if u.imm then some (u, Ts) else some (u, Ts.set i .dead)) = some (t, Ts') := by
      unfold mMv at e
      cases q : slot Ts i <;> rw [q] at e <;> first | (cases e; done) | exact ⟨_, rfl, (fun z => nomatch z), e⟩
    obtain ⟨u, e1, n, e2⟩ := key
    obtain ⟨x, hx, rx⟩ := R.at e1 n
    refine ⟨x, hx, ?_⟩
    split at e2
    · rename_i hi
      injection e2 with e2
      injection e2 with h1 h2
      subst h1; subst h2
      have en := Rp.imm_nil _ _ _ rx hi
      rw [en] at rx
      exact k x H S A [] R rx Ow.nil Po.refl Stb.refl
    · injection e2 with e2
      injection e2 with h1 h2
      subst h1; subst h2
      obtain ⟨R', p, s, o⟩ := R.mv e1 n
      exact k x H _ _ (A i) R' rx o p s
def mNil : M (List T) := ret []
def mCons (fa : M T) (fs : M (List T)) : M (List T) := bnd fa fun a => bnd fs fun as => ret (a :: as)
def kids : T → Option (List T)
  | .nd .tup ts => some ts
  | .nd (.lst _) ts => some ts
  | .nd .scr ts => some ts
  | _ => none
def kidsI (t : T) : Option (List T) := match kids t with
  | some ts => if immL ts then some ts else none
  | none => none
def mStar (fa : M T) (fs : M (List T)) : M (List T) := bnd fa fun a => bnd (lft (kidsI a)) fun ks => bnd fs fun as => ret (ks ++ as)
theorem tms_nil : PAm g X [] mNil [] [] :=
  PA.imp pa_nil fun σ H Q ⟨S, Ts, A, ts, Ts', R, e, k⟩ => by
    have e : some (([] : List T), Ts) = some (ts, Ts') := e
    injection e with e
    injection e with h1 h2
    subst h1; subst h2
    exact k [] H S A [] R ⟨rfl, rfl⟩ Ow.nil Po.refl Stb.refl
theorem tms_cons_r (d : ∀ j ∈ b1, j ∉ e2) (σ : L2.St) (H : Hp) (Q : List V → Hp → Prop) (h : TMs g (mCons fa fs) (e1 ++ e2) (b1 ++ b2) σ H Q) : tCons (TM g fa e1 b1) (TMs g fs e2 b2) σ H Q := by
  obtain ⟨S, Ts, A, ts, Ts', R, e, k⟩ := h
  obtain ⟨ta, Ts1, ea, e⟩ := bnd_some e
  obtain ⟨tb, Ts2, eb, e⟩ := bnd_some e
  have e : some (ta :: tb, Ts2) = some (ts, Ts') := e
  injection e with e
  injection e with h1 h2
  subst h1; subst h2
  refine ⟨S, Ts, A, ta, Ts1, R, ea, fun x H1 S1 A1 Ax R1 r1 o1 p1 s1 => ⟨S1, Ts1, A1, tb, Ts2, R1, eb, fun ys H2 S2 A2 Ay R2 r2 o2 p2 s2 => ?_⟩⟩
  have hc := Rp.cells _ _ _ r1
  have o1' := o1.held R1 R2 hc p2 s2 d
  exact k (x :: ys) H2 S2 A2 (Ax ++ Ay) R2 ⟨x, ys, Ax, Ay, rfl, rfl, r1.held R1 o1 p2 s2 d, r2⟩ (Ow.app p1 hc o1 o1' o2) (p1.trans R p2) (s1.trans s2)
theorem tms_cons (ha : PEm g X e fa e1 b1) (hs : PAm g X es fs e2 b2) (d : ∀ j ∈ b1, j ∉ e2 := by decide) (hst : starEach (e :: es) X.env = (false, eval e X.env) :: starEach es X.env := by rfl) : PAm g X (e :: es) (mCons fa fs) (e1 ++ e2) (b1 ++ b2) :=
  PA.imp (pa_cons ha hs hst) (tms_cons_r d)
theorem kidsI_rep {S : Addr → Prop} {H : Hp} {t : T} {ks : List T} {x : V} {Ax : List Addr} (hk : kidsI t = some ks) (r : Rp g S H t x Ax) : ∃ p xs, x = .ref p ∧ (SqT g.K H p xs ∨ SqL g.K H p xs) ∧ RpL g S H ks xs [] := by
  unfold kidsI kids at hk
  split at hk
  · rename_i h
    split at hk
    · rename_i hi
      injection hk with hk; subst hk
      split at h
      · injection h with h; subst h
        obtain ⟨a, xs, B, e, at_, eA, c, r⟩ := r
        exact ⟨a, xs, e, .inl at_.sqT, r.imm_one hi⟩
      · rename_i o _
        injection h with h; subst h
        obtain ⟨a, xs, B, e, at_, eA, c, r⟩ := r
        exact ⟨a, xs, e, .inr at_.sqL, r.imm_one hi⟩
      · injection h with h; subst h
        obtain ⟨a, xs, B, e, at_, eA, c, r⟩ := r
        exact ⟨a, xs, e, .inr at_.sqS, r.imm_one hi⟩
      · cases h
    · cases hk
  · cases hk
theorem kidsI_repA {S : Addr → Prop} {H : Hp} {t : T} {ks : List T} {x : V} {Ax : List Addr} (hk : kidsI t = some ks) (r : Rp g S H t x Ax) : ∃ p xs, x = .ref p ∧ (At g S H .tup p xs ∨ SqL g.K H p xs) ∧ RpL g S H ks xs [] := by
  unfold kidsI kids at hk
  split at hk
  · rename_i h
    split at hk
    · rename_i hi
      injection hk with hk; subst hk
      split at h
      · injection h with h; subst h
        obtain ⟨a, xs, B, e, at_, eA, c, r⟩ := r
        exact ⟨a, xs, e, .inl at_, r.imm_one hi⟩
      · rename_i o _
        injection h with h; subst h
        obtain ⟨a, xs, B, e, at_, eA, c, r⟩ := r
        exact ⟨a, xs, e, .inr at_.sqL, r.imm_one hi⟩
      · injection h with h; subst h
        obtain ⟨a, xs, B, e, at_, eA, c, r⟩ := r
        exact ⟨a, xs, e, .inr at_.sqS, r.imm_one hi⟩
      · cases h
    · cases hk
  · cases hk
theorem tms_star_r (hK : g.K = X.K) (σ : L2.St) (H : Hp) (Q : List V → Hp → Prop) (h : TMs g (mStar fa fs) (e1 ++ e2) b2 σ H Q) : StX.tStar X.K (TM g fa e1 b1) (TMs g fs e2 b2) σ H Q := by
  obtain ⟨S, Ts, A, ts, Ts', R, e, k⟩ := h
  obtain ⟨ta, Ts1, ea, q1⟩ := bnd_some e
  obtain ⟨ks, Ts1', ek0, q2⟩ := bnd_some q1
  obtain ⟨ek, eT⟩ := lft_some ek0
  subst eT
  obtain ⟨tb, Ts2, eb, q3⟩ := bnd_some q2
  have q4 : some (ks ++ tb, Ts2) = some (ts, Ts') := q3
  injection q4 with q4
  injection q4 with h1 h2
  subst h1; subst h2
  refine ⟨S, Ts, A, ta, Ts1', R, ea, fun x H1 S1 A1 Ax R1 r1 o1 p1 s1 => ?_⟩
  obtain ⟨p, xs, ex, hx, rk⟩ := kidsI_rep ek r1
  rw [hK] at hx
  refine ⟨p, xs, ex, hx, S1, Ts1', A1, tb, Ts2, R1, eb, fun ys H2 S2 A2 Ay R2 r2 o2 p2 s2 => ?_⟩
  have rk2 : RpL g S2 H2 ks xs [] := RpL.held (bo := []) (H := H) (A := A) R1 rk Ow.nil p2 s2 fun _ z => nomatch z
  exact k (xs ++ ys) H2 S2 A2 Ay R2 (RpL.append _ _ _ _ _ _ rk2 r2) (o2.rebase p1) (p1.trans R p2) (s1.trans s2)
theorem tms_star (hK : g.K = X.K) (ha : PEm g X e fa e1 b1) (hs : PAm g X es fs e2 b2) (hst : starEach (.Starred e p2 :: es) X.env = (true, eval e X.env) :: starEach es X.env := by rfl) : PAm g X (.Starred e p2 :: es) (mStar fa fs) (e1 ++ e2) b2 :=
  PA.imp (StX.pa_star ha hs hst) (tms_star_r hK)
def mTup (fs : M (List T)) : M T := bnd fs fun ts => lft (if ts.length ≤ sizeLine then some (.nd .tup ts) else none)
def mLst (fs : M (List T)) : M T := bnd fs fun ts => lft (if ts.length ≤ sizeLine then some (.nd (.lst true) ts) else none)
section
variable {S : Addr → Prop} {H : Hp} {A : Nat → List Addr} {σ : L2.St} {Ts : List T}
theorem upd_ext {p : Addr} {o : HO} (hp : H p = none) (no : ∀ ps, o ≠ .tbl ps := by intro _ z; cases z) : Ext H (upd H p o) := Ext.upd hp no
end
theorem tm_tup {k : Nat} (hs : PAm g X es fs e1 []) : PEm g X (.Tuple es k pos) (mTup fs) e1 [] :=
  PE.imp (pe_tup hs) fun σ H Q ⟨S, Ts, A, t, Ts', R, e, k⟩ => by
    obtain ⟨ts, Ts1, ea, e⟩ := bnd_some e
    obtain ⟨ef, rfl⟩ := lft_some e
    split at ef
    · rename_i hz
      injection ef with ef; subst ef
      refine ⟨S, Ts, A, ts, Ts', R, ea, fun xs H1 S1 A1 Ax R1 r1 o1 p1 s1 => ⟨by rw [← RpL.length _ _ _ r1]; exact hz, fun p hp => ?_⟩⟩
      have ex := upd_ext (o := .tup xs) hp
      have s2 := s1.trans (Stb.ext (eff := []) (Ts := Ts') (A := A1) ex)
      rw [List.append_nil] at s2
      exact k _ _ S1 A1 Ax (R1.ext ex) ⟨p, xs, Ax, rfl, .inl upd_same, rfl, .inr (.inl rfl), r1.ext ex⟩ o1 (p1.trans R (Po.ext ex)) s2
    · cases ef
theorem tm_lst (hs : PAm g X es fs e1 []) : PEm g X (.List es pos) (mLst fs) e1 [] :=
  PE.imp (pe_lst hs) fun σ H Q ⟨S, Ts, A, t, Ts', R, e, k⟩ => by
    obtain ⟨ts, Ts1, ea, e⟩ := bnd_some e
    obtain ⟨ef, rfl⟩ := lft_some e
    split at ef
    · rename_i hz
      injection ef with ef; subst ef
      refine ⟨S, Ts, A, ts, Ts', R, ea, fun xs H1 S1 A1 Ax R1 r1 o1 p1 s1 => ⟨by rw [← RpL.length _ _ _ r1]; exact hz, fun p hp => ?_⟩⟩
      have ex := upd_ext (o := .lst xs) hp
      have s2 := s1.trans (Stb.ext (eff := []) (Ts := Ts') (A := A1) ex)
      rw [List.append_nil] at s2
      have fr := R1.fresh hp
      have hc := RpL.cells _ _ _ r1
      have bk : (∃ j, p ∈ A j) ∨ noT (H p) = none := by
        cases e : H p with
        | none => exact .inr rfl
        | some ob =>
          by_cases hj : ∃ j, p ∈ A j
          · exact .inl hj
          · exact .inr (e ▸ fix_back hp e (p1.keep p ob e fun i hi => hj ⟨i, hi⟩))
      refine k _ _ S1 A1 (p :: Ax) (R1.ext ex) ⟨p, xs, Ax, rfl, upd_same, rfl, .inl rfl, r1.ext ex⟩ ⟨fun a ha => ?_, fun i hi a ha => ?_, fun e => List.nodup_cons.mpr ⟨fun z => mut_ne (hc p z) hp, o1.nd e⟩, fun a ha => ?_⟩ (p1.trans R (Po.ext ex)) s2
      · rcases List.mem_cons.mp ha with rfl | ha
        · exact fr.1
        · exact o1.ns a ha
      · rcases List.mem_cons.mp ha with rfl | ha
        · exact fr.2 i
        · exact o1.dj i hi a ha
      · rcases List.mem_cons.mp ha with rfl | ha
        · exact bk
        · exact o1.new a ha
    · cases ef
def mF (f : List T → Option T) (fs : M (List T)) : M T := bnd fs fun ts => lft (f ts)
theorem tm_cb_r {f : List T → Option T} {r : RC} (hf : CallT g r f) (σ : L2.St) (H : Hp) (Q : VK) (h : TM g (mF f fs) e1 [] σ H Q) : tCB r (TMs g fs e1 b1) σ H Q := by
  obtain ⟨S, Ts, A, t, Ts', R, e, k⟩ := h
  obtain ⟨ta, Ts1, ea, e⟩ := bnd_some e
  obtain ⟨ef, rfl⟩ := lft_some e
  refine ⟨S, Ts, A, ta, Ts', R, ea, fun x H' S' A' Ax R' rx o1 p s => ?_⟩
  refine hf S' H' ta x Ax t Q rx ef fun z H2 Az n => ?_
  have o : Ow [] H' A' S' A' Az := Ow.of_new R' n
  have s2 := s.trans (Stb.ext (eff := []) (Ts := Ts') (A := A') n.ext)
  rw [List.append_nil] at s2
  exact k z H2 S' A' Az (R'.ext n.ext) n.rep (o.rebase p) (p.trans R (Po.ext n.ext)) s2
theorem tm_callB {x : Str} {id : String} {r : RC} {f : List T → Option T} (hc : CallR X (.builtin id) r) (hf : CallT g r f) (hg : Gl X x) (hm : X.mg x = none) (hv : bootBuiltins x = some (.builtin id)) (ha : PAm g X (e :: es) fs e1 b1) (hn : x ≠ "__name__" := by decide) (hdb : (x == ("__debug__" : Str)) = false := by decide)
    (he : starEach (e :: es) X.env = (false, eval e X.env) :: starEach es X.env := by rfl) (hpl : (backTo pos (starEach es X.env)).any (·.1) = false := by rfl) : PEm g X (.Call (.Name x p2) (e :: es) [] pos) (mF f fs) e1 [] :=
  PE.imp (pe_callB hc hg hm hv ha hn hdb he hpl) (tm_cb_r hf)
theorem tm_callTy {x : Str} {id : String} {r : RC} {f : List T → Option T} (hc : CallR X (.type id) r) (hf : CallT g r f) (hg : Gl X x) (hm : X.mg x = none) (hv : bootBuiltins x = some (.type id)) (ha : PAm g X (e :: es) fs e1 b1) (hn : x ≠ "__name__" := by decide) (hdb : (x == ("__debug__" : Str)) = false := by decide)
    (he : starEach (e :: es) X.env = (false, eval e X.env) :: starEach es X.env := by rfl) (hpl : (backTo pos (starEach es X.env)).any (·.1) = false := by rfl) : PEm g X (.Call (.Name x p2) (e :: es) [] pos) (mF f fs) e1 [] :=
  PE.imp (pe_callTy hc hg hm hv ha hn hdb he hpl) (tm_cb_r hf)
def OpP (g : Gc) (r : R2) (f : T → T → Option T) : Prop := ∀ S H a b x y Ax Ay t Q, Rp g S H a x Ax → Rp g S H b y Ay → f a b = some t → (∀ z B, Rp g S H t z B → B.Sublist Ax → Q z H) → r x y H Q
theorem tm_ix {r : R2} {f : T → T → Option T} (hr : IxR X r) (hf : OpP g r f) (ha : PEm g X a fa e1 b1) (hb : PEm g X b fb e2 b2) (d : ∀ j ∈ b1, j ∉ e2 := by decide) (hs : PlainIx b := by exact fun _ _ => rfl) : PEm g X (.Subscript a b pos) (m2 f fa fb) (e1 ++ e2) b1 :=
  PE.imp (pe_ix hr ha hb hs) fun σ H Q h => by
    obtain ⟨S, Ts, A, t, Ts', R, e, k⟩ := h
    obtain ⟨ta, Ts1, ea, e⟩ := bnd_some e
    obtain ⟨tb, Ts2, eb, e⟩ := bnd_some e
    obtain ⟨ef, rfl⟩ := lft_some e
    refine tm_two (bo2 := b2) d R ea eb fun x y H' S' A' Ax Ay R' rx ry ox _ p s => ?_
    exact hf S' H' ta tb x y Ax Ay t Q rx ry ef fun z B rz hB => k z H' S' A' B R' rz (ox.part hB) p s
def mAnd (fa fb : M Bool) : M Bool := bnd fa fun a => if a then fb else ret false
def mOr (fa fb : M Bool) : M Bool := bnd fa fun a => if a then ret true else fb
def mNot (fa : M Bool) : M Bool := bnd fa fun a => ret (!a)
def PWm (g : Gc) (X : Cx) (e : Expr) (f : M Bool) (eff : List Nat) : Prop := PW X e (TMt g f eff)
theorem PW.imp {X : Cx} {e : Expr} {t t' : TT} (h : PW X e t) (i : ∀ σ H Q, t' σ H Q → t σ H Q) : PW X e t' := ⟨fun wh pins s σ H Q I q => h.run wh pins s σ H Q I (i σ H Q q)⟩
variable {ta tb : M Bool} {rest : List Expr}
theorem tmt_seq {tb : Bool → M Bool} {R : Bool → TT} (hR : ∀ b σ H Q, TMt g (tb b) e2 σ H Q → R b σ H Q) (σ : L2.St) (H : Hp) (Q : Bool → Hp → Prop) (h : TMt g (bnd ta tb) (e1 ++ e2) σ H Q) : TMt g ta e1 σ H fun b H1 => R b σ H1 Q := by
  obtain ⟨S, Ts, A, t, Ts', R0, e, k⟩ := h
  obtain ⟨b, Ts1, ea, eb⟩ := bnd_some e
  refine ⟨S, Ts, A, b, Ts1, R0, ea, fun H1 S1 A1 R1 p1 s1 => hR b σ H1 Q ⟨S1, Ts1, A1, t, Ts', R1, eb, fun H2 S2 A2 R2 p2 s2 => k H2 S2 A2 R2 (p1.trans R0 p2) (s1.trans s2)⟩⟩
theorem tmt_ret {b : Bool} {σ : L2.St} {H : Hp} {Q : Bool → Hp → Prop} {eff : List Nat} (h : TMt g (ret b) eff σ H Q) : Q b H := by
  obtain ⟨S, Ts, A, t, Ts', R0, e, k⟩ := h
  have e : some (b, Ts) = some (t, Ts') := e
  injection e with e
  injection e with h1 h2
  subst h1; subst h2
  exact k H S A R0 Po.refl Stb.refl
theorem tmt_and1 (ha : PTm g X a ta e1) : PWm g X (.BoolOp .And [a] pos) ta e1 := pw_and1 ha
theorem tmt_or1 (ha : PTm g X a ta e1) : PWm g X (.BoolOp .Or [a] pos) ta e1 := pw_or1 ha
theorem tmt_and (ha : PTm g X a ta e1) (hb : PWm g X (.BoolOp .And (b :: rest) pos) tb e2) : PWm g X (.BoolOp .And (a :: b :: rest) pos) (mAnd ta tb) (e1 ++ e2) :=
  PW.imp (pw_and ha hb) (tmt_seq (R := fun c => fun σ H Q => if c = true then TMt g tb e2 σ H Q else Q false H) fun c σ H Q h => by
    cases c with
    | true => exact iteT h
    | false => exact iteF (tmt_ret h))
theorem tmt_or (ha : PTm g X a ta e1) (hb : PWm g X (.BoolOp .Or (b :: rest) pos) tb e2) : PWm g X (.BoolOp .Or (a :: b :: rest) pos) (mOr ta tb) (e1 ++ e2) :=
  PW.imp (pw_or ha hb) (tmt_seq (R := fun c => fun σ H Q => if c = true then Q true H else TMt g tb e2 σ H Q) fun c σ H Q h => by
    cases c with
    | true => exact iteT (tmt_ret h)
    | false => exact iteF h)
theorem tmt_w (h : PWm g X a ta e1) : PTm g X a ta e1 := PW.pt h
theorem tmt_not (ha : PTm g X a ta e1) : PTm g X (.UnaryOp .Not a pos) (mNot ta) e1 :=
  PT.imp (pt_not ha) fun σ H Q h => by
    obtain ⟨S, Ts, A, t, Ts', R0, e, k⟩ := h
    obtain ⟨b, Ts1, ea, eb⟩ := bnd_some e
    have eb : some ((!b), Ts1) = some (t, Ts') := eb
    injection eb with eb
    injection eb with h1 h2
    subst h1; subst h2
    exact ⟨S, Ts, A, b, Ts1, R0, ea, k⟩
def tru : T → Option Bool
  | .non => some false
  | .bl b => some b
  | .int i => some (i != 0)
  | .str s => if s.length ≤ sizeLine then some ((s.length : Int) != 0) else none
  | .nd .tup ts => some (!ts.isEmpty)
  | .nd (.lst _) ts => some (!ts.isEmpty)
  | .nd (.dK _ ks) _ => some (!ks.isEmpty)
  | _ => none
def mTru (fa : M T) : M Bool := bnd fa fun a => lft (tru a)
theorem isEmpty_len {α β : Type} {a : List α} {b : List β} (h : a.length = b.length) : a.isEmpty = b.isEmpty := by
  cases a <;> cases b <;> first | rfl | cases h
theorem tru_ok {S : Addr → Prop} {H : Hp} {t : T} {x : V} {Ax : List Addr} {k : Bool} (r : Rp g S H t x Ax) (e : tru t = some k) : TruV g.K x H k := by
  cases t with
  | dead => cases e
  | non => injection e with e; subst e; rw [r.1]; rfl
  | bl b => injection e with e; subst e; rw [r.1]; rfl
  | int i => injection e with e; subst e; rw [r.1]; rfl
  | str s =>
    have e : (if s.length ≤ sizeLine then some ((s.length : Int) != 0) else none) = some k := e
    split at e
    · rename_i h
      injection e with e
      rw [r.1]
      exact ⟨h, e.symm⟩
    · cases e
  | nd kk ts =>
    obtain ⟨a, xs, B, ex, at_, eA, c, rl⟩ := r
    have hl := RpL.length _ _ _ rl
    rw [ex]
    cases kk with
    | tup =>
      have e : some (!ts.isEmpty) = some k := e
      injection e with e
      exact .inr (.inl ⟨xs, At.sqT at_, by rw [← e, isEmpty_len hl]⟩)
    | lst o =>
      have e : some (!ts.isEmpty) = some k := e
      injection e with e
      exact .inl ⟨xs, at_.sqL, by rw [← e, isEmpty_len hl]⟩
    | dK o ks =>
      have e : some (!ks.isEmpty) = some k := e
      injection e with e
      refine .inr (.inr ⟨_, at_.1, ?_⟩)
      rw [← e]
      congr 1
      exact isEmpty_len (by rw [List.length_zip, ← at_.2.1, Nat.min_self])
    | dT o ks => cases e
    | ins o c fs => cases e
    | scr => cases e
theorem tmt_tru (hK : g.K = X.K) (ha : PEm g X a fa e1 b1) (he : ∀ whole, isTrue a X.env whole = (do let v ← whole; standAt a.pos; holding [v] (truthy v)) := by intro _; rfl) : PTm g X a (mTru fa) e1 :=
  PT.imp (pt_truth ha he) fun σ H Q h => by
    obtain ⟨S, Ts, A, t, Ts', R0, e, k⟩ := h
    obtain ⟨ta, Ts1, ea, eb⟩ := bnd_some e
    obtain ⟨ek, rfl⟩ := lft_some eb
    exact ⟨S, Ts, A, ta, Ts', R0, ea, fun x H' S' A' Ax R' rx o p s => ⟨t, hK ▸ tru_ok rx ek, k H' S' A' R' p s⟩⟩
def mIf (c : M Bool) (fa fb : M T) : M T := bnd c fun b => if b then fa else fb
theorem tm_if {fc : M Bool} (hc : PTm g X c fc e1) (ha : PEm g X a fa e2 b2) (hb : PEm g X b fb e3 b3) : PEm g X (.IfExp c a b pos) (mIf fc fa fb) (e1 ++ (e2 ++ e3)) (b2 ++ b3) :=
  PE.imp (pe_ifExp hc ha hb) fun σ H Q h => by
    obtain ⟨S, Ts, A, t, Ts', R0, e, k⟩ := h
    obtain ⟨b, Ts1, ea, eb⟩ := bnd_some e
    refine ⟨S, Ts, A, b, Ts1, R0, ea, fun H1 S1 A1 R1 p1 s1 => ?_⟩
    have go : ∀ (f : M T) (ef bf : List Nat), (∀ j ∈ ef, j ∈ e2 ++ e3) → (∀ j ∈ bf, j ∈ b2 ++ b3) → (b2 ++ b3 = [] → bf = []) → f Ts1 = some (t, Ts') → TM g f ef bf σ H1 Q := fun f ef bf hef hbf hn eq =>
      ⟨S1, Ts1, A1, t, Ts', R1, eq, fun x H2 S2 A2 Ax R2 rx o p s => k x H2 S2 A2 Ax R2 rx ((o.rebase p1).mono hbf hn) (p1.trans R0 p) ((s1.trans s).mono fun j hj => (List.mem_append.mp hj).elim (List.mem_append_left _) fun z => List.mem_append_right _ (hef j z))⟩
    cases b with
    | true => exact iteT (go fa e2 b2 (fun j => List.mem_append_left _) (fun j => List.mem_append_left _) (fun z => (List.append_eq_nil_iff.mp z).1) eb)
    | false => exact iteF (go fb e3 b3 (fun j => List.mem_append_right _) (fun j => List.mem_append_right _) (fun z => (List.append_eq_nil_iff.mp z).2) eb)
end
end MI
namespace MI
open PySem L2
inductive Fl where
  | nx | rt (t : T) | bk | ct
def FlE (g : Gc) (D : Ends) (H : Hp) (A : Nat → List Addr) (fl : Fl) (σ' : L2.St) (H' : Hp) (S' : Addr → Prop) (A' : Nat → List Addr) : Prop := match fl with
  | .nx => D.nx σ' H'
  | .bk => D.bk σ' H'
  | .ct => D.ct σ' H'
  | .rt t => ∀ x Ax, Rp g S' H' t x Ax → Ow [] H A S' A' Ax → D.rt x H'
def TSm (g : Gc) (f : M Fl) (asg eff : List Nat) : TS := fun D σ H => ∃ S Ts A fl Ts', SR g S H σ Ts A ∧ f Ts = some (fl, Ts') ∧
  ∀ σ' H' S' A', (∀ i, i ∉ asg → σ'[i]? = σ[i]?) → SR g S' H' σ' Ts' A' → Po S H A S' H' A' → Stb eff H Ts A H' Ts' A' → FlE g D H A fl σ' H' S' A'
def PSm (g : Gc) (X : Cx) (st : Stmt) (f : M Fl) (asg eff : List Nat) : Prop := PS X st (TSm g f asg eff)
def PSsm (g : Gc) (X : Cx) (st : List Stmt) (f : M Fl) (asg eff : List Nat) : Prop := PSs X st (TSm g f asg eff)
def mSeq (f1 f2 : M Fl) : M Fl := bnd f1 fun fl => match fl with
  | .nx => f2
  | o => ret o
section
variable {g : Gc} {X : Cx} {st : Stmt} {rest : List Stmt} {f1 f2 : M Fl} {a1 a2 e1 e2 e3 b1 b2 : List Nat} {pos : Pos} {fa fb : M T} {e : Expr}
theorem FlE.rebase {D : Ends} {S S1 : Addr → Prop} {H H1 : Hp} {A A1 : Nat → List Addr} {fl : Fl} {σ' : L2.St} {H' : Hp} {S' : Addr → Prop} {A' : Nat → List Addr} (p : Po S H A S1 H1 A1) (h : FlE g D H A fl σ' H' S' A') : FlE g D H1 A1 fl σ' H' S' A' := by
  cases fl with
  | rt t => exact fun x Ax r o => h x Ax r (o.rebase p)
  | nx => exact h
  | bk => exact h
  | ct => exact h
theorem ts_seq (D : Ends) (σ : L2.St) (H : Hp) (h : TSm g (mSeq f1 f2) (a1 ++ a2) (e1 ++ e2) D σ H) : tSeq (TSm g f1 a1 e1) (TSm g f2 a2 e2) D σ H := by
  obtain ⟨S, Ts, A, fl, Ts', R, e, k⟩ := h
  obtain ⟨fl1, Ts1, q1, q2⟩ := bnd_some e
  refine ⟨S, Ts, A, fl1, Ts1, R, q1, fun σ1 H1 S1 A1 hσ R1 p1 s1 => ?_⟩
  have same : ∀ o : Fl, fl1 = o → o ≠ .nx → FlE g D H A o σ1 H1 S1 A1 := fun o eo hn => by
    subst eo
    have q3 : some (fl1, Ts1) = some (fl, Ts') := by cases fl1 <;> first | exact absurd rfl hn | exact q2
    injection q3 with q3
    injection q3 with h1 h2
    subst h1; subst h2
    exact k σ1 H1 S1 A1 (fun i hi => hσ i fun z => hi (List.mem_append_left _ z)) R1 p1 (s1.mono fun j hj => List.mem_append_left _ hj)
  cases fl1 with
  | nx =>
    refine ⟨S1, Ts1, A1, fl, Ts', R1, q2, fun σ2 H2 S2 A2 hσ2 R2 p2 s2 => ?_⟩
    exact (k σ2 H2 S2 A2 (fun i hi => (hσ2 i fun z => hi (List.mem_append_right _ z)).trans (hσ i fun z => hi (List.mem_append_left _ z))) R2 (p1.trans R p2) (s1.trans s2)).rebase p1
  | rt t => exact same _ rfl (fun z => nomatch z)
  | bk => exact same _ rfl (fun z => nomatch z)
  | ct => exact same _ rfl (fun z => nomatch z)
theorem tss_cons (h1 : PSm g X st f1 a1 e1) (h2 : PSsm g X rest f2 a2 e2) : PSsm g X (st :: rest) (mSeq f1 f2) (a1 ++ a2) (e1 ++ e2) := PSs.imp (pss_cons h1 h2) ts_seq
theorem tss_one (h1 : PSm g X st f1 a1 e1) : PSsm g X [st] f1 a1 e1 := pss_one h1
theorem tss_nil : PSsm g X [] (ret .nx) [] [] := PSs.imp pss_nil fun D σ H ⟨S, Ts, A, fl, Ts', R, e, k⟩ => by
  have e : some (Fl.nx, Ts) = some (fl, Ts') := e
  injection e with e
  injection e with h1 h2
  subst h1; subst h2
  exact k σ H S A (fun _ _ => rfl) R Po.refl Stb.refl
theorem ts_never : PSm g X st (fun _ => none) [] [] := PS.imp ps_never fun D σ H ⟨S, Ts, A, fl, Ts', R, e, k⟩ => nomatch e
def mRet (fa : M T) : M Fl := bnd fa fun t => ret (.rt t)
theorem ts_ret (he : PEm g X e fa e1 []) : PSm g X (.Return (some e) pos) (mRet fa) [] e1 := PS.imp (ps_ret he) fun D σ H ⟨S, Ts, A, fl, Ts', R, q, k⟩ => by
  obtain ⟨t, Ts1, q1, q2⟩ := bnd_some q
  have q3 : some (Fl.rt t, Ts1) = some (fl, Ts') := q2
  injection q3 with q3
  injection q3 with h1 h2
  subst h1; subst h2
  exact ⟨S, Ts, A, t, Ts1, R, q1, fun x H' S' A' Ax R' rx o p s => k σ H' S' A' (fun _ _ => rfl) R' p s x Ax rx o⟩
def mDrop (fa : M T) : M Fl := bnd fa fun _ => ret .nx
theorem ts_expr (he : PEm g X e fa e1 b1) (hs : swapsWith e none pos.line X.env = pure false := by rfl) : PSm g X (.Expr e pos) (mDrop fa) [] e1 := PS.imp (ps_expr he hs) fun D σ H ⟨S, Ts, A, fl, Ts', R, q, k⟩ => by
  obtain ⟨t, Ts1, q1, q2⟩ := bnd_some q
  have q3 : some (Fl.nx, Ts1) = some (fl, Ts') := q2
  injection q3 with q3
  injection q3 with h1 h2
  subst h1; subst h2
  exact ⟨S, Ts, A, t, Ts1, R, q1, fun x H' S' A' Ax R' rx o p s => k σ H' S' A' (fun _ _ => rfl) R' p s⟩
def mIfS (c : M Bool) (f1 f2 : M Fl) : M Fl := bnd c fun b => if b then f1 else f2
theorem ts_if {c : Expr} {fc : M Bool} {s1 s2 : List Stmt} (hc : PTm g X c fc e1) (h1 : PSsm g X s1 f1 a1 e2) (h2 : PSsm g X s2 f2 a2 e3) : PSm g X (.If c s1 s2 pos) (mIfS fc f1 f2) (a1 ++ a2) (e1 ++ (e2 ++ e3)) :=
  PS.imp (ps_if hc h1 h2) fun D σ H ⟨S, Ts, A, fl, Ts', R, q, k⟩ => by
    obtain ⟨b, Ts1, q1, q2⟩ := bnd_some q
    refine ⟨S, Ts, A, b, Ts1, R, q1, fun H1 S1 A1 R1 p1 s1 => ?_⟩
    have go : ∀ (f : M Fl) (ag ef : List Nat), (∀ j ∈ ef, j ∈ e2 ++ e3) → (∀ j ∈ ag, j ∈ a1 ++ a2) → f Ts1 = some (fl, Ts') → TSm g f ag ef D σ H1 := fun f ag ef hef hag eq =>
      ⟨S1, Ts1, A1, fl, Ts', R1, eq, fun σ2 H2 S2 A2 hσ R2 p s => (k σ2 H2 S2 A2 (fun i hi => hσ i fun z => hi (hag i z)) R2 (p1.trans R p) ((s1.trans s).mono fun j hj => (List.mem_append.mp hj).elim (List.mem_append_left _) fun z => List.mem_append_right _ (hef j z))).rebase p1⟩
    cases b with
    | true => exact iteT (go f1 a1 e2 (fun j => List.mem_append_left _) (fun j => List.mem_append_left _) q2)
    | false => exact iteF (go f2 a2 e3 (fun j => List.mem_append_right _) (fun j => List.mem_append_right _) q2)
def TGm (g : Gc) (m : T → M Unit) (asg : List Nat) : TG := fun v σ H Q => ∃ S Ts A t Av Ts', SR g S H σ Ts A ∧ Rp g S H t v Av ∧ Av.Nodup ∧ (∀ a ∈ Av, ¬ S a ∧ ∀ i, a ∉ A i) ∧ m t Ts = some ((), Ts') ∧
  ∀ σ' A', (σ'.length = σ.length ∧ ∀ i, i ∉ asg → σ'[i]? = σ[i]?) → SR g S H σ' Ts' A' → (∀ i, ∀ a ∈ A' i, (∃ j, a ∈ A j) ∨ a ∈ Av) → (∀ j, j ∉ asg → slot Ts' j = slot Ts j ∧ A' j = A j) → Q σ' H
def TGsm (g : Gc) (m : List T → M Unit) (asg : List Nat) : TGs := fun vs σ H Q => ∃ S Ts A ts Av Ts', SR g S H σ Ts A ∧ RpL g S H ts vs Av ∧ Av.Nodup ∧ (∀ a ∈ Av, ¬ S a ∧ ∀ i, a ∉ A i) ∧ m ts Ts = some ((), Ts') ∧
  ∀ σ' A', (σ'.length = σ.length ∧ ∀ i, i ∉ asg → σ'[i]? = σ[i]?) → SR g S H σ' Ts' A' → (∀ i, ∀ a ∈ A' i, (∃ j, a ∈ A j) ∨ a ∈ Av) → (∀ j, j ∉ asg → slot Ts' j = slot Ts j ∧ A' j = A j) → Q σ' H
def PGm (g : Gc) (X : Cx) (tg : Expr) (m : T → M Unit) (asg : List Nat) : Prop := PG X tg (TGm g m asg)
def PGsm (g : Gc) (X : Cx) (tg : List Expr) (m : List T → M Unit) (asg : List Nat) : Prop := PGs X tg (TGsm g m asg)
theorem PG.imp {X : Cx} {tg : Expr} {t t' : TG} (h : PG X tg t) (i : ∀ v σ H Q, t' v σ H Q → t v σ H Q) : PG X tg t' := ⟨fun pins s σ H v u Q I r q => h.run pins s σ H v u Q I r (i v σ H Q q)⟩
theorem PGs.imp {X : Cx} {tg : List Expr} {t t' : TGs} (h : PGs X tg t) (i : ∀ v σ H Q, t' v σ H Q → t v σ H Q) : PGs X tg t' := ⟨fun pins s σ H v u Q I r q => h.run pins s σ H v u Q I r (i v σ H Q q)⟩
def mPut (i : Nat) (t : T) : M Unit := fun Ts => if i < Ts.length then some ((), Ts.set i t) else none
theorem SR.put {S : Addr → Prop} {H : Hp} {σ : L2.St} {Ts : List T} {A : Nat → List Addr} {i : Nat} {t : T} {v : V} {Av : List Addr} (R : SR g S H σ Ts A) (hi : i < Ts.length) (r : Rp g S H t v Av) (nd : Av.Nodup) (dj : ∀ a ∈ Av, ¬ S a ∧ ∀ i, a ∉ A i) :
    SR g S H (σ.set i (some v)) (Ts.set i t) (fun j => if j = i then Av else A j) where
  rep := fun j => by
    by_cases hj : j = i
    · subst hj
      rw [if_pos rfl]
      refine .inr ⟨v, ?_, ?_⟩
      · rw [List.getD_eq_getElem?_getD, List.getElem?_set_self (by rw [← R.len]; exact hi)]; rfl
      · unfold slot
        rw [List.getD_eq_getElem?_getD, List.getElem?_set_self hi]
        exact r
    · rw [if_neg hj]
      have h := R.rep j
      unfold slot at h ⊢
      rw [List.getD_eq_getElem?_getD, List.getD_eq_getElem?_getD] at h ⊢
      rw [List.getElem?_set_ne (Ne.symm hj), List.getElem?_set_ne (Ne.symm hj)]
      exact h
  nd := fun j => by
    split
    · exact nd
    · exact R.nd j
  dj := fun j k hjk a ha => by
    split at ha
    · rename_i h1
      split
      · rename_i h2
        exact absurd (h1.trans h2.symm) hjk
      · exact (dj a ha).2 k
    · split
      · exact fun z => (dj a z).2 j ha
      · exact R.dj j k hjk a ha
  ns := fun j a ha => by
    split at ha
    · exact (dj a ha).1
    · exact R.ns j a ha
  len := by rw [List.length_set, List.length_set]; exact R.len
  st := R.st
theorem slot_set_ne {Ts : List T} {i j : Nat} {t : T} (h : j ≠ i) : slot (Ts.set i t) j = slot Ts j := by
  unfold slot
  rw [List.getD_eq_getElem?_getD, List.getD_eq_getElem?_getD, List.getElem?_set_ne (Ne.symm h)]
theorem slot_set_eq {Ts : List T} {i : Nat} {t : T} (h : i < Ts.length) : slot (Ts.set i t) i = t := by
  unfold slot
  rw [List.getD_eq_getElem?_getD, List.getElem?_set_self h]; rfl
theorem tg_name {i : Nat} {tg : Expr} (h : PG X tg (gName i)) : PGm g X tg (mPut i) [i] := PG.imp h fun v σ H Q ⟨S, Ts, A, t, Av, Ts', R, r, nd, dj, q, k⟩ => by
  unfold mPut at q
  split at q
  · rename_i hi
    injection q with q
    injection q with _ q
    subst q
    refine k _ _ ⟨List.length_set .., fun j hj => ?_⟩ (R.put hi r nd dj) (fun j a ha => ?_) fun j hj => ?_
    · rw [List.getElem?_set_ne]
      exact fun z => hj (by rw [z]; exact List.mem_singleton.mpr rfl)
    · split at ha
      · exact .inr ha
      · exact .inl ⟨j, ha⟩
    · have hj : j ≠ i := fun z => hj (by rw [z]; exact List.mem_singleton.mpr rfl)
      exact ⟨slot_set_ne hj, if_neg hj⟩
  · cases q
def mGnil (ts : List T) : M Unit := match ts with
  | [] => ret ()
  | _ => fun _ => none
def mGcons (m : T → M Unit) (ms : List T → M Unit) (ts : List T) : M Unit := match ts with
  | t :: ts => bnd (m t) fun _ => ms ts
  | [] => fun _ => none
theorem tgs_nil : PGsm g X [] mGnil [] := PGs.imp pgs_nil fun v σ H Q ⟨S, Ts, A, ts, Av, Ts', R, r, nd, dj, q, k⟩ => by
  cases ts with
  | nil =>
    have q : some ((), Ts) = some ((), Ts') := q
    injection q with q
    injection q with _ q
    subst q
    exact ⟨r.1, k σ A ⟨rfl, fun _ _ => rfl⟩ R (fun i a h => .inl ⟨i, h⟩) fun j _ => ⟨rfl, rfl⟩⟩
  | cons t ts => cases q
theorem tgs_cons {tg : Expr} {tgs : List Expr} {m : T → M Unit} {ms : List T → M Unit} (h1 : PGm g X tg m a1) (h2 : PGsm g X tgs ms a2) (hs : (assignEach (tg :: tgs) X.env).map (·.2) = assign tg X.env :: (assignEach tgs X.env).map (·.2) := by rfl) : PGsm g X (tg :: tgs) (mGcons m ms) (a1 ++ a2) :=
  PGs.imp (pgs_cons h1 h2 hs) fun vs σ H Q ⟨S, Ts, A, ts, Av, Ts', R, r, nd, dj, q, k⟩ => by
    cases ts with
    | nil => cases q
    | cons t ts =>
      obtain ⟨_, Ts1, q1, q2⟩ := bnd_some q
      obtain ⟨y, ys, A1, A2, e1, e2, r1, r2⟩ := r
      subst e2
      obtain ⟨nd1, nd2, nd3⟩ := List.nodup_append.mp nd
      refine ⟨y, ys, e1, S, Ts, A, t, A1, Ts1, R, r1, nd1, fun a ha => dj a (List.mem_append_left _ ha), q1, fun σ1 B1 hσ1 R1 n1 s1 => ?_⟩
      refine ⟨S, Ts1, B1, ts, A2, Ts', R1, r2, nd2, fun a ha => ⟨(dj a (List.mem_append_right _ ha)).1, fun i hi => ?_⟩, q2, fun σ2 B2 hσ2 R2 n2 s2 => ?_⟩
      · rcases n1 i a hi with ⟨j, hj⟩ | h
        · exact (dj a (List.mem_append_right _ ha)).2 j hj
        · exact nd3 a h a ha rfl
      · refine k σ2 B2 ⟨hσ2.1.trans hσ1.1, fun i hi => (hσ2.2 i fun z => hi (List.mem_append_right _ z)).trans (hσ1.2 i fun z => hi (List.mem_append_left _ z))⟩ R2 (fun i a ha => ?_) fun j hj => ?_
        · rcases n2 i a ha with ⟨j, hj⟩ | h
          · rcases n1 j a hj with h | h
            · exact .inl h
            · exact .inr (List.mem_append_left _ h)
          · exact .inr (List.mem_append_right _ h)
        · obtain ⟨x1, x2⟩ := s1 j fun z => hj (List.mem_append_left _ z)
          obtain ⟨y1, y2⟩ := s2 j fun z => hj (List.mem_append_right _ z)
          exact ⟨y1.trans x1, y2.trans x2⟩
def mUnT (n : Nat) (ms : List T → M Unit) (t : T) : M Unit := match t with
  | .nd .tup ts => if ts.length = n then ms ts else fun _ => none
  | _ => fun _ => none
def mUnL (n : Nat) (ms : List T → M Unit) (t : T) : M Unit := match t with
  | .nd (.lst _) ts => if ts.length = n then ms ts else fun _ => none
  | _ => fun _ => none
theorem tg_tup {tgs : List Expr} {ms : List T → M Unit} {n k : Nat} (hK : g.K = X.K) (hc : X.calm = true) (h : PGsm g X tgs ms a1) (hn : (assignEach tgs X.env).length = n := by rfl) (hst : (assignEach tgs X.env).findIdx? (·.1) = none := by rfl) : PGm g X (.Tuple tgs k pos) (mUnT n ms) a1 :=
  PG.imp (pg_tup hc h hn hst) fun v σ H Q ⟨S, Ts, A, t, Av, Ts', R, r, nd, dj, q, k⟩ => by
    unfold mUnT at q
    split at q
    · split at q
      · rename_i hl
        obtain ⟨a, xs, B, e, at_, eA, c, rl⟩ := r
        have eA : Av = B := eA
        subst eA
        exact ⟨a, xs, e, hK ▸ At.sqT at_, by rw [← hl, RpL.length _ _ _ rl], S, Ts, A, _, Av, Ts', R, rl, nd, dj, q, k⟩
      · cases q
    · cases q
theorem tg_unl {tgs : List Expr} {ms : List T → M Unit} {n k : Nat} (hK : g.K = X.K) (hc : X.calm = true) (h : PGsm g X tgs ms a1) (hn : (assignEach tgs X.env).length = n := by rfl) (hst : (assignEach tgs X.env).findIdx? (·.1) = none := by rfl) : PGm g X (.Tuple tgs k pos) (mUnL n ms) a1 :=
  PG.imp (pg_unl hc h hn hst) fun v σ H Q ⟨S, Ts, A, t, Av, Ts', R, r, nd, dj, q, k⟩ => by
    unfold mUnL at q
    split at q
    · rename_i o ts
      split at q
      · rename_i hl
        obtain ⟨a, xs, B, e, at_, eA, c, rl⟩ := r
        have sq : SqL X.K H a xs := hK ▸ at_.sqL
        have sub : B.Sublist Av := by
          rw [eA]
          split
          · exact List.sublist_cons_self _ _
          · exact List.Sublist.refl _
        refine ⟨a, xs, e, sq, by rw [← hl, RpL.length _ _ _ rl], S, Ts, A, _, B, Ts', R, rl, nd.sublist sub, fun b hb => dj b (sub.subset hb), q, fun σ' A' h1 h2 h3 h4 => k σ' A' h1 h2 (fun i b hb => ?_) h4⟩
        rcases h3 i b hb with h | h
        · exact .inl h
        · exact .inr (sub.subset h)
      · cases q
    · cases q
def mAsg (fa : M T) (m : T → M Unit) : M Fl := bnd fa fun t => bnd (m t) fun _ => ret .nx
theorem asg_r {m : T → M Unit} (D : Ends) (σ : L2.St) (H : Hp) (h : TSm g (mAsg fa m) a1 (e1 ++ a1) D σ H) : tAsg (TM g fa e1 []) (TGm g m a1) D σ H := by
  obtain ⟨S, Ts, A, fl, Ts', R, q, k⟩ := h
  obtain ⟨t, Ts1, q1, q2⟩ := bnd_some q
  obtain ⟨_, Ts2, q3, q4⟩ := bnd_some q2
  have q5 : some (Fl.nx, Ts2) = some (fl, Ts') := q4
  injection q5 with q5
  injection q5 with h1 h2
  subst h1; subst h2
  refine ⟨S, Ts, A, t, Ts1, R, q1, fun x H1 S1 A1 Ax R1 rx o p s => ⟨S1, Ts1, A1, t, Ax, Ts2, R1, rx, o.nd rfl, fun a ha => ⟨o.ns a ha, fun i => o.dj i (fun z => nomatch z) a ha⟩, q3, fun σ' A' hσ R' n s' => ?_⟩⟩
  refine k σ' H1 S1 A' hσ.2 R' ⟨p.keep, p.sub, p.snew, fun i a ha => ?_⟩ fun j hj => ?_
  · rcases n i a ha with ⟨j, hj⟩ | h
    · exact p.anew j a hj
    · exact o.new a h
  · obtain ⟨x1, x2, x3⟩ := s j fun z => hj (List.mem_append_left _ z)
    obtain ⟨y1, y2⟩ := s' j fun z => hj (List.mem_append_right _ z)
    exact ⟨y1.trans x1, y2.trans x2, x3⟩
theorem ts_asg {tg : Expr} {m : T → M Unit} (he : PEm g X e fa e1 []) (hg : PGm g X tg m a1) (hs : swapsWithSole [tg] e pos.line X.env = pure false := by rfl) (hw : swappedStores [tg] e X.env = pure none := by rfl)
    (h1 : (assignEach [tg] X.env).map (·.2) = [assign tg X.env] := by rfl) : PSm g X (.Assign [tg] e pos) (mAsg fa m) a1 (e1 ++ a1) := PS.imp (ps_asg he hg hs hw h1) asg_r
def mSet (i : Nat) (fa : M T) : M Fl := mAsg fa (mPut i)
theorem tgm_name {i : Nat} (v : V) (σ : L2.St) (H : Hp) (Q : L2.St → Hp → Prop) (h : TGm g (mPut i) [i] v σ H Q) : gName i v σ H Q := by
  obtain ⟨S, Ts, A, t, Av, Ts', R, r, nd, dj, q, k⟩ := h
  unfold mPut at q
  split at q
  · rename_i hi
    injection q with q
    injection q with _ q
    subst q
    refine k _ _ ⟨List.length_set .., fun j hj => ?_⟩ (R.put hi r nd dj) (fun j a ha => ?_) fun j hj => ?_
    · rw [List.getElem?_set_ne]
      exact fun z => hj (by rw [z]; exact List.mem_singleton.mpr rfl)
    · split at ha
      · exact .inr ha
      · exact .inl ⟨j, ha⟩
    · have hj : j ≠ i := fun z => hj (by rw [z]; exact List.mem_singleton.mpr rfl)
      exact ⟨slot_set_ne hj, if_neg hj⟩
  · cases q
theorem TM.mono {bo : List Nat} {σ : L2.St} {H : Hp} {Q Q' : VK} (h : TM g fa e1 bo σ H Q) (k : ∀ x H', Q x H' → Q' x H') : TM g fa e1 bo σ H Q' := by
  obtain ⟨S, Ts, A, t, Ts', R, e, w⟩ := h
  exact ⟨S, Ts, A, t, Ts', R, e, fun x H' S' A' Ax a b c d f => k x H' (w x H' S' A' Ax a b c d f)⟩
theorem ts_set {i : Nat} {st : Stmt} (h : PS X st (tAsg (TM g fa e1 []) (gName i))) : PSm g X st (mSet i fa) [i] (e1 ++ [i]) := PS.imp h fun D σ H q => (asg_r (m := mPut i) D σ H q).mono fun x H' z => tgm_name x σ H' _ z
def mPar (i j : Nat) (fs : M (List T)) : M Fl := bnd fs fun ts => bnd (mGcons (mPut i) (mGcons (mPut j) mGnil) ts) fun _ => ret .nx
end
end MI
namespace MI
open PySem PySem.Spec PyProof.Rows L2
structure PoF (S : Addr → Prop) (H : Hp) (A : List Addr) (S' : Addr → Prop) (H' : Hp) (B : List Addr) : Prop where
  keep : ∀ a o, H a = some o → a ∉ A → fixO H' a o
  sub : ∀ a, S a → S' a
  snew : ∀ a, S' a → S a ∨ a ∈ A ∨ noT (H a) = none
  anew : ∀ a ∈ B, a ∈ A ∨ noT (H a) = none
abbrev Cal := List T → Option (T × List T)
def spT (g : Gc) (io : List Nat) (c : Cal) : Sp := fun vs H Q _ => ∃ (S : Addr → Prop) (ts : List T) (A : List Addr) (r : T) (outs : List T),
  RpL g S H ts vs A ∧ A.Nodup ∧ (∀ a ∈ A, ¬ S a) ∧ StT g S H ∧ c ts = some (r, outs) ∧
  ∀ x H' S' Ar Ao, Rp g S' H' r x Ar → RpL g S' H' outs (io.map fun i => vs.getD i .non) Ao → (Ao ++ Ar).Nodup → (∀ a ∈ Ao ++ Ar, ¬ S' a) → StT g S' H' → PoF S H A S' H' (Ao ++ Ar) → Q x H'
def runB (np n : Nat) (io : List Nat) (f : M Fl) : Cal := fun ts => if ts.length = np then (match f (ts ++ List.replicate (n - np) .dead) with
  | some (.rt r, Ts') => some (r, io.map (slot Ts'))
  | some (.nx, Ts') => some (.non, io.map (slot Ts'))
  | _ => none) else none
section
variable {g : Gc} {S S1 S2 : Addr → Prop} {H H1 H2 : Hp} {σ : L2.St}
theorem RpL.slots : ∀ (ts : List T) (vs : List V) (A : List Addr), RpL g S H ts vs A → A.Nodup → ∃ A0 : Nat → List Addr, (∀ i, (slot ts i = .dead ∧ A0 i = []) ∨ ∃ x, vs[i]? = some x ∧ Rp g S H (slot ts i) x (A0 i)) ∧ (∀ i, (A0 i).Nodup) ∧ (∀ i j, i ≠ j → ∀ a ∈ A0 i, a ∉ A0 j) ∧ (∀ i, ∀ a ∈ A0 i, a ∈ A)
  | [], _, _, _, _ => ⟨fun _ => [], fun i => .inl ⟨by unfold slot; simp, rfl⟩, fun _ => List.nodup_nil, (fun _ _ _ _ h => nomatch h), fun _ _ h => nomatch h⟩
  | t :: ts, vs, A, h, nd => by
    obtain ⟨y, ys, A1, A2, e1, e2, r1, r2⟩ := h
    subst e2
    obtain ⟨nd1, nd2, nd3⟩ := List.nodup_append.mp nd
    obtain ⟨A0, h1, h2, h3, h4⟩ := RpL.slots ts ys A2 r2 nd2
    refine ⟨fun i => match i with | 0 => A1 | i + 1 => A0 i, fun i => ?_, fun i => ?_, fun i j hij a ha => ?_, fun i a ha => ?_⟩
    · cases i with
      | zero => exact .inr ⟨y, by rw [e1]; rfl, r1⟩
      | succ i =>
        rcases h1 i with ⟨q1, q2⟩ | ⟨x, q1, q2⟩
        · exact .inl ⟨q1, q2⟩
        · exact .inr ⟨x, by rw [e1]; simpa using q1, q2⟩
    · cases i with
      | zero => exact nd1
      | succ i => exact h2 i
    · cases i with
      | zero =>
        cases j with
        | zero => exact absurd rfl hij
        | succ j => exact fun z => nd3 a ha a (h4 j a z) rfl
      | succ i =>
        cases j with
        | zero => exact fun z => nd3 a z a (h4 i a ha) rfl
        | succ j => exact h3 i j (fun z => hij (by rw [z])) a ha
    · cases i with
      | zero => exact List.mem_append_left _ ha
      | succ i => exact List.mem_append_right _ (h4 i a ha)
theorem slot_app {ts : List T} {n i : Nat} : slot (ts ++ List.replicate n .dead) i = slot ts i := by
  unfold slot
  rw [List.getD_eq_getElem?_getD, List.getD_eq_getElem?_getD, List.getElem?_append]
  split
  · rfl
  · rename_i h
    rw [List.getElem?_replicate]
    have e : ts[i]? = none := List.getElem?_eq_none_iff.mpr (by omega)
    rw [e]
    split <;> rfl
theorem SR.start {N : List Str} {ts : List T} {vs : List V} {A : List Addr} (r : RpL g S H ts vs A) (nd : A.Nodup) (ns : ∀ a ∈ A, ¬ S a) (st : StT g S H) :
    ∃ A0, SR g S H (start N vs) (ts ++ List.replicate (N.length - ts.length) .dead) A0 ∧ ∀ i, ∀ a ∈ A0 i, a ∈ A := by
  obtain ⟨A0, h1, h2, h3, h4⟩ := RpL.slots ts vs A r nd
  have hl := RpL.length _ _ _ r
  refine ⟨A0, ⟨fun i => ?_, h2, h3, fun i a ha => ns a (h4 i a ha), ?_, st⟩, h4⟩
  · rw [slot_app]
    rcases h1 i with h | ⟨x, q1, q2⟩
    · exact .inl h
    · refine .inr ⟨x, ?_, q2⟩
      unfold L2.start
      have hi : i < vs.length := (List.getElem?_eq_some_iff.mp q1).1
      rw [List.getD_eq_getElem?_getD, List.getElem?_append_left (by simpa using hi), List.getElem?_map, q1]; rfl
  · unfold L2.start
    rw [List.length_append, List.length_append, List.length_map, List.length_replicate, List.length_replicate, hl]
theorem RpL.outs {Ts' : List T} {A' : Nat → List Addr} {σ' : L2.St} (R : SR g S H σ' Ts' A') : ∀ (io : List Nat) (vs : List V), io.Nodup → (∀ i ∈ io, σ'[i]? = some (some (vs.getD i .non))) →
    ∃ Ao, RpL g S H (io.map (slot Ts')) (io.map fun i => vs.getD i .non) Ao ∧ Ao.Nodup ∧ (∀ a ∈ Ao, ∃ i ∈ io, a ∈ A' i)
  | [], _, _, _ => ⟨[], ⟨rfl, rfl⟩, List.nodup_nil, fun _ h => nomatch h⟩
  | i :: io, vs, nd, h => by
    obtain ⟨n1, n2⟩ := List.nodup_cons.mp nd
    obtain ⟨Ao, r, nd', hm⟩ := RpL.outs R io vs n2 fun j hj => h j (List.mem_cons_of_mem _ hj)
    have hi := h i List.mem_cons_self
    have r1 : Rp g S H (slot Ts' i) (vs.getD i .non) (A' i) := by
      rcases R.rep i with ⟨e1, e2⟩ | ⟨x, e1, e2⟩
      · rw [e1, e2]; exact rfl
      · rw [List.getD_eq_getElem?_getD, hi] at e1
        have e1 : some (vs.getD i .non) = some x := e1
        injection e1 with e1
        rw [e1]; exact e2
    refine ⟨A' i ++ Ao, ⟨_, _, A' i, Ao, rfl, rfl, r1, r⟩, List.nodup_append.mpr ⟨R.nd i, nd', fun a ha b hb e => ?_⟩, fun a ha => ?_⟩
    · subst e
      obtain ⟨j, hj, hA⟩ := hm a hb
      exact R.dj i j (by rintro rfl; exact n1 hj) a ha hA
    · rcases List.mem_append.mp ha with h | h
      · exact ⟨i, List.mem_cons_self, h⟩
      · obtain ⟨j, hj, hA⟩ := hm a h
        exact ⟨j, List.mem_cons_of_mem _ hj, hA⟩
end
def RpC (g : Gc) (S : Addr → Prop) (H : Hp) (σ : L2.St) : List (Option Nat) → List T → List V → List Addr → List Addr → Prop
  | [], ts, xs, Al, Ab => ts = [] ∧ xs = [] ∧ Al = [] ∧ Ab = []
  | none :: ln, ts, xs, Al, Ab => ∃ t ts' x xs' B Ab', ts = t :: ts' ∧ xs = x :: xs' ∧ Ab = B ++ Ab' ∧ Rp g S H t x B ∧ RpC g S H σ ln ts' xs' Al Ab'
  | some s :: ln, ts, xs, Al, Ab => ∃ t ts' x xs' B Al', ts = t :: ts' ∧ xs = x :: xs' ∧ Al = B ++ Al' ∧ Rp g S H t x B ∧ σ[s]? = some (some x) ∧ RpC g S H σ ln ts' xs' Al' Ab
def TMc (g : Gc) (f : M (List T)) (eff bo : List Nat) (ln : List (Option Nat)) : TA := fun σ H Q => ∃ S Ts A ts Ts', SR g S H σ Ts A ∧ f Ts = some (ts, Ts') ∧
  ∀ xs H' S' A' Al Ab, SR g S' H' σ Ts' A' → RpC g S' H' σ ln ts xs Al Ab → Ow [] H A S' A' Al → Ow bo H A S' A' Ab → (∀ a ∈ Al, a ∉ Ab) → Po S H A S' H' A' → Stb eff H Ts A H' Ts' A' → Q xs H'
def PAc (g : Gc) (X : Cx) (es : List Expr) (f : M (List T)) (eff bo : List Nat) (ln : List (Option Nat)) : Prop := PA X es (TMc g f eff bo ln)
def mLn (s : Nat) : M T := fun Ts => match slot Ts s with
  | .dead => none
  | t => some (t, Ts.set s .dead)
def lentIx : Nat → List (Option Nat) → List Nat
  | _, [] => []
  | n, none :: ln => lentIx (n + 1) ln
  | n, some _ :: ln => n :: lentIx (n + 1) ln
def fzA : List (Option Nat) → List T → List T
  | none :: ln, t :: ts => t.fz :: fzA ln ts
  | some _ :: ln, t :: ts => t :: fzA ln ts
  | _, _ => []
def putO : List (Option Nat) → List T → M Unit
  | [], _ => ret ()
  | none :: ln, os => putO ln os
  | some s :: ln, o :: os => fun Ts => if s < Ts.length then putO ln os (Ts.set s o) else none
  | some _ :: _, [] => fun _ => none
section
variable {g : Gc} {X : Cx} {e : Expr} {es : List Expr} {fa : M T} {fs : M (List T)} {e1 e2 b1 b2 : List Nat} {ln : List (Option Nat)} {pos p2 : Pos}
theorem tmc_nil : PAc g X [] mNil [] [] [] :=
  PA.imp pa_nil fun σ H Q ⟨S, Ts, A, ts, Ts', R, q, k⟩ => by
    have q : some (([] : List T), Ts) = some (ts, Ts') := q
    injection q with q
    injection q with h1 h2
    subst h1; subst h2
    exact k [] H S A [] [] R ⟨rfl, rfl, rfl, rfl⟩ Ow.nil Ow.nil (fun _ h => nomatch h) Po.refl Stb.refl
theorem tmc_arg (ha : PEm g X e fa e1 b1) (hs : PAc g X es fs e2 b2 ln) (d : ∀ j ∈ b1, j ∉ e2 := by decide) (hst : starEach (e :: es) X.env = (false, eval e X.env) :: starEach es X.env := by rfl) : PAc g X (e :: es) (mCons fa fs) (e1 ++ e2) (b1 ++ b2) (none :: ln) :=
  PA.imp (pa_cons ha hs hst) fun σ H Q ⟨S, Ts, A, ts, Ts', R, q, k⟩ => by
    obtain ⟨ta, Ts1, ea, q1⟩ := bnd_some q
    obtain ⟨tb, Ts2, eb, q2⟩ := bnd_some q1
    have q3 : some (ta :: tb, Ts2) = some (ts, Ts') := q2
    injection q3 with q3
    injection q3 with h1 h2
    subst h1; subst h2
    refine ⟨S, Ts, A, ta, Ts1, R, ea, fun x H1 S1 A1 Ax R1 r1 o1 p1 s1 => ⟨S1, Ts1, A1, tb, Ts2, R1, eb, fun ys H2 S2 A2 Al Ab R2 r2 ol ob dj p2 s2 => ?_⟩⟩
    have hc := Rp.cells _ _ _ r1
    have o1' := o1.held R1 R2 hc p2 s2 d
    refine k (x :: ys) H2 S2 A2 Al (Ax ++ Ab) R2 ⟨ta, tb, x, ys, Ax, Ab, rfl, rfl, rfl, r1.held R1 o1 p2 s2 d, r2⟩ (ol.rebase p1) (Ow.app p1 hc o1 o1' ob) (fun a hl hx => ?_) (p1.trans R p2) (s1.trans s2)
    rcases List.mem_append.mp hx with hx | hx
    · rcases ol.new a hl with ⟨j, hj⟩ | hn
      · have hb : j ∈ b1 := Classical.byContradiction fun z => o1.dj j z a hx hj
        have e := (s2 j (d j hb)).2.1
        exact ol.dj j (fun z => nomatch z) a hl (by rw [e]; exact hj)
      · exact mut_ne (hc a hx) hn
    · exact dj a hl hx
theorem tmc_lend {s : Nat} (ha : PE X e (tVar s)) (hs : PAc g X es fs e2 b2 ln) (hst : starEach (e :: es) X.env = (false, eval e X.env) :: starEach es X.env := by rfl) : PAc g X (e :: es) (mCons (mLn s) fs) ([s] ++ e2) b2 (some s :: ln) :=
  PA.imp (pa_cons ha hs hst) fun σ H Q ⟨S, Ts, A, ts, Ts', R, q, k⟩ => by
    obtain ⟨ta, Ts1, ea, q1⟩ := bnd_some q
    obtain ⟨tb, Ts2, eb, q2⟩ := bnd_some q1
    have q3 : some (ta :: tb, Ts2) = some (ts, Ts') := q2
    injection q3 with q3
    injection q3 with h1 h2
    subst h1; subst h2
    have key : ∃ u, slot Ts s = u ∧ u ≠ .dead ∧ some (u, Ts.set s .dead) = some (ta, Ts1) := by
      unfold mLn at ea
      cases q : slot Ts s <;> rw [q] at ea <;> first | (cases ea; done) | exact ⟨_, rfl, (fun z => nomatch z), ea⟩
    obtain ⟨u, e1, n, e2'⟩ := key
    injection e2' with e2'
    injection e2' with h1 h2
    subst h1; subst h2
    obtain ⟨x, hx, rx⟩ := R.at e1 n
    obtain ⟨R1, p1, s1, o1⟩ := R.mv e1 n
    refine ⟨x, hx, S, Ts.set s .dead, _, tb, Ts2, R1, eb, fun ys H2 S2 A2 Al Ab R2 r2 ol ob dj p2 s2 => ?_⟩
    have hc := Rp.cells _ _ _ rx
    have o1' := o1.held R1 R2 hc p2 s2 (fun _ z => nomatch z)
    have ap := Ow.app p1 hc o1 o1' ol
    refine k (x :: ys) H2 S2 A2 (A s ++ Al) Ab R2 ⟨u, tb, x, ys, A s, Al, rfl, rfl, rfl, rx.held R1 o1 p2 s2 (fun _ z => nomatch z), hx, r2⟩ ap (ob.rebase p1) (fun a hl hx => ?_) (p1.trans R p2) (s1.trans s2)
    rcases List.mem_append.mp hl with hl | hl
    · rcases ob.new a hx with ⟨j, hj⟩ | hn
      · exact o1.dj j (fun z => nomatch z) a hl hj
      · exact mut_ne (hc a hl) hn
    · exact dj a hl hx
end
section
variable {g : Gc} {S S1 S2 : Addr → Prop} {H H1 H2 : Hp} {σ : L2.St}
theorem RpC.call : ∀ (ln : List (Option Nat)) (ts : List T) (xs : List V) (Al Ab : List Addr), RpC g S H σ ln ts xs Al Ab → (∀ a, S a → S2 a) → (∀ a ∈ Ab, S2 a) → RpL g S2 H (fzA ln ts) xs Al
  | [], _, _, _, _, h, _, _ => by obtain ⟨h1, h2, h3, h4⟩ := h; subst h1 h2 h3; exact ⟨rfl, rfl⟩
  | none :: ln, _, _, Al, _, h, hs, hb => by
    obtain ⟨t, ts', x, xs', B, Ab', e1, e2, e3, r, h⟩ := h
    subst e1 e2 e3
    exact ⟨x, xs', [], Al, rfl, rfl, Rp.fz hs t x B r fun a ha => hb a (List.mem_append_left _ ha), RpC.call ln ts' xs' Al Ab' h hs fun a ha => hb a (List.mem_append_right _ ha)⟩
  | some s :: ln, _, _, _, Ab, h, hs, hb => by
    obtain ⟨t, ts', x, xs', B, Al', e1, e2, e3, r, _, h⟩ := h
    subst e1 e2 e3
    exact ⟨x, xs', B, Al', rfl, rfl, Rp.keep (M := fun _ => False) (fun a o h _ => h) (fun _ h => h.elim) (fun _ _ h => h) hs t x B r (fun _ _ h => h), RpC.call ln ts' xs' Al' Ab h hs hb⟩
theorem RpC.bcells : ∀ (ln : List (Option Nat)) (ts : List T) (xs : List V) (Al Ab : List Addr), RpC g S H σ ln ts xs Al Ab → ∀ a ∈ Ab, ∃ o, H a = some o ∧ ∀ ps, o ≠ .tbl ps
  | [], _, _, _, _, h, a, ha => by rw [h.2.2.2] at ha; exact nomatch ha
  | none :: ln, _, _, Al, _, h, a, ha => by
    obtain ⟨t, ts', x, xs', B, Ab', e1, e2, e3, r, h⟩ := h
    rw [e3] at ha
    rcases List.mem_append.mp ha with ha | ha
    · have m := Rp.cells _ _ _ r a ha
      cases e : H a with
      | none => rw [e] at m; exact m.elim
      | some o => exact ⟨o, rfl, mut_tbl (by rw [e] at m; exact m)⟩
    · exact RpC.bcells ln ts' xs' Al Ab' h a ha
  | some s :: ln, _, _, _, Ab, h, a, ha => by
    obtain ⟨t, ts', x, xs', B, Al', e1, e2, e3, r, _, h⟩ := h
    exact RpC.bcells ln ts' xs' Al' Ab h a ha
theorem RpC.lent : ∀ (ln : List (Option Nat)) (ts : List T) (xs : List V) (Al Ab : List Addr) (n : Nat) (ys : List V), RpC g S H σ ln ts xs Al Ab → ys.length = n →
    ∃ zs : List V, (lentIx n ln).map (fun i => (ys ++ xs).getD i .non) = zs ∧ zs.length = (ln.filterMap id).length ∧ ∀ (k : Nat) (s : Nat), (ln.filterMap id)[k]? = some s → ∃ x, zs[k]? = some x ∧ σ[s]? = some (some x)
  | [], _, _, _, _, n, ys, h, _ => ⟨[], rfl, rfl, fun k s e => by simp at e⟩
  | none :: ln, _, _, Al, _, n, ys, h, hn => by
    obtain ⟨t, ts', x, xs', B, Ab', e1, e2, e3, r, h⟩ := h
    subst e2
    obtain ⟨zs, h1, h2, h3⟩ := RpC.lent ln ts' xs' Al Ab' (n + 1) (ys ++ [x]) h (by simp [hn])
    refine ⟨zs, ?_, h2, h3⟩
    rw [← h1]
    show (lentIx (n + 1) ln).map _ = _
    rw [show ys ++ [x] ++ xs' = ys ++ x :: xs' by simp]
  | some s :: ln, _, _, _, Ab, n, ys, h, hn => by
    obtain ⟨t, ts', x, xs', B, Al', e1, e2, e3, r, hs, h⟩ := h
    subst e2
    obtain ⟨zs, h1, h2, h3⟩ := RpC.lent ln ts' xs' Al' Ab (n + 1) (ys ++ [x]) h (by simp [hn])
    refine ⟨x :: zs, ?_, by simp [h2], fun k s' e => ?_⟩
    · show _ :: (lentIx (n + 1) ln).map _ = _
      rw [← h1]
      congr 1
      · show (ys ++ x :: xs').getD n V.non = x
        rw [List.getD_eq_getElem?_getD, List.getElem?_append_right (by omega), ← hn]; simp
      · rw [show ys ++ [x] ++ xs' = ys ++ x :: xs' by simp]
    · cases k with
      | zero =>
        have e : s = s' := by simpa using e
        subst e
        exact ⟨x, rfl, hs⟩
      | succ k =>
        obtain ⟨y, q1, q2⟩ := h3 k s' (by simpa using e)
        exact ⟨y, by simpa using q1, q2⟩
theorem SR.putO : ∀ (ln : List (Option Nat)) (outs : List T) (zs : List V) (Ao : List Addr) (Ts Ts' : List T) (A : Nat → List Addr), SR g S H σ Ts A → RpL g S H outs zs Ao → Ao.Nodup → (∀ a ∈ Ao, ¬ S a ∧ ∀ i, a ∉ A i) →
    (∀ (k : Nat) (s : Nat), (ln.filterMap id)[k]? = some s → ∃ x, zs[k]? = some x ∧ σ[s]? = some (some x)) → MI.putO ln outs Ts = some ((), Ts') →
    ∃ A', SR g S H σ Ts' A' ∧ (∀ i, ∀ a ∈ A' i, (∃ j, a ∈ A j) ∨ a ∈ Ao) ∧ (∀ j, j ∉ ln.filterMap id → slot Ts' j = slot Ts j ∧ A' j = A j)
  | [], outs, zs, Ao, Ts, Ts', A, R, r, nd, dj, hz, q => by
    have q : some ((), Ts) = some ((), Ts') := q
    injection q with q
    injection q with _ q
    subst q
    exact ⟨A, R, fun i a h => .inl ⟨i, h⟩, fun j _ => ⟨rfl, rfl⟩⟩
  | none :: ln, outs, zs, Ao, Ts, Ts', A, R, r, nd, dj, hz, q => SR.putO ln outs zs Ao Ts Ts' A R r nd dj hz q
  | some s :: ln, [], zs, Ao, Ts, Ts', A, R, r, nd, dj, hz, q => nomatch q
  | some s :: ln, o :: outs, zs, Ao, Ts, Ts', A, R, r, nd, dj, hz, q => by
    obtain ⟨y, ys, A1, A2, e1, e2, r1, r2⟩ := r
    subst e1; subst e2
    obtain ⟨nd1, nd2, nd3⟩ := List.nodup_append.mp nd
    have q : (if s < Ts.length then MI.putO ln outs (Ts.set s o) else none) = some ((), Ts') := q
    split at q
    · rename_i hs
      obtain ⟨x, z1, z2⟩ := hz 0 s (by simp)
      have z1 : y = x := by simpa using z1
      subst z1
      have eσ : σ.set s (some y) = σ := List.ext_getElem? fun j => by
        by_cases hj : s = j
        · subst hj
          rw [List.getElem?_set_self (by rw [← R.len]; exact hs), z2]
        · rw [List.getElem?_set_ne hj]
      have R1 := R.put hs r1 nd1 fun a ha => dj a (List.mem_append_left _ ha)
      rw [eσ] at R1
      obtain ⟨A', R', h1, h2⟩ := SR.putO ln outs ys A2 (Ts.set s o) Ts' _ R1 r2 nd2 (fun a ha => ⟨(dj a (List.mem_append_right _ ha)).1, fun i hi => by
        split at hi
        · exact nd3 a hi a ha rfl
        · exact (dj a (List.mem_append_right _ ha)).2 i hi⟩) (fun k s' e => by
          obtain ⟨x, w1, w2⟩ := hz (k + 1) s' (by simpa using e)
          exact ⟨x, by simpa using w1, w2⟩) q
      refine ⟨A', R', fun i a ha => ?_, fun j hj => ?_⟩
      · rcases h1 i a ha with ⟨j, hj⟩ | h
        · split at hj
          · exact .inr (List.mem_append_left _ hj)
          · exact .inl ⟨j, hj⟩
        · exact .inr (List.mem_append_right _ h)
      · have hj1 : j ≠ s := fun z => hj (by simp [z])
        have hj2 : j ∉ ln.filterMap id := fun z => hj (by simp only [List.filterMap_cons, id]; exact List.mem_cons_of_mem _ z)
        obtain ⟨w1, w2⟩ := h2 j hj2
        exact ⟨w1.trans (slot_set_ne hj1), w2.trans (if_neg hj1)⟩
    · cases q
end
def mCall (c : Cal) (ln : List (Option Nat)) (fs : M (List T)) : M T := bnd fs fun ts => bnd (lft (c (fzA ln ts))) fun p => bnd (putO ln p.2) fun _ => ret p.1
mutual
def T.nofz : T → Bool
  | .nd k ts => (k.isTup || k.own) && nofzL ts
  | _ => true
def nofzL : List T → Bool
  | [] => true
  | t :: ts => t.nofz && nofzL ts
end
def mCallP (c : Cal) (ln : List (Option Nat)) (fs : M (List T)) : M T := bnd fs fun ts => bnd (lft (c (fzA ln ts))) fun p => if p.1.nofz && nofzL p.2 then bnd (putO ln p.2) fun _ => ret p.1 else fun _ => none
section
variable {g : Gc} {S S1 S2 : Addr → Prop} {H H1 H2 : Hp} {σ : L2.St}
mutual
theorem Rp.nofz_any : ∀ (t : T) (x : V) (A : List Addr), Rp g S H t x A → t.nofz = true → Rp g S2 H t x A
  | .dead, _, _, h, _ => h
  | .non, _, _, h, _ => h
  | .bl _, _, _, h, _ => h
  | .int _, _, _, h, _ => h
  | .str _, _, _, h, _ => h
  | .nd k ts, x, A, h, hp => by
    have hp : ((k.isTup || k.own) && nofzL ts) = true := hp
    obtain ⟨h1, h2⟩ := Bool.and_eq_true_iff.mp hp
    obtain ⟨a, xs, B, e, at_, eA, c, r⟩ := h
    refine ⟨a, xs, B, e, ?_, eA, c, RpL.nofz_any ts xs B r h2⟩
    cases k with
    | tup => exact at_
    | scr => cases h1
    | lst o => cases o with
      | true => exact at_
      | false => cases h1
    | dK o ks => cases o with
      | true => exact ⟨at_.1, at_.2.1, fun z => nomatch z⟩
      | false => cases h1
    | dT o ks => cases o with
      | true => exact ⟨at_.1, at_.2.1, fun z => nomatch z⟩
      | false => cases h1
    | ins o c fs => cases o with
      | true => exact ⟨at_.1, at_.2.1, fun z => nomatch z⟩
      | false => cases h1
theorem RpL.nofz_any : ∀ (ts : List T) (xs : List V) (A : List Addr), RpL g S H ts xs A → nofzL ts = true → RpL g S2 H ts xs A
  | [], _, _, h, _ => h
  | t :: ts, xs, A, h, hp => by
    have hp : (t.nofz && nofzL ts) = true := hp
    obtain ⟨h1, h2⟩ := Bool.and_eq_true_iff.mp hp
    obtain ⟨y, ys, A1, A2, e1, e2, r1, r2⟩ := h
    exact ⟨y, ys, A1, A2, e1, e2, Rp.nofz_any t y A1 r1 h1, RpL.nofz_any ts ys A2 r2 h2⟩
end
end
section
variable {g : Gc} {X : Cx} {e : Expr} {es : List Expr} {fa : M T} {fs : M (List T)} {e1 e2 b1 b2 : List Nat} {ln : List (Option Nat)} {pos p2 : Pos} {c : Cal} {io : List Nat}
theorem call_post {S S1 S' S2 : Addr → Prop} {H H1 H' : Hp} {σ : L2.St} {Ts Ts1 Ts2 : List T} {A A1 : Nat → List Addr} {Al Ab Ar Ao : List Addr} {r : T} {outs : List T} {x : V} {zs : List V} {Q : VK}
    (R : SR g S H σ Ts A) (R1 : SR g S1 H1 σ Ts1 A1) (hcl : ∀ a ∈ Al, Mut (H1 a)) (ol : Ow [] H A S1 A1 Al) (ob : Ow b1 H A S1 A1 Ab) (p : Po S H A S1 H1 A1) (s : Stb e1 H Ts A H1 Ts1 A1)
    (pf : PoF (fun a => S1 a ∨ a ∈ Ab) H1 Al S' H' (Ao ++ Ar)) (hS2 : ∀ a, S2 a → S' a) (hS1 : ∀ a, S1 a → S2 a) (hb : ∀ a, S2 a → a ∈ Ab → b1 = []) (rx : Rp g S2 H' r x Ar) (ro : RpL g S2 H' outs zs Ao) (nd : (Ao ++ Ar).Nodup) (ns : ∀ a ∈ Ao ++ Ar, ¬ S' a) (st : StT g S' H')
    (hz : ∀ (k : Nat) (s : Nat), (ln.filterMap id)[k]? = some s → ∃ x, zs[k]? = some x ∧ σ[s]? = some (some x)) (q : putO ln outs Ts1 = some ((), Ts2)) (hl : ∀ s ∈ ln.filterMap id, s ∈ e1)
    (k : ∀ x H' S' A' Ax, SR g S' H' σ Ts2 A' → Rp g S' H' r x Ax → Ow [] H A S' A' Ax → Po S H A S' H' A' → Stb e1 H Ts A H' Ts2 A' → Q x H') : Q x H' := by
  have njl : ∀ i, ∀ a ∈ A1 i, a ∉ Al := fun i a ha z => ol.dj i (fun z => nomatch z) a z ha
  have kpA : ∀ i, ∀ a ∈ A1 i, ∀ o, H1 a = some o → H' a = some o := fun i a ha o eo => fix_at (pf.keep a o eo (njl i a ha)) (mut_tbl (eo ▸ R1.cells i a ha))
  have ns1 : ∀ i, ∀ a ∈ A1 i, ¬ S2 a := fun i a ha z => by
    rcases pf.snew a (hS2 a z) with (h | h) | h | h
    · exact R1.ns i a ha h
    · have e := hb a z h
      exact ob.dj i (by rw [e]; exact fun z => nomatch z) a h ha
    · exact njl i a ha h
    · exact mut_ne (R1.cells i a ha) h
  have R2 : SR g S2 H' σ Ts1 A1 := ⟨fun i => by
      rcases R1.rep i with h | ⟨y, h1, h2⟩
      · exact .inl h
      · exact .inr ⟨y, h1, Rp.keepF (M := fun a => a ∈ Al) (fun a o eo n => pf.keep a o eo n) hcl (fun a h z => ol.ns a z h) hS1 _ _ _ h2 fun a ha => njl i a ha⟩,
    R1.nd, R1.dj, ns1, R1.len, ⟨fun a h => st.st a (hS2 a h), st.tb⟩⟩
  obtain ⟨ndo, ndr, ndd⟩ := List.nodup_append.mp nd
  have off : ∀ a ∈ Ao ++ Ar, ∀ i, a ∉ A1 i := fun a ha i hi => by
    rcases pf.anew a ha with h | h
    · exact njl i a hi h
    · exact mut_ne (R1.cells i a hi) h
  obtain ⟨A', R', h1, h2⟩ := R2.putO ln outs zs Ao Ts1 Ts2 A1 ro ndo (fun a ha => ⟨fun z => ns a (List.mem_append_left _ ha) (hS2 a z), off a (List.mem_append_left _ ha)⟩) hz q
  have back : ∀ a, noT (H1 a) = none → (∃ j, a ∈ A j) ∨ noT (H a) = none := fun a hn => by
    cases e : H a with
    | none => exact .inr rfl
    | some ob =>
      by_cases hj : ∃ j, a ∈ A j
      · exact .inl hj
      · exact .inr (e ▸ fix_back hn e (p.keep a ob e fun i hi => hj ⟨i, hi⟩))
  have nw : ∀ a ∈ Ao ++ Ar, (∃ j, a ∈ A j) ∨ noT (H a) = none := fun a ha => by
    rcases pf.anew a ha with h | h
    · exact ol.new a h
    · exact back a h
  refine k x H' S2 A' Ar R' rx ⟨fun a ha z => ns a (List.mem_append_right _ ha) (hS2 a z), fun i _ a ha hi => ?_, fun _ => ndr, fun a ha => nw a (List.mem_append_right _ ha)⟩ ⟨fun a o eo na => ?_, fun a h => hS1 a (p.sub a h), fun a h => ?_, fun i a ha => ?_⟩ fun j hj => ?_
  · rcases h1 i a hi with ⟨j, hj⟩ | h
    · exact off a (List.mem_append_right _ ha) j hj
    · exact ndd a h a ha rfl
  · refine fix_trans (p.keep a o eo na) fun eu nt => pf.keep a o eu fun z => ?_
    rcases ol.new a z with ⟨j, hj⟩ | h
    · exact na j hj
    · obtain ⟨ps, w⟩ := noT_at h eo
      exact nt ps w
  · rcases pf.snew a (hS2 a h) with (h | h) | h | h
    · exact p.snew a h
    · exact .inr (ob.new a h)
    · exact .inr (ol.new a h)
    · exact .inr (back a h)
  · rcases h1 i a ha with ⟨j, hj⟩ | h
    · exact p.anew j a hj
    · exact nw a (List.mem_append_left _ h)
  · obtain ⟨x1, x2, x3⟩ := s j hj
    obtain ⟨y1, y2⟩ := h2 j fun z => hj (hl j z)
    exact ⟨y1.trans x1, y2.trans x2, fun a ha o eo => kpA j a (by rw [x2]; exact ha) o (x3 a ha o eo)⟩
theorem call_r (hb : b1 = []) (hio : io = lentIx 0 ln) (hl : ∀ s ∈ ln.filterMap id, s ∈ e1) (σ : L2.St) (H : Hp) (Q : VK) (h : TM g (mCall c ln fs) e1 [] σ H Q) : tCall (spT g io c) [] E0 (TMc g fs e1 b1 ln) σ H Q := by
  obtain ⟨S, Ts, A, r, Ts', R, q, k⟩ := h
  obtain ⟨ts, Ts1, q1, q2⟩ := bnd_some q
  obtain ⟨⟨r', outs⟩, Ts1', q3, q4⟩ := bnd_some q2
  obtain ⟨q5, e5⟩ := lft_some q3
  subst e5
  obtain ⟨_, Ts2, q6, q7⟩ := bnd_some q4
  have q7 : some (r', Ts2) = some (r, Ts') := q7
  injection q7 with q7
  injection q7 with h1 h2
  subst h1; subst h2
  refine ⟨S, Ts, A, ts, Ts1', R, q1, fun xs H1 S1 A1 Al Ab R1 rc ol ob dj p s => ?_⟩
  have hcl : ∀ a ∈ Al, Mut (H1 a) := by
    have z := RpC.call (S2 := fun a => S1 a ∨ a ∈ Ab) ln ts xs Al Ab rc (fun _ h => .inl h) (fun _ h => .inr h)
    exact RpL.cells _ _ _ z
  have hob : ∀ a ∈ Ab, ∃ o, H1 a = some o ∧ ∀ ps, o ≠ .tbl ps := RpC.bcells ln ts xs Al Ab rc
  show spT g io c (xs ++ []) H1 Q E0
  rw [List.append_nil]
  refine ⟨fun a => S1 a ∨ a ∈ Ab, fzA ln ts, Al, r', outs, RpC.call ln ts xs Al Ab rc (fun _ h => .inl h) (fun _ h => .inr h), ol.nd rfl, fun a ha => ?_, ⟨fun a h => h.elim (R1.st.st a) (hob a), R1.tb⟩, q5, fun x H' S' Ar Ao rx ro nd ns st pf => ?_⟩
  · rintro (h | h)
    · exact ol.ns a ha h
    · exact dj a ha h
  · obtain ⟨zs, z1, z2, z3⟩ := RpC.lent ln ts xs Al Ab 0 [] rc rfl
    rw [List.nil_append] at z1
    rw [hio, z1] at ro
    exact call_post R R1 hcl ol ob p s pf (fun _ h => h) (fun a h => pf.sub a (.inl h)) (fun _ _ _ => hb) rx ro nd ns st z3 q6 hl k
theorem callP_r (hio : io = lentIx 0 ln) (hl : ∀ s ∈ ln.filterMap id, s ∈ e1) (σ : L2.St) (H : Hp) (Q : VK) (h : TM g (mCallP c ln fs) e1 [] σ H Q) : tCall (spT g io c) [] E0 (TMc g fs e1 b1 ln) σ H Q := by
  obtain ⟨S, Ts, A, r, Ts', R, q, k⟩ := h
  obtain ⟨ts, Ts1, q1, q2⟩ := bnd_some q
  obtain ⟨⟨r', outs⟩, Ts1', q3, q4⟩ := bnd_some q2
  obtain ⟨q5, e5⟩ := lft_some q3
  subst e5
  split at q4
  · rename_i hp
    obtain ⟨hp1, hp2⟩ := Bool.and_eq_true_iff.mp hp
    obtain ⟨_, Ts2, q6, q7⟩ := bnd_some q4
    have q7 : some (r', Ts2) = some (r, Ts') := q7
    injection q7 with q7
    injection q7 with h1 h2
    subst h1; subst h2
    refine ⟨S, Ts, A, ts, Ts1', R, q1, fun xs H1 S1 A1 Al Ab R1 rc ol ob dj p s => ?_⟩
    have hcl : ∀ a ∈ Al, Mut (H1 a) := by
      have z := RpC.call (S2 := fun a => S1 a ∨ a ∈ Ab) ln ts xs Al Ab rc (fun _ h => .inl h) (fun _ h => .inr h)
      exact RpL.cells _ _ _ z
    have hob : ∀ a ∈ Ab, ∃ o, H1 a = some o ∧ ∀ ps, o ≠ .tbl ps := RpC.bcells ln ts xs Al Ab rc
    show spT g io c (xs ++ []) H1 Q E0
    rw [List.append_nil]
    refine ⟨fun a => S1 a ∨ a ∈ Ab, fzA ln ts, Al, r', outs, RpC.call ln ts xs Al Ab rc (fun _ h => .inl h) (fun _ h => .inr h), ol.nd rfl, fun a ha => ?_, ⟨fun a h => h.elim (R1.st.st a) (hob a), R1.tb⟩, q5, fun x H' S' Ar Ao rx ro nd ns st pf => ?_⟩
    · rintro (h | h)
      · exact ol.ns a ha h
      · exact dj a ha h
    · obtain ⟨zs, z1, z2, z3⟩ := RpC.lent ln ts xs Al Ab 0 [] rc rfl
      rw [List.nil_append] at z1
      rw [hio, z1] at ro
      exact call_post (S2 := fun a => S' a ∧ a ∉ Ab) R R1 hcl ol ob p s pf (fun _ h => h.1) (fun a h => ⟨pf.sub a (.inl h), fun z => ob.ns a z h⟩) (fun a h z => absurd z h.2) (Rp.nofz_any _ _ _ rx hp1) (RpL.nofz_any _ _ _ ro hp2) nd ns st z3 q6 hl k
  · cases q4
end
end MI
namespace MI
open PySem PySem.Spec PyProof.Rows L2
def ItOk (g : Gc) (bo : List Nat) (H : Hp) (A : Nat → List Addr) (S1 : Addr → Prop) (H1 : Hp) (A1 : Nat → List Addr) (J : It) (items : List T) : Prop := ∃ (ts : List T) (xs : List V) (Ax : List Addr), RpL g S1 H1 ts xs Ax ∧ Ow bo H A S1 A1 Ax ∧
  Walk J items.length (fun H2 => ∃ S2, RpL g S2 H2 ts xs Ax) (fun i H2 x H3 => Ext H2 H3 ∧ ∀ S2, RpL g S2 H2 ts xs Ax → ∃ t, items[i]? = some t ∧ Rp g S2 H3 t x [])
def TIm (g : Gc) (mi : M (List T)) (eff bo : List Nat) : TI := fun σ H R => ∃ S Ts A items Ts', SR g S H σ Ts A ∧ mi Ts = some (items, Ts') ∧
  ∀ J H1 S1 A1, SR g S1 H1 σ Ts' A1 → ItOk g bo H A S1 H1 A1 J items → Po S H A S1 H1 A1 → Stb eff H Ts A H1 Ts' A1 → R J H1
def PIm (g : Gc) (X : Cx) (tg iter : Expr) (mi : M (List T)) (eff bo : List Nat) : Prop := PI X tg iter (TIm g mi eff bo)
theorem PI.imp {X : Cx} {tg e : Expr} {t t' : TI} (h : PI X tg e t) (i : ∀ σ H R, t' σ H R → t σ H R) : PI X tg e t' := ⟨fun pins s σ H R I q => h.run pins s σ H R I (i σ H R q)⟩
def loopM (m : T → M Unit) (f : M Fl) : List T → M Fl
  | [] => ret .nx
  | t :: ts => bnd (m t) fun _ => bnd f fun fl => match fl with
    | .rt r => ret (.rt r)
    | .bk => ret .nx
    | _ => loopM m f ts
def mFor (mi : M (List T)) (m : T → M Unit) (f : M Fl) : M Fl := bnd mi fun items => loopM m f items
section
variable {g : Gc} {S S1 S2 : Addr → Prop} {H H1 H2 : Hp} {A A1 A2 : Nat → List Addr} {σ σ2 : L2.St} {Ts Ts1 Ts2 : List T} {eff bo : List Nat} {Ax : List Addr}
theorem Ow.bound {a1 : List Nat} (R2 : SR g S1 H1 σ2 Ts2 A2) (o : Ow bo H A S1 A1 Ax) (n : ∀ i, ∀ a ∈ A2 i, (∃ j, a ∈ A1 j) ∨ a ∈ ([] : List Addr)) (s : ∀ j, j ∉ a1 → A2 j = A1 j) (d : ∀ j ∈ bo, j ∉ a1) : Ow bo H A S1 A2 Ax :=
  ⟨o.ns, fun i hi a ha h => by
    rcases n i a h with ⟨j, hj⟩ | h
    · have hb : j ∈ bo := Classical.byContradiction fun z => o.dj j z a ha hj
      exact R2.dj i j (by rintro rfl; exact hi hb) a h (by rw [s j (d j hb)]; exact hj)
    · exact (nomatch h), o.nd, o.new⟩
theorem Po.bound {a1 : List Nat} (p : Po S H A S1 H1 A1) (n : ∀ i, ∀ a ∈ A2 i, (∃ j, a ∈ A1 j) ∨ a ∈ ([] : List Addr)) : Po S H A S1 H1 A2 :=
  ⟨p.keep, p.sub, p.snew, fun i a h => by
    rcases n i a h with ⟨j, hj⟩ | h
    · exact p.anew j a hj
    · exact nomatch h⟩
end
section
variable {g : Gc} {X : Cx} {tg iter : Expr} {body : List Stmt} {mi : M (List T)} {m : T → M Unit} {f : M Fl} {a1 a2 e1 e2 b1 : List Nat} {pos : Pos}
theorem for_r (d : ∀ j ∈ b1, j ∉ a1 ++ e2) (D : Ends) (σ : L2.St) (H : Hp) (h : TSm g (mFor mi m f) (a1 ++ a2) (e1 ++ (a1 ++ e2)) D σ H) : tFor (TIm g mi e1 b1) (TGm g m a1) (TSm g f a2 e2) D σ H := by
  obtain ⟨S, Ts, A, fl, Ts', R, q, k⟩ := h
  obtain ⟨items, Ts1, q1, q2⟩ := bnd_some q
  refine ⟨S, Ts, A, items, Ts1, R, q1, fun J H1 S1 A1 R1 it p1 s1 => ?_⟩
  obtain ⟨cs, cx, Ax, rc, oc, wk⟩ := it
  refine for_it wk (fun i σ' H' => ∃ S' Tsi A', SR g S' H' σ' Tsi A' ∧ loopM m f (items.drop i) Tsi = some (fl, Ts') ∧ (∀ j, j ∉ a1 ++ a2 → σ'[j]? = σ[j]?) ∧ Po S1 H1 A1 S' H' A' ∧ Stb (a1 ++ e2) H1 Ts1 A1 H' Tsi A' ∧ RpL g S' H' cs cx Ax ∧ Ow b1 H A S' A' Ax)
    ⟨S1, Ts1, A1, R1, q2, fun _ _ => rfl, Po.refl, Stb.refl, rc, oc⟩ (fun i σ' H' _ ⟨S', _, _, _, _, _, _, _, r, _⟩ => ⟨S', r⟩) ?_ ?_
  · rintro i x σ' H' H2 hi ⟨S', Tsi, A', Ri, qi, hσ, pi, si, ri, oi⟩ ⟨ex, hy⟩
    obtain ⟨t, ht, rt⟩ := hy S' ri
    have ed : items.drop i = t :: items.drop (i + 1) := by
      obtain ⟨h1, h2⟩ := List.getElem?_eq_some_iff.mp ht
      rw [← h2]; exact List.drop_eq_getElem_cons h1
    rw [ed] at qi
    obtain ⟨_, Tsa, qa, qb⟩ := bnd_some qi
    obtain ⟨fl', Tsb, qc, qd⟩ := bnd_some qb
    have Ri2 := Ri.ext ex
    refine ⟨S', Tsi, A', t, [], Tsa, Ri2, rt, List.nodup_nil, (fun _ h => nomatch h), qa, fun σ2 A2 hσ2 R2 n2 s2 => ?_⟩
    have oi2 : Ow b1 H A S' A2 Ax := oi.bound (a1 := a1) R2 n2 (fun j hj => (s2 j hj).2) fun j hj z => d j hj (List.mem_append_left _ z)
    have pi2 : Po S1 H1 A1 S' H2 A2 := (pi.trans R1 (Po.ext ex)).bound (a1 := a1) n2
    have hcx : ∀ a ∈ Ax, Mut (H2 a) := RpL.cells _ _ _ (ri.ext ex)
    refine ⟨S', Tsa, A2, fl', Tsb, R2, qc, fun σ3 H3 S3 A3 hσ3 R3 p3 s3 => ?_⟩
    have hσ' : ∀ j, j ∉ a1 ++ a2 → σ3[j]? = σ[j]? := fun j hj => (hσ3 j fun z => hj (List.mem_append_right _ z)).trans ((hσ2.2 j fun z => hj (List.mem_append_left _ z)).trans (hσ j hj))
    have p4 : Po S1 H1 A1 S3 H3 A3 := pi2.trans R1 p3
    have s4 : Stb (a1 ++ e2) H1 Ts1 A1 H3 Tsb A3 := fun j hj => by
      obtain ⟨x1, x2, x3⟩ := si j hj
      obtain ⟨y1, y2⟩ := s2 j fun z => hj (List.mem_append_left _ z)
      obtain ⟨z1, z2, z3⟩ := s3 j fun z => hj (List.mem_append_right _ z)
      exact ⟨z1.trans (y1.trans x1), z2.trans (y2.trans x2), fun a ha o eo => z3 a (by rw [y2, x2]; exact ha) o (ex a o (x3 a ha o eo))⟩
    have d2 : ∀ j ∈ b1, j ∉ e2 := fun j hj z => d j hj (List.mem_append_right _ z)
    have fin : ∀ fl'' : Fl, some (fl'', Tsb) = some (fl, Ts') → FlE g D H A fl'' σ3 H3 S3 A3 := fun fl'' eq => by
      injection eq with eq
      injection eq with h1 h2
      subst h1; subst h2
      exact k σ3 H3 S3 A3 hσ' R3 (p1.trans R p4) (s1.trans s4)
    have nxt : loopM m f (items.drop (i + 1)) Tsb = some (fl, Ts') → ∃ S' Tsi A', SR g S' H3 σ3 Tsi A' ∧ loopM m f (items.drop (i + 1)) Tsi = some (fl, Ts') ∧ (∀ j, j ∉ a1 ++ a2 → σ3[j]? = σ[j]?) ∧ Po S1 H1 A1 S' H3 A' ∧ Stb (a1 ++ e2) H1 Ts1 A1 H3 Tsi A' ∧ RpL g S' H3 cs cx Ax ∧ Ow b1 H A S' A' Ax := fun qn =>
      ⟨S3, Tsb, A3, R3, qn, hσ', p4, s4, RpL.held R2 (ri.ext ex) oi2 p3 s3 d2, oi2.held R2 R3 hcx p3 s3 d2⟩
    cases fl' with
    | nx => exact nxt qd
    | ct => exact nxt qd
    | bk => exact fin .nx qd
    | rt r => exact (fin (.rt r) qd).rebase (p1.trans R pi2)
  · rintro σ' H' ⟨S', Tsi, A', Ri, qi, hσ, pi, si, ri, oi⟩
    rw [List.drop_length] at qi
    have qi : some (Fl.nx, Tsi) = some (fl, Ts') := qi
    injection qi with qi
    injection qi with h1 h2
    subst h1; subst h2
    exact k σ' H' S' A' hσ Ri (p1.trans R pi) (s1.trans si)
theorem ts_for (hp : PassesOwn (model X.prog X.w) X.A X.env X.xe) (hc : X.calm = true) (hi : PIm g X tg iter mi e1 b1) (hg : PGm g X tg m a1) (hb : PSsm g X body f a2 e2) (d : ∀ j ∈ b1, j ∉ a1 ++ e2 := by decide) (hs : ∀ x, foldedSetIterable iter X.env x = pure x := by intro _; rfl) : PSm g X (.For tg iter body [] pos) (mFor mi m f) (a1 ++ a2) (e1 ++ (a1 ++ e2)) := PS.imp (ps_for hp hc hi hg hb hs) (for_r d)
end
end MI
namespace MI
open PySem PySem.Spec PyProof.Rows L2
section
variable {g : Gc} {X : Cx} {c : Expr} {body : List Stmt} {fc : M Bool} {f : M Fl} {a1 e1 e2 : List Nat} {pos : Pos}
end
def wipeT (Ts : List T) : List Nat → List T
  | [] => Ts
  | i :: vs => wipeT (Ts.set i .dead) vs
def hidOk : T → Bool
  | .dead => true
  | t => t.imm
def rest (Ts1 : List T) : List T → List Nat → List T
  | Ts2, [] => Ts2
  | Ts2, i :: vs => rest Ts1 (Ts2.set i (slot Ts1 i)) vs
def lcM (m : T → M Unit) (tt : M Bool) (te : M T) (vs : List Nat) : List T → List T → M (List T)
  | [], acc => ret acc
  | t :: ts, acc => bnd (m t) fun _ => bnd tt fun b => if b then bnd te fun r => if acc.length < sizeLine then (fun Ts => lcM m tt te vs ts (acc ++ [r]) (wipeT Ts vs)) else fun _ => none else fun Ts => lcM m tt te vs ts acc (wipeT Ts vs)
def mLc (mi : M (List T)) (m : T → M Unit) (tt : M Bool) (te : M T) (vs : List Nat) : M T := bnd mi fun items => fun Ts => if vs.all (fun i => hidOk (slot Ts i)) then (match lcM m tt te vs items [] (wipeT Ts vs) with
  | some (acc, Ts2) => some (.nd (.lst true) acc, rest Ts Ts2 vs)
  | none => none) else none
section
variable {g : Gc} {S S1 S2 : Addr → Prop} {H H1 H2 : Hp} {A A1 A2 : Nat → List Addr} {σ σ2 : L2.St} {Ts Ts1 Ts2 : List T} {eff bo : List Nat} {Ax : List Addr}
theorem wipeT_len : ∀ (vs : List Nat) (Ts : List T), (wipeT Ts vs).length = Ts.length
  | [], _ => rfl
  | i :: vs, Ts => by rw [wipeT, wipeT_len vs, List.length_set]
theorem wipeT_in : ∀ (vs : List Nat) (Ts : List T) (i : Nat), i ∈ vs ∨ slot Ts i = .dead → slot (wipeT Ts vs) i = .dead
  | [], Ts, i, h => h.elim (fun z => nomatch z) id
  | j :: vs, Ts, i, h => by
    refine wipeT_in vs (Ts.set j .dead) i ?_
    by_cases hj : i = j
    · subst hj
      refine .inr ?_
      by_cases hl : i < Ts.length
      · exact slot_set_eq hl
      · unfold slot
        rw [List.getD_eq_getElem?_getD, List.getElem?_eq_none_iff.mpr (by rw [List.length_set]; omega)]; rfl
    · rcases h with h | h
      · rcases List.mem_cons.mp h with h | h
        · exact absurd h hj
        · exact .inl h
      · exact .inr (by rw [slot_set_ne hj]; exact h)
theorem wipeT_out : ∀ (vs : List Nat) (Ts : List T) (i : Nat), i ∉ vs → slot (wipeT Ts vs) i = slot Ts i
  | [], _, _, _ => rfl
  | j :: vs, Ts, i, h => by
    rw [wipeT, wipeT_out vs (Ts.set j .dead) i fun z => h (List.mem_cons_of_mem _ z), slot_set_ne fun z => h (by rw [z]; exact List.mem_cons_self)]
theorem rest_len : ∀ (vs : List Nat) (Ts2 : List T), (rest Ts1 Ts2 vs).length = Ts2.length
  | [], _ => rfl
  | i :: vs, Ts2 => by rw [rest, rest_len vs, List.length_set]
theorem rest_out : ∀ (vs : List Nat) (Ts2 : List T) (i : Nat), i ∉ vs → slot (rest Ts1 Ts2 vs) i = slot Ts2 i
  | [], _, _, _ => rfl
  | j :: vs, Ts2, i, h => by
    rw [rest, rest_out vs (Ts2.set j (slot Ts1 j)) i fun z => h (List.mem_cons_of_mem _ z), slot_set_ne fun z => h (by rw [z]; exact List.mem_cons_self)]
theorem rest_in : ∀ (vs : List Nat) (Ts2 : List T) (i : Nat), i ∈ vs → Ts1.length = Ts2.length → slot (rest Ts1 Ts2 vs) i = slot Ts1 i
  | [], _, _, h, _ => nomatch h
  | j :: vs, Ts2, i, h, hl => by
    rw [rest]
    by_cases hv : i ∈ vs
    · exact rest_in vs (Ts2.set j (slot Ts1 j)) i hv (by rw [List.length_set]; exact hl)
    · rw [rest_out vs _ i hv]
      have e : i = j := (List.mem_cons.mp h).elim id fun z => absurd z hv
      subst e
      by_cases hi : i < Ts2.length
      · exact slot_set_eq hi
      · unfold slot
        rw [List.getD_eq_getElem?_getD, List.getElem?_eq_none_iff.mpr (by rw [List.length_set]; omega), List.getD_eq_getElem?_getD, List.getElem?_eq_none_iff.mpr (by omega)]
theorem hid_nil (R : SR g S H σ Ts A) {i : Nat} (h : hidOk (slot Ts i) = true) : A i = [] := by
  rcases R.rep i with ⟨_, e⟩ | ⟨x, _, r⟩
  · exact e
  · cases q : slot Ts i with
    | dead => rw [q] at r; exact r
    | non => rw [q] at r; exact r.2
    | bl b => rw [q] at r; exact r.2
    | int b => rw [q] at r; exact r.2
    | str b => rw [q] at r; exact r.2
    | nd k ts => rw [q] at r h; exact Rp.imm_nil _ _ _ r h
theorem wipe_getD {σ : L2.St} {i : Nat} {vs : List Nat} (h : i ∉ vs) : (wipe σ vs).getD i none = σ.getD i none := by
  rw [List.getD_eq_getElem?_getD, List.getD_eq_getElem?_getD, wipe_out h]
theorem SR.wiped (R : SR g S H σ Ts A) (vs : List Nat) (h : ∀ i ∈ vs, hidOk (slot Ts i) = true) : SR g S H (wipe σ vs) (wipeT Ts vs) A where
  rep := fun i => by
    by_cases hi : i ∈ vs
    · exact .inl ⟨wipeT_in vs Ts i (.inl hi), hid_nil R (h i hi)⟩
    · rw [wipeT_out vs Ts i hi, wipe_getD hi]
      exact R.rep i
  nd := R.nd
  dj := R.dj
  ns := R.ns
  len := by rw [wipeT_len, wipe_length]; exact R.len
  st := R.st
theorem SR.turned {vs : List Nat} (R : SR g S H σ2 Ts A) (e : wipe σ2 vs = wipe σ vs) (h : ∀ i ∈ vs, A i = []) : SR g S H (wipe σ vs) (wipeT Ts vs) A where
  rep := fun i => by
    by_cases hi : i ∈ vs
    · exact .inl ⟨wipeT_in vs Ts i (.inl hi), h i hi⟩
    · rw [wipeT_out vs Ts i hi, ← e, wipe_getD hi]
      exact R.rep i
  nd := R.nd
  dj := R.dj
  ns := R.ns
  len := by rw [wipeT_len, ← e, wipe_length]; exact R.len
  st := R.st
theorem SR.rested {vs : List Nat} (R1 : SR g S1 H1 σ Ts1 A1) (p : Po S1 H1 A1 S2 H2 A2) (R2 : SR g S2 H2 (wipe σ vs) Ts2 A2) (h : ∀ i ∈ vs, hidOk (slot Ts1 i) = true) (hd : ∀ i ∈ vs, A2 i = []) : SR g S2 H2 σ (rest Ts1 Ts2 vs) A2 where
  rep := fun i => by
    by_cases hi : i ∈ vs
    · have hl : Ts1.length = Ts2.length := by rw [R1.len, R2.len, wipe_length]
      rw [rest_in vs Ts2 i hi hl, hd i hi]
      have e := hid_nil R1 (h i hi)
      rcases R1.rep i with ⟨h1, _⟩ | ⟨x, h1, h2⟩
      · exact .inl ⟨h1, rfl⟩
      · rw [e] at h2
        exact .inr ⟨x, h1, Rp.keepF (M := fun a => ∃ j, a ∈ A1 j) (fun a o eo n => p.keep a o eo fun j hj => n ⟨j, hj⟩) (fun a ⟨j, hj⟩ => R1.cells j a hj) (fun a hs ⟨j, hj⟩ => R1.ns j a hj hs) p.sub _ _ _ h2 (fun _ z => nomatch z)⟩
    · rw [rest_out vs Ts2 i hi, ← wipe_getD hi]
      exact R2.rep i
  nd := R2.nd
  dj := R2.dj
  ns := R2.ns
  len := by rw [rest_len, R2.len, wipe_length]
  st := R2.st
theorem SR.grow {Da : Addr} {o o' : HO} (R : SR g S H σ Ts A) (hD : H Da = some o) (hm : Mut (some o)) (hn : ∀ i, Da ∉ A i) (hs : ¬ S Da) (hx : ∀ P, o ≠ .ext P := by intro _ z; cases z) (hy : ∀ ps, o' ≠ .tbl ps := by intro _ z; cases z) : SR g S (upd H Da o') σ Ts A where
  rep := fun i => by
    rcases R.rep i with h | ⟨x, h1, h2⟩
    · exact .inl h
    · exact .inr ⟨x, h1, Rp.keep (M := fun a => a = Da) (fun a ob eo n => by rw [upd_ne n]; exact eo) (fun a e => by rw [e, hD]; exact hm) (fun a h e => hs (by rw [← e]; exact h)) (fun _ h => h) _ _ _ h2 fun a ha e => hn i (by rw [← e]; exact ha)⟩
  nd := R.nd
  dj := R.dj
  ns := R.ns
  len := R.len
  st := ⟨fun a h => by
    have ne : a ≠ Da := fun e => hs (by rw [← e]; exact h)
    rw [upd_ne ne]
    exact R.st.st a h, tabs_upd R.tb hD (mut_tbl hm) hx hy⟩
end
section
variable {g : Gc} {S S1 S2 : Addr → Prop} {H H1 H2 : Hp} {A A1 A2 : Nat → List Addr} {σ σ2 : L2.St} {Ts Ts1 Ts2 : List T} {eff bo : List Nat} {Ax : List Addr} {Da : Addr} {o : HO}
theorem Po.grown (p : Po S1 H1 A1 S2 H2 A2) (h : H1 Da = none) : Po S1 H1 A1 S2 (upd H2 Da o) A2 :=
  ⟨fun a ob e n => fix_upd (ne_of_none e h) (p.keep a ob e n), p.sub, p.snew, p.anew⟩
theorem Stb.grown (s : Stb eff H1 Ts1 A1 H2 Ts2 A2) (h : H1 Da = none) : Stb eff H1 Ts1 A1 (upd H2 Da o) Ts2 A2 := fun j hj =>
  let ⟨x, y, z⟩ := s j hj
  ⟨x, y, fun a ha ob e => by rw [upd_ne (ne_of_none e h)]; exact z a ha ob e⟩
theorem RpL.grown {ts : List T} {xs : List V} {o' : HO} (r : RpL g S H ts xs Ax) (hD : H Da = some o') (hm : Mut (some o')) (hs : ¬ S Da) (hn : Da ∉ Ax) : RpL g S (upd H Da o) ts xs Ax :=
  RpL.keep (M := fun a => a = Da) (fun a ob eo n => by rw [upd_ne n]; exact eo) (fun a e => by rw [e, hD]; exact hm) (fun a h e => hs (by rw [← e]; exact h)) (fun _ h => h) _ _ _ r fun a ha e => hn (by rw [← e]; exact ha)
theorem wipe_in {i : Nat} {σ : L2.St} (hl : i < σ.length) : ∀ {vs : List Nat}, i ∈ vs → (wipe σ vs)[i]? = some none
  | [], h => nomatch h
  | v :: vs, h => by
    unfold wipe
    by_cases hv : v = i
    · subst hv
      exact List.getElem?_set_self (by rw [wipe_length]; exact hl)
    · rw [List.getElem?_set_ne hv]
      exact wipe_in hl ((List.mem_cons.mp h).elim (fun z => absurd z.symm hv) id)
end
section
variable {g : Gc} {X : Cx} {tg iter elt : Expr} {mi : M (List T)} {m : T → M Unit} {tt : M Bool} {te : M T} {a1 e1 e2 e3 b1 : List Nat} {vs : List Nat} {pos : Pos}
theorem lc_r (d : ∀ j ∈ b1, j ∉ a1 ++ (e2 ++ e3)) (dv : ∀ j ∈ a1, j ∈ vs) (dh : ∀ j ∈ vs, j ∉ e2 ++ e3) (σ : L2.St) (H : Hp) (Q : VK) (h : TM g (mLc mi m tt te vs) (e1 ++ (e2 ++ e3)) [] σ H Q) : tLc (TIm g mi e1 b1) (TGm g m a1) (TMt g tt e2) (TM g te e3 []) vs σ H Q := by
  obtain ⟨S, Ts, A, t, Ts', R, q, k⟩ := h
  obtain ⟨items, Ts1, q1, q2⟩ := bnd_some q
  split at q2
  · rename_i hh
    have hh : ∀ i ∈ vs, hidOk (slot Ts1 i) = true := fun i hi => List.all_eq_true.mp hh i hi
    cases q3 : lcM m tt te vs items [] (wipeT Ts1 vs) with
    | none => rw [q3] at q2; cases q2
    | some pr =>
      obtain ⟨accF, TsF⟩ := pr
      rw [q3] at q2
      have q2 : some (T.nd (.lst true) accF, rest Ts1 TsF vs) = some (t, Ts') := q2
      injection q2 with q2
      injection q2 with h1 h2
      subst h1; subst h2
      refine ⟨S, Ts, A, items, Ts1, R, q1, fun J H1 S1 A1 R1 it p1 s1 Da hDa => ?_⟩
      obtain ⟨cs, cx, Ax, rc, oc, wk⟩ := it
      have ex0 := upd_ext (o := .lst []) hDa
      have fr := R1.fresh hDa
      have bkD : (∃ j, Da ∈ A j) ∨ noT (H Da) = none := by
        cases e : H Da with
        | none => exact .inr rfl
        | some ob =>
          by_cases hj : ∃ j, Da ∈ A j
          · exact .inl hj
          · exact .inr (e ▸ fix_back hDa e (p1.keep Da ob e fun i hi => hj ⟨i, hi⟩))
      refine lc_it wk (fun i H' => ∃ S' Tsi A' acc Aa, SR g S' H' (wipe σ vs) Tsi A' ∧ (∀ j ∈ vs, A' j = []) ∧ lcM m tt te vs (items.drop i) acc Tsi = some (accF, TsF) ∧ Po S1 H1 A1 S' H' A' ∧ Stb (vs ++ (e2 ++ e3)) H1 Ts1 A1 H' Tsi A' ∧ RpL g S' H' cs cx Ax ∧ Ow b1 H A S' A' Ax ∧ Rp g S' H' (.nd (.lst true) acc) (.ref Da) Aa ∧ Ow [] H A S' A' Aa ∧ (∀ a ∈ Ax, a ≠ Da))
        ⟨S1, wipeT Ts1 vs, A1, [], [Da], (R1.ext ex0).wiped vs hh, fun j hj => hid_nil R1 (hh j hj), q3, Po.ext ex0, ?_, rc.ext ex0, oc, ⟨Da, [], [], rfl, upd_same, rfl, .inl rfl, rfl, rfl⟩, ⟨?_, ?_, fun _ => List.nodup_cons.mpr ⟨(fun z => nomatch z), List.nodup_nil⟩, ?_⟩, ?_⟩ (fun i H' _ ⟨S', _, _, _, _, _, _, _, _, _, r, _⟩ => ⟨S', r⟩) ?_ ?_
      · exact fun j hj => ⟨wipeT_out vs Ts1 j fun z => hj (List.mem_append_left _ z), rfl, fun a _ o eo => ex0 a o eo⟩
      · intro a ha
        rw [List.mem_singleton.mp ha]; exact fr.1
      · intro i _ a ha
        rw [List.mem_singleton.mp ha]; exact fr.2 i
      · intro a ha
        rw [List.mem_singleton.mp ha]; exact bkD
      · intro a ha e
        subst e
        exact mut_ne (RpL.cells _ _ _ rc a ha) hDa
      · rintro i x H' H2 hi ⟨S', Tsi, A', acc, Aa, Ri, hv, qi, pi, si, ri, oi, ra, oa, nx⟩ ⟨ex, hy⟩
        obtain ⟨t, ht, rt⟩ := hy S' ri
        have ed : items.drop i = t :: items.drop (i + 1) := by
          obtain ⟨h1, h2⟩ := List.getElem?_eq_some_iff.mp ht
          rw [← h2]; exact List.drop_eq_getElem_cons h1
        rw [ed] at qi
        obtain ⟨_, Tsa, qa, qb⟩ := bnd_some qi
        obtain ⟨b, Tsb, qc, qd⟩ := bnd_some qb
        have Ri2 := Ri.ext ex
        refine ⟨S', Tsi, A', t, [], Tsa, Ri2, rt, List.nodup_nil, (fun _ h => nomatch h), qa, fun σ2 A2 hσ2 R2 n2 s2 => ?_⟩
        have ew : wipe σ2 vs = wipe σ vs := by
          have len2 : σ2.length = σ.length := by rw [hσ2.1, wipe_length]
          refine List.ext_getElem? fun j => ?_
          by_cases hj : j ∈ vs
          · by_cases hl : j < σ.length
            · rw [wipe_in (by omega) hj, wipe_in hl hj]
            · rw [List.getElem?_eq_none_iff.mpr (by rw [wipe_length]; omega), List.getElem?_eq_none_iff.mpr (by rw [wipe_length]; omega)]
          · rw [wipe_out hj, hσ2.2 j fun z => hj (dv j z)]
        have hAv : ∀ j ∈ vs, A2 j = [] := fun j hj => by
          cases e : A2 j with
          | nil => rfl
          | cons a l =>
            have ha : a ∈ A2 j := by rw [e]; exact List.mem_cons_self
            rcases n2 j a ha with ⟨j', hj'⟩ | h
            · have hjv : j' ∉ vs := fun z => by rw [hv j' z] at hj'; exact nomatch hj'
              have e2 := (s2 j' fun z => hjv (dv j' z)).2
              exact absurd (by rw [e2]; exact hj') (R2.dj j j' (by rintro rfl; exact hjv hj) a ha)
            · exact nomatch h
        have oi2 : Ow b1 H A S' A2 Ax := oi.bound (a1 := a1) R2 n2 (fun j hj => (s2 j hj).2) fun j hj z => d j hj (List.mem_append_left _ z)
        have oa2 : Ow [] H A S' A2 Aa := oa.bound (a1 := a1) R2 n2 (fun j hj => (s2 j hj).2) fun j hj => nomatch hj
        have pi2 : Po S1 H1 A1 S' H2 A2 := (pi.trans R1 (Po.ext ex)).bound (a1 := a1) n2
        have hcx : ∀ a ∈ Ax, Mut (H2 a) := RpL.cells _ _ _ (ri.ext ex)
        have hca : ∀ a ∈ Aa, Mut (H2 a) := Rp.cells _ _ _ (ra.ext ex)
        refine ⟨ew, S', Tsa, A2, b, Tsb, R2, qc, fun H3 S3 A3 R3 p3 s3 => ?_⟩
        have d2 : ∀ j ∈ b1, j ∉ e2 := fun j hj z => d j hj (List.mem_append_right _ (List.mem_append_left _ z))
        have d3 : ∀ j ∈ b1, j ∉ e3 := fun j hj z => d j hj (List.mem_append_right _ (List.mem_append_right _ z))
        have hA3 : ∀ j ∈ vs, A3 j = [] := fun j hj => ((s3 j fun z => dh j hj (List.mem_append_left _ z)).2.1).trans (hAv j hj)
        have ra3 := (ra.ext ex).held R2 oa2 p3 s3 (fun _ z => nomatch z)
        have oa3 := oa2.held R2 R3 hca p3 s3 (fun _ z => nomatch z)
        have ri3 := RpL.held R2 (ri.ext ex) oi2 p3 s3 d2
        have oi3 := oi2.held R2 R3 hcx p3 s3 d2
        have p4 := pi2.trans R1 p3
        have s4 : Stb (vs ++ (e2 ++ e3)) H1 Ts1 A1 H3 Tsb A3 := fun j hj => by
          have hjv : j ∉ vs := fun z => hj (List.mem_append_left _ z)
          obtain ⟨x1, x2, x3⟩ := si j hj
          obtain ⟨y1, y2⟩ := s2 j fun z => hjv (dv j z)
          obtain ⟨z1, z2, z3⟩ := s3 j fun z => hj (List.mem_append_right _ (List.mem_append_left _ z))
          exact ⟨z1.trans (y1.trans x1), z2.trans (y2.trans x2), fun a ha o eo => z3 a (by rw [y2, x2]; exact ha) o (ex a o (x3 a ha o eo))⟩
        cases b with
        | false =>
          refine iteF ⟨S3, wipeT Tsb vs, A3, acc, Aa, R3.turned ew hA3, hA3, qd, p4, fun j hj => ?_, ri3, oi3, ra3, oa3, nx⟩
          obtain ⟨x1, x2, x3⟩ := s4 j hj
          exact ⟨(wipeT_out vs Tsb j fun z => hj (List.mem_append_left _ z)).trans x1, x2, x3⟩
        | true =>
          obtain ⟨r, Tsc, qe, qf⟩ := bnd_some qd
          split at qf
          · rename_i hz
            refine iteT ⟨S3, Tsb, A3, r, Tsc, R3, qe, fun y H4 S4 A4 Ay R4 ry oy p5 s5 => ?_⟩
            have hca3 : ∀ a ∈ Aa, Mut (H3 a) := Rp.cells _ _ _ ra3
            have ra4 := ra3.held R3 oa3 p5 s5 (fun _ z => nomatch z)
            have oa4 := oa3.held R3 R4 hca3 p5 s5 (fun _ z => nomatch z)
            have ri4 := RpL.held R3 ri3 oi3 p5 s5 d3
            have oi4 := oi3.held R3 R4 (RpL.cells _ _ _ ri3) p5 s5 d3
            have oap := Ow.app (p1.trans R p4) hca3 oa3 oa4 oy
            obtain ⟨a, accV, B, e1, at_, eA, _, rl⟩ := ra4
            injection e1 with e1
            subst e1
            have at_ : H4 Da = some (.lst accV) := at_
            have eA : Aa = Da :: B := eA
            subst eA
            have ndp : (Da :: B ++ Ay).Nodup := oap.nd rfl
            obtain ⟨n1, n2'⟩ := List.nodup_cons.mp ndp
            have nDB : Da ∉ B := fun z => n1 (List.mem_append_left _ z)
            have nDy : Da ∉ Ay := fun z => n1 (List.mem_append_right _ z)
            have nS : ¬ S4 Da := oa4.ns Da List.mem_cons_self
            have nA : ∀ i, Da ∉ A4 i := fun i => oa4.dj i (fun z => nomatch z) Da List.mem_cons_self
            refine ⟨accV, at_, by rw [← RpL.length _ _ _ rl]; exact hz, ?_⟩
            have hA4 : ∀ j ∈ vs, A4 j = [] := fun j hj => ((s5 j fun z => dh j hj (List.mem_append_right _ z)).2.1).trans (hA3 j hj)
            have Rg := R4.grow (o' := .lst (accV ++ [y])) at_ trivial nA nS
            have ry2 : RpL g S4 (upd H4 Da (.lst (accV ++ [y]))) [r] [y] Ay := RpL.grown (RpL.one ry) at_ trivial nS nDy
            have rl2 := RpL.grown (o := .lst (accV ++ [y])) rl at_ trivial nS nDB
            refine ⟨S4, wipeT Tsc vs, A4, acc ++ [r], Da :: (B ++ Ay), Rg.turned ew hA4, hA4, qf, (p4.trans R1 p5).grown hDa, fun j hj => ?_, RpL.grown ri4 at_ trivial nS fun z => nx Da z rfl, oi4, ⟨Da, accV ++ [y], B ++ Ay, rfl, upd_same, rfl, .inl rfl, RpL.append _ _ _ _ _ _ rl2 ry2⟩, oap, nx⟩
            have sg := (s4.trans s5).grown (o := .lst (accV ++ [y])) hDa j fun z => hj ((List.mem_append.mp z).elim id fun z => List.mem_append_right _ (List.mem_append_right _ z))
            obtain ⟨x1, x2, x3⟩ := sg
            exact ⟨(wipeT_out vs Tsc j fun z => hj (List.mem_append_left _ z)).trans x1, x2, x3⟩
          · cases qf
      · rintro H' ⟨S', Tsi, A', acc, Aa, Ri, hv, qi, pi, si, ri, oi, ra, oa, nx⟩
        rw [List.drop_length] at qi
        have qi : some (acc, Tsi) = some (accF, TsF) := qi
        injection qi with qi
        injection qi with h1 h2
        subst h1; subst h2
        refine k (.ref Da) H' S' A' Aa (R1.rested pi Ri hh hv) ra oa (p1.trans R pi) fun j hj => ?_
        obtain ⟨x1, x2, x3⟩ := s1 j fun z => hj (List.mem_append_left _ z)
        by_cases hjv : j ∈ vs
        · have hl : Ts1.length = Tsi.length := by rw [R1.len, Ri.len, wipe_length]
          refine ⟨(rest_in vs Tsi j hjv hl).trans x1, ?_, fun a ha o eo => ?_⟩
          · rw [hv j hjv, ← x2, hid_nil R1 (hh j hjv)]
          · rw [← x2, hid_nil R1 (hh j hjv)] at ha
            exact nomatch ha
        · obtain ⟨y1, y2, y3⟩ := si j fun z => (List.mem_append.mp z).elim hjv fun z => hj (List.mem_append_right _ z)
          exact ⟨(rest_out vs Tsi j hjv).trans (y1.trans x1), y2.trans x2, fun a ha o eo => y3 a (by rw [x2]; exact ha) o (x3 a ha o eo)⟩
  · cases q2
end
end MI
namespace MI
open PySem PySem.Spec PyProof.Rows L2
def PTsm (g : Gc) (X : Cx) (ifs : List Expr) (f : M Bool) (eff : List Nat) : Prop := PTs X ifs (TMt g f eff)
section
variable {g : Gc} {X : Cx} {tg iter elt c : Expr} {ifs : List Expr} {mi : M (List T)} {m : T → M Unit} {tt : M Bool} {te : M T} {a1 e1 e2 e3 b1 : List Nat} {vs : List Nat} {pos spos py : Pos}
theorem tmts_nil : PTsm g X [] (ret true) [] := ⟨fun pins s σ H Q I h => pts_nil.run pins s σ H Q I (tmt_ret h)⟩
theorem tm_lc {scope : Scope} {own : List (Str × Nat)} (hc : X.calm = true) (hN : X.N.Nodup) (hi : PIm g X tg iter mi e1 b1) (ok : BlkOk X.N X.env.scope scope own)
    (hg : ∀ (s : Shared) (H : Hp) (C : Addr) (cl : List (Str × Addr)) (fp : List Addr), PGm g (X.blk s H scope (compEnvC scope cl C X.env) fp) tg m a1) (ht : ∀ (s : Shared) (H : Hp) (C : Addr) (cl : List (Str × Addr)) (fp : List Addr), PTsm g (X.blk s H scope (compEnvC scope cl C X.env) fp) ifs tt e2)
    (he : ∀ (s : Shared) (H : Hp) (C : Addr) (cl : List (Str × Addr)) (fp : List Addr), PEm g (X.blk s H scope (compEnvC scope cl C X.env) fp) elt te e3 [])
    (d : ∀ j ∈ b1, j ∉ a1 ++ (e2 ++ e3) := by decide) (dv : ∀ j ∈ a1, j ∈ own.map (·.2) := by decide) (dh : ∀ j ∈ own.map (·.2), j ∉ e2 ++ e3 := by decide) (hs : ∀ x, foldedSetIterable iter X.env x = pure x := by intro _; rfl) :
    PEm g X (.ListComp elt [⟨tg, iter, ifs, 0⟩] scope pos) (mLc mi m tt te (own.map (·.2))) (e1 ++ (e2 ++ e3)) [] := PE.imp (pe_lc hc hN hi ok hg ht he hs) (lc_r d dv dh)
theorem ts_setLc {i : Nat} {y : Str} {scope : Scope} {own : List (Str × Nat)} (hc : X.calm = true) (hN : X.N.Nodup) (hy : X.N[i]? = some y) (hyl : X.env.scope.names.lookup y = some .local)
    (hsw : swapsWith (.ListComp elt [⟨tg, iter, ifs, 0⟩] scope pos) (some (.Name y py)) spos.line X.env = pure true) (hi : PIm g X tg iter mi e1 b1) (ok : BlkOk X.N X.env.scope scope own)
    (hg : ∀ (s : Shared) (H : Hp) (C : Addr) (cl : List (Str × Addr)) (fp : List Addr), PGm g (X.blk s H scope (compEnvC scope cl C X.env) fp) tg m a1) (ht : ∀ (s : Shared) (H : Hp) (C : Addr) (cl : List (Str × Addr)) (fp : List Addr), PTsm g (X.blk s H scope (compEnvC scope cl C X.env) fp) ifs tt e2)
    (he : ∀ (s : Shared) (H : Hp) (C : Addr) (cl : List (Str × Addr)) (fp : List Addr), PEm g (X.blk s H scope (compEnvC scope cl C X.env) fp) elt te e3 [])
    (d : ∀ j ∈ b1, j ∉ a1 ++ (e2 ++ e3) := by decide) (dv : ∀ j ∈ a1, j ∈ own.map (·.2) := by decide) (dh : ∀ j ∈ own.map (·.2), j ∉ e2 ++ e3 := by decide) (hs : ∀ x, foldedSetIterable iter X.env x = pure x := by intro _; rfl) :
    PSm g X (.Assign [.Name y py] (.ListComp elt [⟨tg, iter, ifs, 0⟩] scope pos) spos) (mSet i (mLc mi m tt te (own.map (·.2)))) [i] ((e1 ++ (e2 ++ e3)) ++ [i]) :=
  ts_set (PS.imp (ps_setLc hc hN hy hyl hsw hi ok hg ht he hs) fun D σ H h => lc_r d dv dh σ H _ h)
end
theorem PI.or {X : Cx} {tg e : Expr} {t t' : TI} (h : PI X tg e t) (h' : PI X tg e t') : PI X tg e (fun σ H R => t σ H R ∨ t' σ H R) := ⟨fun pins s σ H R I q => q.elim (h.run pins s σ H R I) (h'.run pins s σ H R I)⟩
def mIter (fa : M T) : M (List T) := bnd fa fun t => lft (kidsI t)
theorem RpL.atI {g : Gc} {S : Addr → Prop} {H : Hp} {ts : List T} {xs : List V} (r : RpL g S H ts xs []) {i : Nat} {x : V} (hx : xs[i]? = some x) : ∃ t, ts[i]? = some t ∧ Rp g S H t x [] := by
  have hl := RpL.length _ _ _ r
  have hi : i < ts.length := by rw [hl]; exact (List.getElem?_eq_some_iff.mp hx).1
  obtain ⟨y, B, h1, h2, h3⟩ := RpL.at _ _ _ r i ts[i] (by simp [hi])
  rw [hx] at h1
  injection h1 with h1
  subst h1
  have e := List.sublist_nil.mp h3
  subst e
  exact ⟨_, by simp [hi], h2⟩
theorem At.sqAny {g : Gc} {S : Addr → Prop} {H : Hp} {k : Kd} {a : Addr} {xs : List V} (hk : k = .scr ∨ ∃ o, k = .lst o) (h : At g S H k a xs) : SqL g.K H a xs := by
  rcases hk with rfl | ⟨o, rfl⟩
  · exact h.sqS
  · exact h.sqL
section
variable {g : Gc} {X : Cx} {tg e e' : Expr} {es : List Expr} {fa fb : M T} {fs : M (List T)} {e1 e2 b1 b2 : List Nat} {pos p2 : Pos}
theorem kidsI_tup {t : T} {ks : List T} (h : kidsI t = some ks) : immL ks = true ∧ (t = .nd .tup ks ∨ ∃ k, t = .nd k ks ∧ (k = .scr ∨ ∃ o, k = .lst o)) := by
  unfold kidsI at h
  cases t with
  | nd k ts =>
    cases k with
    | tup =>
      have h : (if immL ts then some ts else none) = some ks := h
      split at h
      · rename_i hi
        injection h with h
        subst h
        exact ⟨hi, .inl rfl⟩
      · cases h
    | lst o =>
      have h : (if immL ts then some ts else none) = some ks := h
      split at h
      · rename_i hi
        injection h with h
        subst h
        exact ⟨hi, .inr ⟨_, rfl, .inr ⟨o, rfl⟩⟩⟩
      · cases h
    | scr =>
      have h : (if immL ts then some ts else none) = some ks := h
      split at h
      · rename_i hi
        injection h with h
        subst h
        exact ⟨hi, .inr ⟨_, rfl, .inl rfl⟩⟩
      · cases h
    | dK o ks => cases h
    | dT o ks => cases h
    | ins o c fs => cases h
  | dead => cases h
  | non => cases h
  | bl b => cases h
  | int b => cases h
  | str b => cases h
theorem it_seq (hK : g.K = X.K) (ha : PEm g X e fa e1 b1) : PIm g X tg e (mIter fa) e1 b1 :=
  PI.imp (PI.or (pi_list ha) (pi_tup ha)) fun σ H Rr ⟨S, Ts, A, items, Ts', R, q, k⟩ => by
    obtain ⟨t, Ts1, q1, q2⟩ := bnd_some q
    obtain ⟨q3, q4⟩ := lft_some q2
    subst q4
    obtain ⟨hi, et⟩ := kidsI_tup q3
    rcases et with et | ⟨kk, et, hkk⟩
    · subst et
      refine .inr ⟨S, Ts, A, _, Ts', R, q1, fun x H1 S1 A1 Ax R1 rx ox p s => ?_⟩
      obtain ⟨a, xs, B, ex, at_, eA, _, rl⟩ := id rx
      have at_ : SqT g.K H1 a xs := At.sqT at_
      rw [hK] at at_
      refine ⟨a, ex, ⟨xs, at_⟩, k _ H1 S1 A1 R1 ⟨[.nd .tup items], [x], Ax, RpL.one rx, ox, ?_⟩ p s⟩
      subst ex
      have hl := RpL.length _ _ _ rl
      have en := RpL.imm_nil _ _ _ rl hi
      have look : ∀ H2, (∃ S2, RpL g S2 H2 [.nd .tup items] [.ref a] Ax) → ∃ ys, SqT X.K H2 a ys ∧ ys.length = items.length := fun H2 ⟨S2, y, ys, A1, A2, e1, _, r1, _⟩ => by
        injection e1 with e1 _
        subst e1
        obtain ⟨a', zs, B', ex', at', _, _, rl'⟩ := r1
        injection ex' with ex'
        subst ex'
        exact ⟨zs, hK ▸ At.sqT at', (RpL.length _ _ _ rl').symm⟩
      refine ⟨fun i H2 hlt hG => ?_, fun H2 hG => ?_, fun i H2 x H3 hlt hG y => ⟨by rw [y.1]; exact Ext.refl, fun S2 r2 => ?_⟩⟩
      · obtain ⟨ys, h1, h2⟩ := look H2 hG
        exact ⟨ys, ys[i], h1, by simp [h2, hlt]⟩
      · obtain ⟨ys, h1, h2⟩ := look H2 hG
        exact ⟨ys, h1, Nat.le_of_eq h2⟩
      · obtain ⟨y0, ys, A1', A2', e1', _, r1, _⟩ := r2
        injection e1' with e1' _
        subst e1'
        obtain ⟨a', zs, B', ex', at', _, _, rl'⟩ := r1
        injection ex' with ex'
        subst ex'
        have rn := rl'.imm_one hi
        have at' : SqT g.K H2 a zs := At.sqT at'
        obtain ⟨t, h1, h2⟩ := RpL.atI rn (y.2 zs (hK ▸ at'))
        exact ⟨t, h1, by rw [y.1]; exact h2⟩
    · subst et
      refine .inl ⟨S, Ts, A, _, Ts', R, q1, fun x H1 S1 A1 Ax R1 rx ox p s => ?_⟩
      obtain ⟨a, xs, B, ex, at_, eA, _, rl⟩ := id rx
      have sq := At.sqAny hkk at_
      rw [hK] at sq
      refine ⟨a, ex, ⟨xs, sq⟩, k _ H1 S1 A1 R1 ⟨[.nd kk items], [x], Ax, RpL.one rx, ox, ?_⟩ p s⟩
      subst ex
      have look : ∀ H2, (∃ S2, RpL g S2 H2 [.nd kk items] [.ref a] Ax) → ∃ ys, SqL X.K H2 a ys ∧ ys.length = items.length := fun H2 ⟨S2, y, ys, A1, A2, e1, _, r1, _⟩ => by
        injection e1 with e1 _
        subst e1
        obtain ⟨a', zs, B', ex', at', _, _, rl'⟩ := r1
        injection ex' with ex'
        subst ex'
        exact ⟨zs, hK ▸ At.sqAny hkk at', (RpL.length _ _ _ rl').symm⟩
      refine ⟨fun i H2 hlt hG => ?_, fun H2 hG => ?_, fun i H2 x H3 hlt hG y => ⟨by rw [y.1]; exact Ext.refl, fun S2 r2 => ?_⟩⟩
      · obtain ⟨ys, h1, h2⟩ := look H2 hG
        exact ⟨ys, ys[i], h1, by simp [h2, hlt]⟩
      · obtain ⟨ys, h1, h2⟩ := look H2 hG
        exact ⟨ys, h1, Nat.le_of_eq h2⟩
      · obtain ⟨y0, ys, A1', A2', e1', _, r1, _⟩ := r2
        injection e1' with e1' _
        subst e1'
        obtain ⟨a', zs, B', ex', at', _, _, rl'⟩ := r1
        injection ex' with ex'
        subst ex'
        have rn := rl'.imm_one hi
        obtain ⟨t, h1, h2⟩ := RpL.atI rn (y.2 zs (hK ▸ At.sqAny hkk at'))
        exact ⟨t, h1, by rw [y.1]; exact h2⟩
def rangeT (lo hi : Int) : List T := (List.range (hi - lo).toNat).map fun i => .int (lo + (i : Nat))
def rng1 : List T → Option (List T)
  | [.int n] => if -(2 ^ 62) ≤ n ∧ n < 2 ^ 62 then some (rangeT 0 n) else none
  | _ => none
def mRng (f : List T → Option (List T)) (fs : M (List T)) : M (List T) := bnd fs fun ts => lft (f ts)
theorem rangeT_len (lo hi : Int) : (rangeT lo hi).length = (hi - lo).toNat := by unfold rangeT; rw [List.length_map, List.length_range]
theorem it_rng_ok {S : Addr → Prop} {H H1 : Hp} {A A1 : Nat → List Addr} {S1 : Addr → Prop} {lo hi : Int} {n : Nat} (hn : n = (hi - lo).toNat) : ItOk g [] H A S1 H1 A1 (Itr lo n) (rangeT lo hi) := by
  refine ⟨[], [], [], ⟨rfl, rfl⟩, Ow.nil, fun i H2 hlt _ => ?_, fun H2 _ => ?_, fun i H2 x H3 hlt _ y => ⟨by rw [y.1]; exact Ext.refl, fun S2 _ => ⟨.int (lo + i), ?_, y.2, rfl⟩⟩⟩
  · rw [rangeT_len, ← hn] at hlt; exact hlt
  · show n ≤ (rangeT lo hi).length
    rw [rangeT_len, ← hn]; exact Nat.le_refl _
  · rw [rangeT_len] at hlt
    unfold rangeT
    rw [List.getElem?_map, List.getElem?_range hlt]; rfl
theorem it_range1 (hg : Gl X "range") (hm : X.mg "range" = none) (ha : PAm g X [e] fs e1 b1) (hs : starEach [e] X.env = [(false, eval e X.env)] := by rfl) : PIm g X tg (.Call (.Name "range" p2) [e] [] pos) (mRng rng1 fs) e1 [] :=
  PI.imp (pi_range1 hg hm ha hs) fun σ H Rr ⟨S, Ts, A, items, Ts', R, q, k⟩ => by
    obtain ⟨ts, Ts1, q1, q2⟩ := bnd_some q
    obtain ⟨q3, q4⟩ := lft_some q2
    subst q4
    refine ⟨S, Ts, A, ts, Ts', R, q1, fun xs H1 S1 A1 Ax R1 rx ox p s => ?_⟩
    unfold rng1 at q3
    split at q3
    · split at q3
      · rename_i h
        injection q3 with q3
        subst q3
        obtain ⟨y, ys, B1, B2, e1', _, r1, r2⟩ := rx
        rw [r1.1, r2.1] at e1'
        exact ⟨_, e1', h.1, h.2, k _ H1 S1 A1 R1 (it_rng_ok (S := S) (by omega)) p s⟩
      · cases q3
    · cases q3
def signsT (x : Str) : List T := x.cps.toList.map fun c => .str ⟨#[c]⟩
def mSigns (fa : M T) : M (List T) := bnd fa fun t => lft (match t with
  | .str x => some (signsT x)
  | _ => none)
theorem it_str (ha : PEm g X e fa e1 b1) : PIm g X tg e (mSigns fa) e1 [] :=
  PI.imp (pi_str ha) fun σ H Rr ⟨S, Ts, A, items, Ts', R, q, k⟩ => by
    obtain ⟨t, Ts1, q1, q2⟩ := bnd_some q
    obtain ⟨q3, q4⟩ := lft_some q2
    subst q4
    refine ⟨S, Ts, A, t, Ts', R, q1, fun x H1 S1 A1 Ax R1 rx ox p s => ?_⟩
    cases t with
    | str z =>
      injection q3 with q3
      subst q3
      have hz : (signsT z).length = z.cps.size := by unfold signsT; simp
      refine ⟨z, rx.1, k _ H1 S1 A1 R1 ⟨[], [], [], ⟨rfl, rfl⟩, Ow.nil, fun i H2 hlt _ => ?_, fun H2 _ => ?_, fun i H2 x H3 hlt _ y => ⟨by rw [y.1]; exact Ext.refl, fun S2 _ => ?_⟩⟩ p s⟩
      · rw [hz] at hlt; exact hlt
      · show z.cps.size ≤ (signsT z).length
        rw [hz]; exact Nat.le_refl _
      · obtain ⟨c, h1, h2⟩ := y.2
        refine ⟨.str ⟨#[c]⟩, ?_, h2, rfl⟩
        unfold signsT
        rw [List.getElem?_map, Array.getElem?_toList, h1]; rfl
    | _ => cases q3
end
end MI
namespace MI
open PySem PySem.Spec PyProof.Rows L2
abbrev tupIt (l : Addr) : Obj := { cls := .type "tuple_iterator", data := .fields #[.ref l, .int 0 0] }
abbrev enumO (it : Addr) : Obj := { cls := .type "enumerate", data := .fields #[.none, .bool false, .ref it, rawInt 0, .none, .none] }
theorem enum_new {v : Value} {o : Obj} {G : Heap → Prop} (B : Begins v o G) : Meets (Builtin.«enumerate.__new__» ⟨[.type "enumerate", v], []⟩) (fun _ R s => G s.heap ∧ R (.ok (.ret (.ref (s.heap.push o).objs.size))) { s with heap := (s.heap.push o).push (enumO s.heap.objs.size) }) :=
  .of_wp fun prog w A R s ⟨g, r⟩ => by
    obtain ⟨hp, gs, dr, tk, os⟩ := s
    have sub := sub_enumerate
    have begin_ : ∀ {A' : Around} {E : Value → Shared → Prop} {Q : Value → Shared → Prop}, Q (.ref hp.objs.size) ⟨hp.push o, gs, dr, tk, os⟩ → wpAny (model prog w) A' (pyIter v) Q E ⟨hp, gs, dr, tk, os⟩ := fun q => B.iter prog w _ _ _ _ g q
    wp_walk using begin_
    refine wpAny_stack_any fun st => wpAny_pure ?_
    split
    · rename_i c _ _ _ _ _
      cases (c == Value.type "enumerate") <;> (wp_walk using begin_; exact ⟨_, rfl, r⟩)
    · wp_walk using begin_
      exact ⟨_, rfl, r⟩
def IteT (K : PySem.W.Frag) (a : Addr) : It where
  go i H := ∃ (xs : List V) (x : V), SqT K H a xs ∧ xs[i]? = some x
  yld i H v H' := ∃ T x, v = .ref T ∧ H T = none ∧ H' = upd H T (.tup [.int (i : Nat), x]) ∧ ∀ xs, SqT K H a xs → xs[i]? = some x
  stop i H := ∃ xs : List V, SqT K H a xs ∧ xs.length = i
def EnAt (a e it : Addr) (i : Nat) (h : Heap) : Prop := (∃ old, IsEnum h e it (0 + (i : Int)) old) ∧ h.IsTupleIter it a i
section
variable {P : Program} {w : World} {K : PySem.W.Frag} {elts : List Expr} {kk : Nat} {tpos : Pos} {a e it : Addr}
theorem EnAt.lt {i : Nat} {h : Heap} (x : EnAt a e it i h) : ∀ b ∈ [e, it], b < h.objs.size := fun b hb => by
  obtain ⟨⟨_, g⟩, _, g', _⟩ := x
  rcases List.mem_cons.mp hb with rfl | hb
  · exact Heap.lt_size g
  · rw [List.mem_singleton.mp hb]; exact Heap.lt_size g'
theorem turn_enumT (ne : e ≠ it) (na : a ≠ it) (nb : a ≠ e) : Turn P w K (.Tuple elts kk tpos) (IteT K a) [e, it] e (EnAt a e it) where
  mem := List.mem_cons_self
  obj i h x b hb := by
    obtain ⟨⟨_, g⟩, o, g', _, d⟩ := x
    rcases List.mem_cons.mp hb with rfl | hb
    · exact ⟨_, g, fun _ z => nomatch z⟩
    · rw [List.mem_singleton.mp hb]; exact ⟨o, g', fun _ z => by rw [d] at z; cases z⟩
  keep i h h' x k := ⟨x.1.imp fun _ g => k e (by simp) _ g, x.2.at fun o g => k it (by simp) o g⟩
  self A i s Q E x q := x.1.elim fun _ g => wpAny_pyIter_enum g q
  item X eP ew eK calm i pins s σ H E I foot x go := by
    subst eP; subst ew; subst eK
    obtain ⟨xs, y, sq, at_⟩ := go
    obtain ⟨its, rel, tup, _⟩ := I.tuple sq
    obtain ⟨u, at_u, rel_u⟩ := rel.get at_
    have W := WalksT.enumFrom (prog := X.prog) (w := X.w) (A := X.A) 0 (Draws.tuple (A := X.A.in1) (I.ok.hd calm) it a na its.toArray) e ne (by simp [ne, nb.symm]) (by simp)
    refine W.item i s _ _ (by simpa using (List.getElem?_eq_some_iff.mp at_u).1) ⟨x.1, x.2, tup⟩ fun T vals h' tk has fresh isT mid same => ⟨.ref T, rfl, W.go elts kk tpos i T { s with heap := h', toks := tk } _ _ mid fun h2 x2 same2 => ?_⟩
    obtain ⟨t, v, at_v, rfl⟩ := has
    have ev : v = u := Option.some.inj (at_v.symm.trans (by simpa using at_u))
    subst ev
    have isT2 := isT.at fun o g => same2 T o (W.apart i T h' mid) g
    have new : ObjOk X.prog X.w (upd H T (.tup [.int (i : Nat), y])) h2 T (.tup [.int (i : Nat), y]) := ⟨by show 2 ≤ sizeLine; decide, [.int (0 + (i : Int)) t, v], .cons ⟨t, by simp⟩ (.cons rel_u .nil), isT2⟩
    refine ⟨.ref T, _, I.turnedNew (t' := tk) (ch := [e, it]) (fun b o nb g => same2 b o nb (same b o nb g)) foot fresh new, rfl, ⟨T, y, rfl, I.hok.fresh fresh, rfl, fun ys sq' => by rw [I.tuple_inj sq' sq]; exact at_⟩, ⟨x2.1, x2.2.1⟩, fun b hb => ?_⟩
    rw [upd_ne (Nat.ne_of_lt (Nat.lt_of_lt_of_le (x.lt b hb) fresh))]
    exact (foot b hb).1
  done X eP ew eK calm i pins s σ H E I foot x stop := by
    subst eP; subst ew; subst eK
    obtain ⟨xs, sq, rfl⟩ := stop
    obtain ⟨its, rel, tup, _⟩ := I.tuple sq
    have W := WalksT.enumFrom (prog := X.prog) (w := X.w) (A := X.A) 0 (Draws.tuple (A := X.A.in1) (I.ok.hd calm) it a na its.toArray) e ne (by simp [ne, nb.symm]) (by simp)
    have len : xs.length = its.toArray.size := by rw [List.size_toArray]; exact rel.length
    rw [len] at x
    exact W.done s _ _ ⟨x.1, x.2, tup⟩ fun h' tk same => ⟨rfl, I.turnedL (t' := tk) same foot⟩
end
def iEnumT (K : PySem.W.Frag) (ta : TA) : TI := fun σ H R => ta σ H fun vs H1 => ∃ a xs, vs = [.ref a] ∧ SqT K H1 a xs ∧ R (IteT K a) H1
theorem pi_enumT {X : Cx} {e : Expr} {ta : TA} {p pos tpos : Pos} {elts : List Expr} {kk : Nat} (hg : Gl X "enumerate") (hm : X.mg "enumerate" = none) (ha : PA X [e] ta) (hs : starEach [e] X.env = [(false, eval e X.env)] := by rfl) :
    PI X (.Tuple elts kk tpos) (.Call (.Name "enumerate" p) [e] [] pos) (iEnumT X.K ta) where
  run pins s σ H R I h := Call_ (ld_blt I hg hm boot_enumerate (PyProof.Rows.callWith_type1 (thn (ha.run pos pins s σ H _ I h) fun us s1 b => by
    obtain ⟨vs, H1, J, rel, a, xs, rfl, sq, q⟩ := b
    obtain ⟨u, rfl, eu⟩ := vals1 rel
    have eu : u = Value.ref a := eu
    subst eu
    obtain ⟨its, _, tup, _⟩ := J.tuple sq
    have la : a < s1.heap.objs.size := tup.elim fun _ r => Heap.lt_size r.1
    have sz : (s1.heap.push (tupIt a)).objs.size = s1.heap.objs.size + 1 := Heap.size_push ..
    have all : ∀ b o, s1.heap.get? b = some o → ((s1.heap.push (tupIt a)).push (enumO s1.heap.objs.size)).get? b = some o := fun b o g => Heap.get?_push_of_some _ (Heap.get?_push_of_some _ g)
    have isE : ((s1.heap.push (tupIt a)).push (enumO s1.heap.objs.size)).get? (s1.heap.objs.size + 1) = some (enumO s1.heap.objs.size) := by rw [← sz]; exact Heap.get?_push_size _ rfl
    refine callType_new F.called_enumerate (by decide) (F.typeCall_enumerate_1 _) (F.newCall_enumerate_1 _) (fun obj => F.args_object_init_2 obj _) F.entry_enumerate_new (enum_new (begins_tuple a its.toArray)) ⟨tup, ?_⟩
    show _ ∧ _
    rw [sz]
    refine ⟨⟨_, isE, rfl⟩, wpAny_pyIter_enum (e := s1.heap.objs.size + 1) isE ⟨s1.heap.objs.size + 1, [s1.heap.objs.size + 1, s1.heap.objs.size], EnAt a (s1.heap.objs.size + 1) s1.heap.objs.size, IteT X.K a, H1, rfl, J.kept (t' := s1.toks) all, turn_enumT (Nat.succ_ne_self _) (Nat.ne_of_lt la) (Nat.ne_of_lt (Nat.lt_succ_of_lt la)), ⟨⟨.none, isE⟩, _, Heap.get?_push_of_some _ (Heap.get?_push_size _ rfl), rfl, rfl⟩, fun b hb => ?_, q⟩⟩
    have le : s1.heap.objs.size ≤ b := by
      rcases List.mem_cons.mp hb with rfl | hb
      · exact Nat.le_add_right _ 1
      · rw [List.mem_singleton.mp hb]; exact Nat.le.refl
    exact J.fpOk le (J.hok.fresh le)) hs rfl))
def enumT (ks : List T) : List T := ks.mapIdx fun i t => .nd .tup [.int (i : Nat), t]
def enumF : List T → Option (List T)
  | [t] => (kidsI t).map enumT
  | _ => none
section
variable {g : Gc} {X : Cx} {e e' : Expr} {fs : M (List T)} {e1 b1 : List Nat} {pos p2 tpos : Pos} {elts : List Expr} {kk : Nat}
theorem pair_rep {S : Addr → Prop} {H2 H3 : Hp} {p : Addr} {x y : V} {s t : T} (hp : H2 p = none) (eH : H3 = upd H2 p (.tup [x, y])) (rx : Rp g S H2 s x []) (ry : Rp g S H2 t y []) : Ext H2 H3 ∧ Rp g S H3 (.nd .tup [s, t]) (.ref p) [] := by
  subst eH
  have ex := upd_ext (o := .tup [x, y]) hp
  exact ⟨ex, p, [x, y], [], rfl, .inl upd_same, rfl, .inr (.inr rfl), x, [y], [], [], rfl, rfl, rx.ext ex, y, [], [], [], rfl, rfl, ry.ext ex, rfl, rfl⟩
theorem it_enum (hK : g.K = X.K) (hg : Gl X "enumerate") (hm : X.mg "enumerate" = none) (ha : PAm g X [e] fs e1 b1) (hs : starEach [e] X.env = [(false, eval e X.env)] := by rfl) : PIm g X (.Tuple elts kk tpos) (.Call (.Name "enumerate" p2) [e] [] pos) (mRng enumF fs) e1 b1 :=
  PI.imp (PI.or (pi_enum hg hm ha hs) (pi_enumT hg hm ha hs)) fun σ H Rr ⟨S, Ts, A, items, Ts', R, q, k⟩ => by
    obtain ⟨ts, Ts1, q1, q2⟩ := bnd_some q
    obtain ⟨q3, q4⟩ := lft_some q2
    subst q4
    unfold enumF at q3
    split at q3
    · rename_i t
      cases hk : kidsI t with
      | none => rw [hk] at q3; cases q3
      | some ks =>
        rw [hk] at q3
        have q3 : enumT ks = items := by injection q3
        subst q3
        have hlen : (enumT ks).length = ks.length := by unfold enumT; simp
        have hget : ∀ (i : Nat) (u : T), ks[i]? = some u → (enumT ks)[i]? = some (.nd .tup [.int (i : Nat), u]) := fun i u h => by unfold enumT; rw [List.getElem?_mapIdx, h]; rfl
        obtain ⟨hi, et⟩ := kidsI_tup hk
        rcases et with et | ⟨kk', et, hkk⟩
        · subst et
          refine .inr ⟨S, Ts, A, _, Ts', R, q1, fun xs H1 S1 A1 Ax R1 rx ox p s => ?_⟩
          obtain ⟨y, ys, B1, B2, ey, eB, r1, r2⟩ := id rx
          obtain ⟨a, zs, B, ex, at_, eA, _, rl⟩ := r1
          have at_ : SqT g.K H1 a zs := At.sqT at_
          rw [hK] at at_
          have exs : xs = [.ref a] := by rw [ey, ex, r2.1]
          refine ⟨a, zs, exs, at_, k _ H1 S1 A1 R1 ⟨[.nd .tup ks], xs, Ax, rx, ox, ?_⟩ p s⟩
          subst exs
          have look : ∀ H2 S2, RpL g S2 H2 [.nd .tup ks] [.ref a] Ax → ∃ ys, SqT X.K H2 a ys ∧ ys.length = ks.length ∧ RpL g S2 H2 ks ys [] := fun H2 S2 ⟨y, ys, A1, A2, e1, _, r1, _⟩ => by
            injection e1 with e1 _
            subst e1
            obtain ⟨a', zs, B', ex', at', _, _, rl'⟩ := r1
            injection ex' with ex'
            subst ex'
            exact ⟨zs, hK ▸ At.sqT at', (RpL.length _ _ _ rl').symm, rl'.imm_one hi⟩
          refine ⟨fun i H2 hlt ⟨S2, hG⟩ => ?_, fun H2 ⟨S2, hG⟩ => ?_, fun i H2 x H3 hlt ⟨S2, hG⟩ yd => ?_⟩
          · obtain ⟨ys, h1, h2, _⟩ := look H2 S2 hG
            exact ⟨ys, ys[i]'(by rw [h2, ← hlen]; exact hlt), h1, by simp⟩
          · obtain ⟨ys, h1, h2, _⟩ := look H2 S2 hG
            exact ⟨ys, h1, h2.trans hlen.symm⟩
          · obtain ⟨T, z, ex, hT, eH, hz⟩ := yd
            subst ex
            obtain ⟨ys, h1, h2, h3⟩ := look H2 S2 hG
            refine ⟨by rw [eH]; exact upd_ext hT, fun S3 hG3 => ?_⟩
            obtain ⟨ys', h1', h2', h3'⟩ := look H2 S3 hG3
            obtain ⟨u, hu, ru⟩ := RpL.atI h3' (hz ys' h1')
            exact ⟨_, hget i u hu, (pair_rep (s := .int (i : Nat)) hT eH ⟨rfl, rfl⟩ ru).2⟩
        · subst et
          refine .inl ⟨S, Ts, A, _, Ts', R, q1, fun xs H1 S1 A1 Ax R1 rx ox p s => ?_⟩
          obtain ⟨y, ys, B1, B2, ey, eB, r1, r2⟩ := id rx
          obtain ⟨a, zs, B, ex, at_, eA, _, rl⟩ := r1
          have at_ := At.sqAny hkk at_
          rw [hK] at at_
          have exs : xs = [.ref a] := by rw [ey, ex, r2.1]
          refine ⟨a, zs, exs, at_, k _ H1 S1 A1 R1 ⟨[.nd kk' ks], xs, Ax, rx, ox, ?_⟩ p s⟩
          subst exs
          have look : ∀ H2 S2, RpL g S2 H2 [.nd kk' ks] [.ref a] Ax → ∃ ys, SqL X.K H2 a ys ∧ ys.length = ks.length ∧ RpL g S2 H2 ks ys [] := fun H2 S2 ⟨y, ys, A1, A2, e1, _, r1, _⟩ => by
            injection e1 with e1 _
            subst e1
            obtain ⟨a', zs, B', ex', at', _, _, rl'⟩ := r1
            injection ex' with ex'
            subst ex'
            exact ⟨zs, hK ▸ At.sqAny hkk at', (RpL.length _ _ _ rl').symm, rl'.imm_one hi⟩
          refine ⟨fun i H2 hlt ⟨S2, hG⟩ => ?_, fun H2 ⟨S2, hG⟩ => ?_, fun i H2 x H3 hlt ⟨S2, hG⟩ yd => ?_⟩
          · obtain ⟨ys, h1, h2, _⟩ := look H2 S2 hG
            exact ⟨ys, ys[i]'(by rw [h2, ← hlen]; exact hlt), h1, by simp⟩
          · obtain ⟨ys, h1, h2, _⟩ := look H2 S2 hG
            exact ⟨ys, h1, Nat.le_of_eq (h2.trans hlen.symm)⟩
          · obtain ⟨T, z, ex, hT, eH, hz⟩ := yd
            subst ex
            refine ⟨by rw [eH]; exact upd_ext hT, fun S3 hG3 => ?_⟩
            obtain ⟨ys', h1', h2', h3'⟩ := look H2 S3 hG3
            obtain ⟨u, hu, ru⟩ := RpL.atI h3' (hz ys' h1')
            exact ⟨_, hget i u hu, (pair_rep (s := .int (i : Nat)) hT eH ⟨rfl, rfl⟩ ru).2⟩
    · cases q3
end
end MI
namespace MI
open PySem PySem.Spec PyProof.Rows L2
def subT : List Nat → T → Option T
  | [], t => some t
  | j :: p, .nd _ ts => match ts[j]? with
    | some u => subT p u
    | none => none
  | _ :: _, _ => none
def setT : List Nat → T → T → T
  | [], _, n => n
  | j :: p, .nd k ts, n => .nd k (ts.set j (setT p (ts.getD j .dead) n))
  | _ :: _, t, _ => t
def Pl (g : Gc) (S : Addr → Prop) (H : Hp) : List Nat → T → V → List Addr → V → T → List Addr → Prop
  | [], t, x, A, y, u, B => y = x ∧ u = t ∧ B = A ∧ Rp g S H t x A
  | j :: p, .nd k ts, x, A, y, u, B => ∃ a xs B1 B2 B3 z t', x = .ref a ∧ At g S H k a xs ∧ A = (if k.own then a :: (B1 ++ (B2 ++ B3)) else B1 ++ (B2 ++ B3)) ∧ (k.own = true ∨ k.isTup = true ∨ B1 ++ (B2 ++ B3) = []) ∧ xs[j]? = some z ∧ ts[j]? = some t' ∧ ts.length = xs.length ∧
      RpL g S H (ts.take j) (xs.take j) B1 ∧ RpL g S H (ts.drop (j + 1)) (xs.drop (j + 1)) B3 ∧ Pl g S H p t' z B2 y u B
  | _ :: _, _, _, _, _, _, _ => False
section
variable {g : Gc} {S S' : Addr → Prop} {H H' : Hp} {M : Addr → Prop}
theorem RpL.split : ∀ (ts : List T) (xs : List V) (A : List Addr), RpL g S H ts xs A → ∀ (j : Nat) (u : T), ts[j]? = some u → ∃ z B1 B2 B3, xs[j]? = some z ∧ A = B1 ++ (B2 ++ B3) ∧ Rp g S H u z B2 ∧ RpL g S H (ts.take j) (xs.take j) B1 ∧ RpL g S H (ts.drop (j + 1)) (xs.drop (j + 1)) B3
  | [], _, _, _, j, u, e => by simp at e
  | t :: ts, xs, A, h, j, u, e => by
    obtain ⟨y, ys, A1, A2, e1, e2, r1, r2⟩ := h
    subst e1; subst e2
    cases j with
    | zero =>
      have e : t = u := by simpa using e
      subst e
      exact ⟨y, [], A1, A2, rfl, rfl, r1, ⟨rfl, rfl⟩, by simpa using r2⟩
    | succ j =>
      obtain ⟨z, B1, B2, B3, h1, h2, h3, h4, h5⟩ := RpL.split ts ys A2 r2 j u (by simpa using e)
      exact ⟨z, A1 ++ B1, B2, B3, by simpa using h1, by rw [h2]; simp, h3, ⟨y, ys.take j, A1, B1, by simp, rfl, r1, h4⟩, by simpa using h5⟩
theorem RpL.join {ts : List T} {xs : List V} {j : Nat} {u' : T} {z : V} {B1 B2 B3 : List Addr} (hj : j < ts.length) (hx : xs[j]? = some z) (hl : ts.length = xs.length) (h1 : RpL g S H (ts.take j) (xs.take j) B1) (h2 : Rp g S H u' z B2) (h3 : RpL g S H (ts.drop (j + 1)) (xs.drop (j + 1)) B3) : RpL g S H (ts.set j u') xs (B1 ++ (B2 ++ B3)) := by
  have e1 : ts.set j u' = ts.take j ++ (u' :: ts.drop (j + 1)) := by
    rw [List.set_eq_take_append_cons_drop, if_pos hj]
  have e2 : xs = xs.take j ++ (z :: xs.drop (j + 1)) := by
    have hj2 : j < xs.length := by omega
    have ez : xs[j] = z := by
      have := List.getElem?_eq_some_iff.mp hx
      exact this.2
    have e := (List.take_append_drop j xs).symm
    rw [List.drop_eq_getElem_cons hj2, ez] at e
    exact e
  rw [e1, e2]
  have e3 : (xs.take j ++ (z :: xs.drop (j + 1))).take j = xs.take j := by rw [← e2]
  exact RpL.append _ _ _ _ _ _ h1 ⟨z, xs.drop (j + 1), B2, B3, rfl, rfl, h2, h3⟩
theorem Pl.keepF (kp : ∀ a o, H a = some o → ¬ M a → fixO H' a o) (hm : ∀ a, M a → Mut (H a)) (hS : ∀ a, S a → ¬ M a) (hs : ∀ a, S a → S' a) :
    ∀ (p : List Nat) (t : T) (x : V) (A : List Addr) (y : V) (u : T) (B : List Addr), Pl g S H p t x A y u B → (∀ a ∈ A, ¬ M a) → Pl g S' H' p t x A y u B
  | [], t, x, A, _, _, _, h, hA => ⟨h.1, h.2.1, h.2.2.1, Rp.keepF kp hm hS hs t x A h.2.2.2 hA⟩
  | j :: p, .nd k ts, x, A, y, u, B, h, hA => by
    obtain ⟨a, xs, B1, B2, B3, z, t', ex, at_, eA, c, hz, ht, hl, r1, r3, h⟩ := h
    have hB : ∀ b ∈ B1 ++ (B2 ++ B3), ¬ M b := fun b hb => hA b (by
      rw [eA]
      split
      · exact List.mem_cons_of_mem _ hb
      · exact hb)
    refine ⟨a, xs, B1, B2, B3, z, t', ex, at_.keepF kp hm hS hs fun ho => hA a (by rw [eA, if_pos ho]; exact List.mem_cons_self), eA, c, hz, ht, hl, RpL.keepF kp hm hS hs _ _ _ r1 fun b hb => hB b (List.mem_append_left _ hb),
      RpL.keepF kp hm hS hs _ _ _ r3 fun b hb => hB b (List.mem_append_right _ (List.mem_append_right _ hb)), Pl.keepF kp hm hS hs p t' z B2 y u B h fun b hb => hB b (List.mem_append_right _ (List.mem_append_left _ hb))⟩
  | _ :: _, .dead, _, _, _, _, _, h, _ => h
  | _ :: _, .non, _, _, _, _, _, h, _ => h
  | _ :: _, .bl _, _, _, _, _, _, h, _ => h
  | _ :: _, .int _, _, _, _, _, _, h, _ => h
  | _ :: _, .str _, _, _, _, _, _, h, _ => h
theorem Pl.rep : ∀ (p : List Nat) (t : T) (x : V) (A : List Addr) (y : V) (u : T) (B : List Addr), Pl g S H p t x A y u B → Rp g S H u y B ∧ B.Sublist A ∧ subT p t = some u
  | [], t, x, A, _, _, _, h => by
    obtain ⟨h1, h2, h3, h4⟩ := h
    subst h1 h2 h3
    exact ⟨h4, List.Sublist.refl _, rfl⟩
  | j :: p, .nd k ts, x, A, y, u, B, h => by
    obtain ⟨a, xs, B1, B2, B3, z, t', ex, at_, eA, c, hz, ht, hl, r1, r3, h⟩ := h
    obtain ⟨h1, h2, h3⟩ := Pl.rep p t' z B2 y u B h
    refine ⟨h1, ?_, by rw [subT, ht]; exact h3⟩
    have h4 : B.Sublist (B1 ++ (B2 ++ B3)) := h2.trans ((List.sublist_append_left _ _).trans (List.sublist_append_right _ _))
    rw [eA]
    split
    · exact h4.trans (List.sublist_cons_self _ _)
    · exact h4
  | _ :: _, .dead, _, _, _, _, _, h => h.elim
  | _ :: _, .non, _, _, _, _, _, h => h.elim
  | _ :: _, .bl _, _, _, _, _, _, h => h.elim
  | _ :: _, .int _, _, _, _, _, _, h => h.elim
  | _ :: _, .str _, _, _, _, _, _, h => h.elim
theorem Pl.snoc {j : Nat} {k : Kd} {ts : List T} {u : T} : ∀ (p : List Nat) (t : T) (x : V) (A : List Addr) (y : V) (B : List Addr), Pl g S H p t x A y (.nd k ts) B → ts[j]? = some u →
    ∃ a xs z B', y = .ref a ∧ At g S H k a xs ∧ xs.length = ts.length ∧ xs[j]? = some z ∧ Pl g S H (p ++ [j]) t x A z u B'
  | [], t, x, A, y, B, h, hj => by
    obtain ⟨h1, h2, h3, h4⟩ := h
    subst h1 h2 h3
    obtain ⟨a, xs, B0, ex, at_, eA, c, rl⟩ := h4
    obtain ⟨z, B1, B2, B3, hz, eB, r2, r1, r3⟩ := RpL.split _ _ _ rl j u hj
    subst eB
    exact ⟨a, xs, z, B2, ex, at_, (RpL.length _ _ _ rl).symm, hz, a, xs, B1, B2, B3, z, u, ex, at_, eA, c, hz, hj, RpL.length _ _ _ rl, r1, r3, rfl, rfl, rfl, r2⟩
  | i :: p, .nd k0 ts0, x, A, y, B, h, hj => by
    obtain ⟨a, xs, B1, B2, B3, z, t', ex, at_, eA, c, hz, ht, hl, r1, r3, h⟩ := h
    obtain ⟨a', xs', z', B', h1, h2, h3, h4, h5⟩ := Pl.snoc p t' z B2 y B h hj
    exact ⟨a', xs', z', B', h1, h2, h3, h4, a, xs, B1, B2, B3, z, t', ex, at_, eA, c, hz, ht, hl, r1, r3, h5⟩
  | _ :: _, .dead, _, _, _, _, h, _ => h.elim
  | _ :: _, .non, _, _, _, _, h, _ => h.elim
  | _ :: _, .bl _, _, _, _, _, h, _ => h.elim
  | _ :: _, .int _, _, _, _, _, h, _ => h.elim
  | _ :: _, .str _, _, _, _, _, h, _ => h.elim
theorem Pl.node {a : Addr} {o' : HO} {k k' : Kd} {ts ts' : List T} {N : List Addr} (ho : k.own = true) (ho' : k'.own = true) (hm : Mut (H a)) :
    ∀ (p : List Nat) (t : T) (x : V) (A : List Addr) (B : List Addr), Pl g S H p t x A (.ref a) (.nd k ts) B → A.Nodup → (∀ b ∈ A, ¬ S b) → (∀ b ∈ N, b ∉ A) →
      (∀ xs B0, At g S H k a xs → RpL g S H ts xs B0 → B = a :: B0 → ∃ xs' B', At g S (upd H a o') k' a xs' ∧ RpL g S (upd H a o') ts' xs' B' ∧ B'.Nodup ∧ ∀ b ∈ B', b ∈ B0 ∨ b ∈ N) →
      a ∈ A ∧ ∃ A', Rp g S (upd H a o') (setT p t (.nd k' ts')) x A' ∧ A'.Nodup ∧ ∀ b ∈ A', b ∈ A ∨ b ∈ N
  | [], t, x, A, B, h, nd, ns, hN, new => by
    obtain ⟨h1, h2, h3, h4⟩ := h
    subst h1 h2 h3
    obtain ⟨a', xs, B0, ex, at_, eA, c, rl⟩ := h4
    injection ex with ex
    subst ex
    rw [if_pos ho] at eA
    subst eA
    obtain ⟨xs', B', n1, n2, n3, n4⟩ := new xs B0 at_ rl rfl
    refine ⟨List.mem_cons_self, a :: B', ⟨a, xs', B', rfl, n1, by rw [if_pos ho'], .inl ho', n2⟩, List.nodup_cons.mpr ⟨fun z => ?_, n3⟩, fun b hb => ?_⟩
    · rcases n4 a z with h | h
      · exact (List.nodup_cons.mp nd).1 h
      · exact hN a h List.mem_cons_self
    · rcases List.mem_cons.mp hb with rfl | hb
      · exact .inl List.mem_cons_self
      · rcases n4 b hb with h | h
        · exact .inl (List.mem_cons_of_mem _ h)
        · exact .inr h
  | j :: p, .nd k0 ts0, x, A, B, h, nd, ns, hN, new => by
    obtain ⟨a0, xs, B1, B2, B3, z, t', ex, at_, eA, c, hz, ht, hl, r1, r3, h⟩ := h
    have hsub : (B1 ++ (B2 ++ B3)).Sublist A := by
      rw [eA]
      split
      · exact List.sublist_cons_self _ _
      · exact List.Sublist.refl _
    have nd0 := nd.sublist hsub
    obtain ⟨nB1, nB23, d1⟩ := List.nodup_append.mp nd0
    obtain ⟨nB2, nB3, d2⟩ := List.nodup_append.mp nB23
    have in0 : ∀ b ∈ B2, b ∈ A := fun b hb => hsub.subset (List.mem_append_right _ (List.mem_append_left _ hb))
    obtain ⟨ha, A2', rn, ndn, hn⟩ := Pl.node ho ho' hm p t' z B2 B h nB2 (fun b hb => ns b (in0 b hb)) (fun b hb z => hN b hb (in0 b z)) new
    have haA := in0 a ha
    have nS : ¬ S a := ns a haA
    have kp : ∀ b o, H b = some o → ¬ (b = a) → upd H a o' b = some o := fun b o e n => by rw [upd_ne n]; exact e
    have hm' : ∀ b, b = a → Mut (H b) := fun b e => by rw [e]; exact hm
    have hS' : ∀ b, S b → ¬ (b = a) := fun b h e => nS (by rw [← e]; exact h)
    have r1' := RpL.keep (M := fun b => b = a) kp hm' hS' (fun _ h => h) _ _ _ r1 fun b hb e => d1 b hb a (List.mem_append_left _ ha) e
    have r3' := RpL.keep (M := fun b => b = a) kp hm' hS' (fun _ h => h) _ _ _ r3 fun b hb e => d2 a ha b hb e.symm
    have at' : At g S (upd H a o') k0 a0 xs := at_.keep (M := fun b => b = a) kp hm' hS' (fun _ h => h) fun ho0 e => by
      rw [eA, if_pos ho0, e] at nd
      exact (List.nodup_cons.mp nd).1 (List.mem_append_right _ (List.mem_append_left _ ha))
    have hj : j < ts0.length := (List.getElem?_eq_some_iff.mp ht).1
    have eg : ts0.getD j .dead = t' := by rw [List.getD_eq_getElem?_getD, ht]; rfl
    have rj := RpL.join hj hz hl r1' rn r3'
    have ndj : (B1 ++ (A2' ++ B3)).Nodup := by
      refine List.nodup_append.mpr ⟨nB1, List.nodup_append.mpr ⟨ndn, nB3, fun b hb b' hb' e => ?_⟩, fun b hb b' hb' e => ?_⟩
      · subst e
        rcases hn b hb with h | h
        · exact d2 b h b hb' rfl
        · exact hN b h (hsub.subset (List.mem_append_right _ (List.mem_append_right _ hb')))
      · subst e
        rcases List.mem_append.mp hb' with hb' | hb'
        · rcases hn b hb' with h | h
          · exact d1 b hb b (List.mem_append_left _ h) rfl
          · exact hN b h (hsub.subset (List.mem_append_left _ hb))
        · exact d1 b hb b (List.mem_append_right _ hb') rfl
    have hjn : ∀ b ∈ B1 ++ (A2' ++ B3), b ∈ B1 ++ (B2 ++ B3) ∨ b ∈ N := fun b hb => by
      rcases List.mem_append.mp hb with hb | hb
      · exact .inl (List.mem_append_left _ hb)
      · rcases List.mem_append.mp hb with hb | hb
        · rcases hn b hb with h | h
          · exact .inl (List.mem_append_right _ (List.mem_append_left _ h))
          · exact .inr h
        · exact .inl (List.mem_append_right _ (List.mem_append_right _ hb))
    refine ⟨haA, if k0.own then a0 :: (B1 ++ (A2' ++ B3)) else B1 ++ (A2' ++ B3), ⟨a0, xs, B1 ++ (A2' ++ B3), ex, at', rfl, ?_, by rw [eg]; exact rj⟩, ?_, fun b hb => ?_⟩
    · rcases c with c | c | c
      · exact .inl c
      · exact .inr (.inl c)
      · rw [c] at hsub
        have : B2 = [] := by
          have := List.append_eq_nil_iff.mp c
          exact (List.append_eq_nil_iff.mp this.2).1
        rw [this] at ha
        exact nomatch ha
    · split
      · rename_i h0
        refine List.nodup_cons.mpr ⟨fun z => ?_, ndj⟩
        have na : a0 ∉ B1 ++ (B2 ++ B3) := by
          rw [eA, if_pos h0] at nd
          exact (List.nodup_cons.mp nd).1
        rcases hjn a0 z with h | h
        · exact na h
        · exact hN a0 h (by rw [eA, if_pos h0]; exact List.mem_cons_self)
      · exact ndj
    · split at hb
      · rename_i h0
        rcases List.mem_cons.mp hb with rfl | hb
        · exact .inl (by rw [eA, if_pos h0]; exact List.mem_cons_self)
        · exact (hjn b hb).imp (fun z => hsub.subset z) id
      · exact (hjn b hb).imp (fun z => hsub.subset z) id
  | _ :: _, .dead, _, _, _, h, _, _, _, _ => h.elim
  | _ :: _, .non, _, _, _, h, _, _, _, _ => h.elim
  | _ :: _, .bl _, _, _, _, h, _, _, _, _ => h.elim
  | _ :: _, .int _, _, _, _, h, _, _, _, _ => h.elim
  | _ :: _, .str _, _, _, _, h, _, _, _, _ => h.elim
end
end MI
namespace MI
open PySem PySem.Spec PyProof.Rows L2
def T.ownNd : T → Bool
  | .nd k _ => k.own
  | _ => false
section
variable {g : Gc} {S S1 S2 : Addr → Prop} {H H1 H2 : Hp} {A A1 A2 : Nat → List Addr} {σ σ2 : L2.St} {Ts Ts1 Ts2 : List T} {eff bo : List Nat} {Ax : List Addr}
theorem SR.node {i : Nat} {x0 : V} {p : List Nat} {a : Addr} {n n' : T} {B Bn N : List Addr} {o' : HO} (R : SR g S H σ Ts A) (hx : σ[i]? = some (some x0)) (pl : Pl g S H p (slot Ts i) x0 (A i) (.ref a) n B) (ho : n.ownNd = true) (ho' : n'.ownNd = true)
    (hN : ∀ b ∈ N, ¬ S b ∧ ∀ j, b ∉ A j) (rn : Rp g S (upd H a o') n' (.ref a) (a :: Bn)) (nd : (a :: Bn).Nodup) (hB : ∀ b ∈ Bn, b ∈ B ∨ b ∈ N) :
    ∃ A', SR g S (upd H a o') σ (Ts.set i (setT p (slot Ts i) n')) A' ∧ (∀ j, j ≠ i → A' j = A j) ∧ (∀ b ∈ A' i, b ∈ A i ∨ b ∈ N) ∧ a ∈ A i := by
  cases n with
  | nd k ts =>
    cases n' with
    | nd k' ts' =>
      have hrep := Pl.rep _ _ _ _ _ _ _ pl
      have hm : Mut (H a) := by
        obtain ⟨a', xs, B0, ex, at_, _⟩ := hrep.1
        injection ex with ex
        subst ex
        exact at_.own_mut ho
      have hob : ∃ o, H a = some o ∧ (∀ ps, o ≠ .tbl ps) ∧ ∀ P, o ≠ .ext P := by
        obtain ⟨a', xs, B0, ex, at_, _⟩ := hrep.1
        injection ex with ex
        subst ex
        exact at_.own_ob ho
      have hno : ∀ ps, o' ≠ .tbl ps := by
        obtain ⟨a', xs, B0, ex, at_, _⟩ := rn
        injection ex with ex
        subst ex
        obtain ⟨o, h1, h2, _⟩ := at_.own_ob ho'
        rw [upd_same] at h1
        rw [Option.some.inj h1]
        exact h2
      obtain ⟨ha, A2, r2, nd2, h2⟩ := Pl.node (o' := o') (N := N) ho ho' hm p _ _ _ _ pl (R.nd i) (R.ns i) (fun b hb => (hN b hb).2 i) fun xs B0 at_ rl eB => by
        obtain ⟨a', xs', B', ex, at', eA, _, rl'⟩ := rn
        injection ex with ex
        subst ex
        have ho' : k'.own = true := ho'
        rw [if_pos ho'] at eA
        injection eA with _ eA
        subst eA
        refine ⟨xs', Bn, at', rl', (List.nodup_cons.mp nd).2, fun b hb => ?_⟩
        rcases hB b hb with h | h
        · rw [eB] at h
          rcases List.mem_cons.mp h with e | h
          · exact absurd (by rw [← e]; exact hb) (List.nodup_cons.mp nd).1
          · exact .inl h
        · exact .inr h
      have il : i < Ts.length := by rw [R.len]; exact (List.getElem?_eq_some_iff.mp hx).1
      have nS : ¬ S a := R.ns i a ha
      refine ⟨fun j => if j = i then A2 else A j, ⟨fun j => ?_, fun j => ?_, fun j l hjl b hb => ?_, fun j b hb => ?_, by rw [List.length_set]; exact R.len, ⟨fun b h => ?_, let ⟨o, h1, h2, h3⟩ := hob; tabs_upd R.tb h1 h2 h3 hno⟩⟩, fun j hj => if_neg hj, fun b hb => ?_, ha⟩
      · by_cases hj : j = i
        · subst hj
          rw [if_pos rfl, slot_set_eq il]
          exact .inr ⟨x0, by rw [List.getD_eq_getElem?_getD, hx]; rfl, r2⟩
        · rw [if_neg hj, slot_set_ne hj]
          rcases R.rep j with h | ⟨y, h1, h2⟩
          · exact .inl h
          · exact .inr ⟨y, h1, Rp.keep (M := fun b => b = a) (fun b o eo n => by rw [upd_ne n]; exact eo) (fun b e => by rw [e]; exact hm) (fun b h e => nS (by rw [← e]; exact h)) (fun _ h => h) _ _ _ h2 fun b hb e => R.dj i j (Ne.symm hj) a ha (by rw [← e]; exact hb)⟩
      · split
        · exact nd2
        · exact R.nd j
      · have hoff : ∀ b ∈ A2, ∀ l, l ≠ i → b ∉ A l := fun b hb l hl z => by
          rcases h2 b hb with h | h
          · exact R.dj i l (Ne.symm hl) b h z
          · exact (hN b h).2 l z
        split at hb
        · rename_i hj
          split
          · rename_i hl
            exact absurd (hj.trans hl.symm) hjl
          · rename_i hl
            exact hoff b hb l hl
        · rename_i hj
          split
          · exact fun z => hoff b z j hj hb
          · exact R.dj j l hjl b hb
      · split at hb
        · rcases h2 b hb with h | h
          · exact R.ns i b h
          · exact (hN b h).1
        · exact R.ns j b hb
      · have ne : b ≠ a := fun e => nS (by rw [← e]; exact h)
        rw [upd_ne ne]
        exact R.st.st b h
      · have hb : b ∈ A2 := by
          have e : (if i = i then A2 else A i) = A2 := if_pos rfl
          rw [← e]; exact hb
        exact h2 b hb
    | _ => cases ho'
  | _ => cases ho
theorem Po.wrote {i : Nat} {a : Addr} {o' : HO} {N : List Addr} (ha : a ∈ A1 i) (p : Po S H A S1 H1 A1) (hN : ∀ b ∈ N, (∃ j, b ∈ A j) ∨ noT (H b) = none) (h1 : ∀ j, j ≠ i → A2 j = A1 j) (h2 : ∀ b ∈ A2 i, b ∈ A1 i ∨ b ∈ N) : Po S H A S1 (upd H1 a o') A2 :=
  ⟨fun b o e n => fix_by fun nt => by
    have ne : b ≠ a := fun z => by
      rcases p.anew i a ha with ⟨j, hj⟩ | hn
      · exact n j (by rw [z]; exact hj)
      · rw [z] at e
        obtain ⟨ps, w⟩ := noT_at hn e
        exact nt ps w
    exact fix_upd ne (p.keep b o e n), p.sub, p.snew, fun j b hb => by
    by_cases hj : j = i
    · subst hj
      rcases h2 b hb with h | h
      · exact p.anew j b h
      · exact hN b h
    · rw [h1 j hj] at hb
      exact p.anew j b hb⟩
theorem Stb.wrote {i : Nat} {a : Addr} {o' : HO} {t : T} (R1 : SR g S1 H1 σ Ts1 A1) (ha : a ∈ A1 i) (s : Stb eff H Ts A H1 Ts1 A1) (h1 : ∀ j, j ≠ i → A2 j = A1 j) : Stb (eff ++ [i]) H Ts A (upd H1 a o') (Ts1.set i t) A2 := fun j hj => by
  have hji : j ≠ i := fun z => hj (by simp [z])
  obtain ⟨x1, x2, x3⟩ := s j fun z => hj (List.mem_append_left _ z)
  refine ⟨(slot_set_ne hji).trans x1, (h1 j hji).trans x2, fun b hb o e => ?_⟩
  have ne : b ≠ a := fun z => R1.dj i j (Ne.symm hji) a ha (by rw [x2, ← z]; exact hb)
  rw [upd_ne ne]
  exact x3 b hb o e
end
def TL (g : Gc) (mp : M (List Nat)) (eff : List Nat) (i : Nat) : TE := fun σ H Q => ∃ S Ts A p Ts', SR g S H σ Ts A ∧ mp Ts = some (p, Ts') ∧
  ∀ x H' S' A' x0 u B, SR g S' H' σ Ts' A' → σ[i]? = some (some x0) → Pl g S' H' p (slot Ts' i) x0 (A' i) x u B → Po S H A S' H' A' → Stb eff H Ts A H' Ts' A' → Q x H'
def PLm (g : Gc) (X : Cx) (e : Expr) (mp : M (List Nat)) (eff : List Nat) (i : Nat) : Prop := PE X e (TL g mp eff i)
def mHere (i : Nat) : M (List Nat) := fun Ts => match slot Ts i with
  | .dead => none
  | _ => some ([], Ts)
def stepL (n : T) (k : T) : Option Nat := match n, k with
  | .nd (.lst _) ts, .int j => ixN ts.length j
  | _, _ => none
def stepF (c f : Str) (n : T) : Option Nat := match n with
  | .nd (.ins _ c' fs) _ => if c' = c then fs.findIdx? (fun x => x = f) else none
  | _ => none
def mStepL (i : Nat) (mp : M (List Nat)) (fk : M T) : M (List Nat) := bnd mp fun p => bnd fk fun k => fun Ts => match subT p (slot Ts i) with
  | some n => (match stepL n k with
    | some j => some (p ++ [j], Ts)
    | none => none)
  | none => none
def mStepF (i : Nat) (c f : Str) (mp : M (List Nat)) : M (List Nat) := bnd mp fun p => fun Ts => match subT p (slot Ts i) with
  | some n => (match stepF c f n with
    | some j => some (p ++ [j], Ts)
    | none => none)
  | none => none
section
variable {g : Gc} {X : Cx} {e o b : Expr} {es : List Expr} {mp : M (List Nat)} {fa fb fk : M T} {fs : M (List T)} {e1 e2 e3 b1 b2 : List Nat} {i : Nat} {pos p2 : Pos}
theorem pl_name (h : PE X e (tVar i)) : PLm g X e (mHere i) [] i := PE.imp h fun σ H Q ⟨S, Ts, A, p, Ts', R, q, k⟩ => by
  have key : slot Ts i ≠ .dead ∧ some (([] : List Nat), Ts) = some (p, Ts') := by
    unfold mHere at q
    cases e : slot Ts i <;> rw [e] at q <;> first | (cases q; done) | exact ⟨(fun z => nomatch z), q⟩
  obtain ⟨n, q⟩ := key
  injection q with q
  injection q with h1 h2
  subst h1; subst h2
  obtain ⟨x, hx, rx⟩ := R.at rfl n
  exact ⟨x, hx, k x H S A x _ _ R hx ⟨rfl, rfl, rfl, rx⟩ Po.refl Stb.refl⟩
theorem pl_held {S1 S2 : Addr → Prop} {H1 H2 : Hp} {σ : L2.St} {Ts1 Ts2 : List T} {A1 A2 : Nat → List Addr} {p : List Nat} {x0 x : V} {u : T} {B : List Addr} (R1 : SR g S1 H1 σ Ts1 A1) (pl : Pl g S1 H1 p (slot Ts1 i) x0 (A1 i) x u B) (p2 : Po S1 H1 A1 S2 H2 A2) (s2 : Stb e2 H1 Ts1 A1 H2 Ts2 A2) (d : i ∉ e2) : Pl g S2 H2 p (slot Ts2 i) x0 (A2 i) x u B := by
  obtain ⟨s1, s3, s4⟩ := s2 i d
  rw [s1, s3]
  refine Pl.keepF (M := fun a => ∃ j, j ∈ e2 ∧ a ∈ A1 j) (fun a ob eo n => ?_) (fun a ⟨j, _, hj⟩ => R1.cells j a hj) (fun a hs ⟨j, _, hj⟩ => R1.ns j a hj hs) p2.sub _ _ _ _ _ _ _ pl fun a ha ⟨j, hj, hA⟩ => ?_
  · by_cases h : ∃ j, a ∈ A1 j
    · obtain ⟨j, hj⟩ := h
      by_cases he : j ∈ e2
      · exact absurd ⟨j, he, hj⟩ n
      · exact fix_of ((s2 j he).2.2 a hj ob eo)
    · exact p2.keep a ob eo fun j hj => h ⟨j, hj⟩
  · exact R1.dj i j (fun z => d (by rw [z]; exact hj)) a ha hA
theorem pl_sub (hK : g.K = X.K) (hb : PLm g X o mp e1 i) (hk : PEm g X b fk e2 b2) (d : i ∉ e2 := by decide) (hs : PlainIx b := by exact fun _ _ => rfl) : PLm g X (.Subscript o b pos) (mStepL i mp fk) (e1 ++ e2) i :=
  PE.imp (pe_ix ix_list hb hk hs) fun σ H Q ⟨S, Ts, A, p, Ts', R, q, k⟩ => by
    obtain ⟨p0, Ts1, q1, q2⟩ := bnd_some q
    obtain ⟨tk, Ts2, q3, q4⟩ := bnd_some q2
    cases hn : subT p0 (slot Ts2 i) with
    | none => rw [hn] at q4; cases q4
    | some n =>
      rw [hn] at q4
      cases hj : stepL n tk with
      | none =>
        have q4 : (match stepL n tk with | some j => some (p0 ++ [j], Ts2) | none => none) = some (p, Ts') := q4
        rw [hj] at q4; cases q4
      | some j =>
        have q4 : (match stepL n tk with | some j => some (p0 ++ [j], Ts2) | none => none) = some (p, Ts') := q4
        rw [hj] at q4
        injection q4 with q4
        injection q4 with h1 h2
        subst h1; subst h2
        refine ⟨S, Ts, A, p0, Ts1, R, q1, fun x H1 S1 A1 x0 u B R1 hx pl p1 s1 => ⟨S1, Ts1, A1, tk, Ts2, R1, q3, fun y H2 S2 A2 Ay R2 ry oy p2 s2 => ?_⟩⟩
        have pl2 := pl_held R1 pl p2 s2 d
        have hu : u = n := by
          have := (Pl.rep _ _ _ _ _ _ _ pl2).2.2
          rw [hn] at this
          injection this with this
          exact this.symm
        subst hu
        unfold stepL at hj
        split at hj
        · rename_i oo ts kk
          have hjl := (ixN_seq hj).2.1
          obtain ⟨a, xs, z, B', ex, at_, hl, hz, pl3⟩ := Pl.snoc p0 _ _ _ _ _ pl2 (show ts[j]? = some ts[j] by simp [hjl])
          refine ⟨a, xs, kk, z, ex, ry.1, hK ▸ at_.sqL, ?_, k z H2 S2 A2 x0 _ B' R2 hx pl3 (p1.trans R p2) (s1.trans s2)⟩
          unfold atI
          rw [hl, hj]
          exact hz
        · cases hj
theorem lookup_findIdx {xs : List V} : ∀ {fs : List Str} {j : Nat} {f : Str} {z : V}, fs.findIdx? (fun x => x = f) = some j → fs.length = xs.length → xs[j]? = some z → (fs.zip xs).lookup f = some z := by
  induction xs with
  | nil =>
    intro fs j f z h hl hz
    simp at hz
  | cons x xs ih =>
    intro fs j f z h hl hz
    cases fs with
    | nil => cases hl
    | cons f0 fs =>
      rw [List.findIdx?_cons] at h
      by_cases e : f0 = f
      · rw [if_pos (by simpa using e)] at h
        injection h with h
        subst h
        have hz : x = z := by simpa using hz
        subst hz
        rw [List.zip_cons_cons, List.lookup_cons]
        simp [e]
      · rw [if_neg (by simpa using e)] at h
        cases q : fs.findIdx? (fun x => x = f) with
        | none => rw [q] at h; cases h
        | some j' =>
          rw [q] at h
          have h : j' + 1 = j := by simpa using h
          subst h
          rw [List.zip_cons_cons, List.lookup_cons]
          have e2 : (f == f0) = false := by simpa using fun z => e z.symm
          rw [e2]
          exact ih q (by simpa using hl) (by simpa using hz)
def MutT (g : Gc) (r : V → List V → Hp → VK → Prop) (f : T → List T → Option (T × T)) : Prop := ∀ S H a n B0 args xs Ag res n' Q, Rp g S H n (.ref a) (a :: B0) → n.ownNd = true → RpL g S H args xs Ag → (a :: (B0 ++ Ag)).Nodup → ¬ S a → f n args = some (res, n') →
  (∀ z o' Bn, Rp g S (upd H a o') n' (.ref a) (a :: Bn) → n'.ownNd = true → Rp g S (upd H a o') res z [] → (a :: Bn).Nodup → (∀ b ∈ Bn, b ∈ B0 ∨ b ∈ Ag) → Q z (upd H a o')) → r (.ref a) xs H Q
def chk (i : Nat) (p : List Nat) (ck : T → Bool) : M Unit := fun Ts => match subT p (slot Ts i) with
  | some n => if ck n then some ((), Ts) else none
  | none => none
def mMut (i : Nat) (mp : M (List Nat)) (ck : T → Bool) (fs : M (List T)) (f : T → List T → Option (T × T)) : M T := bnd mp fun p => bnd (chk i p ck) fun _ => bnd fs fun ts => fun Ts => match subT p (slot Ts i) with
  | some n => if n.ownNd then (match f n ts with
    | some (res, n') => some (res, Ts.set i (setT p (slot Ts i) n'))
    | none => none) else none
  | none => none
theorem chk_some {p : List Nat} {ck : T → Bool} {Ts Ts' : List T} (h : chk i p ck Ts = some ((), Ts')) : Ts' = Ts ∧ ∀ n, subT p (slot Ts i) = some n → ck n = true := by
  unfold chk at h
  cases hn : subT p (slot Ts i) with
  | none => rw [hn] at h; cases h
  | some n =>
    rw [hn] at h
    have h : (if ck n then some ((), Ts) else none) = some ((), Ts') := h
    split at h
    · rename_i hc
      injection h with h
      injection h with _ h
      exact ⟨h.symm, fun m e => by injection e with e; rw [← e]; exact hc⟩
    · cases h
theorem mut_fin {S S1 : Addr → Prop} {H H1 : Hp} {σ : L2.St} {Ts Ts1 : List T} {A A1 : Nat → List Addr} {p : List Nat} {x0 x : V} {n res n' : T} {B : List Addr} {args : List T} {xs : List V} {Ag : List Addr} {r : V → List V → Hp → VK → Prop} {f : T → List T → Option (T × T)} {Q : VK}
    (hf : MutT g r f) (R : SR g S H σ Ts A) (R1 : SR g S1 H1 σ Ts1 A1) (hx : σ[i]? = some (some x0)) (pl : Pl g S1 H1 p (slot Ts1 i) x0 (A1 i) x n B) (ra : RpL g S1 H1 args xs Ag) (oa : Ow [] H A S1 A1 Ag) (p1 : Po S H A S1 H1 A1) (s1 : Stb e1 H Ts A H1 Ts1 A1) (ho : n.ownNd = true) (ef : f n args = some (res, n'))
    (k : ∀ x H' S' A' Ax, SR g S' H' σ (Ts1.set i (setT p (slot Ts1 i) n')) A' → Rp g S' H' res x Ax → Ow [] H A S' A' Ax → Po S H A S' H' A' → Stb (e1 ++ [i]) H Ts A H' (Ts1.set i (setT p (slot Ts1 i) n')) A' → Q x H') : r x xs H1 Q := by
  obtain ⟨rn, sub, _⟩ := Pl.rep _ _ _ _ _ _ _ pl
  cases n with
  | nd kk ts =>
    obtain ⟨a, xs0, B0, ex, at_, eA, c, rl⟩ := id rn
    have ho2 : kk.own = true := ho
    rw [if_pos ho2] at eA
    subst ex eA
    have ndB : (a :: B0).Nodup := (R1.nd i).sublist sub
    have inA : ∀ b ∈ a :: B0, b ∈ A1 i := fun b hb => sub.subset hb
    have ndall : (a :: (B0 ++ Ag)).Nodup := by
      have : ((a :: B0) ++ Ag).Nodup := List.nodup_append.mpr ⟨ndB, oa.nd rfl, fun b hb b' hb' e => by
        subst e
        exact oa.dj i (fun z => nomatch z) b hb' (inA b hb)⟩
      exact this
    refine hf S1 H1 a _ B0 args xs Ag res n' Q rn ho ra ndall (R1.ns i a (inA a List.mem_cons_self)) ef fun z o' Bn rn' hn' rz ndn hz => ?_
    obtain ⟨A', R', h1, h2, ha⟩ := R1.node (N := Ag) (o' := o') hx pl ho hn' (fun b hb => ⟨oa.ns b hb, fun j => oa.dj j (fun z => nomatch z) b hb⟩) rn' ndn fun b hb => by
      rcases hz b hb with h | h
      · exact .inl (List.mem_cons_of_mem _ h)
      · exact .inr h
    exact k z _ S1 A' [] R' rz Ow.nil (p1.wrote ha oa.new h1 h2) (s1.wrote R1 ha h1)
  | _ => cases ho
theorem mMut_some {ck : T → Bool} {f : T → List T → Option (T × T)} {Ts Ts' : List T} {res : T} (h : mMut i mp ck fs f Ts = some (res, Ts')) : ∃ p Ts1 args Ts2 n n', mp Ts = some (p, Ts1) ∧ (∀ n, subT p (slot Ts1 i) = some n → ck n = true) ∧ fs Ts1 = some (args, Ts2) ∧ subT p (slot Ts2 i) = some n ∧ n.ownNd = true ∧ f n args = some (res, n') ∧ Ts' = Ts2.set i (setT p (slot Ts2 i) n') := by
  obtain ⟨p, Ts1, q1, q2⟩ := bnd_some h
  obtain ⟨_, Ts1', qc, q2'⟩ := bnd_some q2
  obtain ⟨ec, hck⟩ := chk_some qc
  subst ec
  obtain ⟨args, Ts2, q3, q4⟩ := bnd_some q2'
  cases hn : subT p (slot Ts2 i) with
  | none => rw [hn] at q4; cases q4
  | some n =>
    rw [hn] at q4
    have q4 : (if n.ownNd then (match f n args with | some (res, n') => some (res, Ts2.set i (setT p (slot Ts2 i) n')) | none => none) else none) = some (res, Ts') := q4
    split at q4
    · rename_i ho
      cases hf : f n args with
      | none => rw [hf] at q4; cases q4
      | some pr =>
        obtain ⟨r0, n'⟩ := pr
        rw [hf] at q4
        have q4 : some (r0, Ts2.set i (setT p (slot Ts2 i) n')) = some (res, Ts') := q4
        injection q4 with q4
        injection q4 with h1 h2
        subst h1; subst h2
        exact ⟨p, Ts1', args, Ts2, n, n', q1, hck, q3, hn, ho, hf, rfl⟩
    · cases q4
theorem mut_r {r : V → List V → Hp → VK → Prop} {f : T → List T → Option (T × T)} {ck : T → Bool} {ty : String} (hf : MutT g r f) (d : i ∉ e2) (hty : ∀ S H n x B, Rp g S H n x B → ck n = true → tyV X.K ty x H) (σ : L2.St) (H : Hp) (Q : VK) (h : TM g (mMut i mp ck fs f) ((e1 ++ e2) ++ [i]) [] σ H Q) :
    tBM X.K ty r (TL g mp e1 i) (TMs g fs e2 []) σ H Q := by
  obtain ⟨S, Ts, A, res, Ts', R, q, k⟩ := h
  obtain ⟨p, Ts1, args, Ts2, n, n', q1, hck, q3, hn, ho, ef, eT⟩ := mMut_some q
  subst eT
  refine ⟨S, Ts, A, p, Ts1, R, q1, fun x H1 S1 A1 x0 u B R1 hx pl p1 s1 => ⟨?_, S1, Ts1, A1, args, Ts2, R1, q3, fun xs H2 S2 A2 Ag R2 ra oa p2 s2 => ?_⟩⟩
  · obtain ⟨r1, _, r3⟩ := Pl.rep _ _ _ _ _ _ _ pl
    exact hty S1 H1 u x B r1 (hck u r3)
  · have pl2 := pl_held R1 pl p2 s2 d
    have hu : u = n := by
      have := (Pl.rep _ _ _ _ _ _ _ pl2).2.2
      rw [hn] at this
      injection this with this
      exact this.symm
    subst hu
    exact mut_fin (e1 := e1 ++ e2) hf R R2 hx pl2 ra (oa.rebase p1) (p1.trans R p2) (s1.trans s2) ho ef k
theorem mut_r0 {r : V → List V → Hp → VK → Prop} {f : T → List T → Option (T × T)} {ck : T → Bool} {ty : String} (hf : MutT g r f) (hty : ∀ S H n x B, Rp g S H n x B → ck n = true → tyV X.K ty x H) (σ : L2.St) (H : Hp) (Q : VK) (h : TM g (mMut i mp ck mNil f) (e1 ++ [i]) [] σ H Q) :
    tBM0 X.K ty r (TL g mp e1 i) σ H Q := by
  obtain ⟨S, Ts, A, res, Ts', R, q, k⟩ := h
  obtain ⟨p, Ts1, args, Ts2, n, n', q1, hck, q3, hn, ho, ef, eT⟩ := mMut_some q
  subst eT
  have q3 : some (([] : List T), Ts1) = some (args, Ts2) := q3
  injection q3 with q3
  injection q3 with h1 h2
  subst h1; subst h2
  refine ⟨S, Ts, A, p, Ts1, R, q1, fun x H1 S1 A1 x0 u B R1 hx pl p1 s1 => ?_⟩
  obtain ⟨r1, _, r3⟩ := Pl.rep _ _ _ _ _ _ _ pl
  refine ⟨hty S1 H1 u x B r1 (hck u r3), ?_⟩
  have hu : u = n := by
    rw [hn] at r3
    injection r3 with r3
    exact r3.symm
  subst hu
  exact mut_fin (e1 := e1) (args := []) (Ag := []) hf R R1 hx pl ⟨rfl, rfl⟩ Ow.nil p1 s1 ho ef k
def isLst : T → Bool
  | .nd (.lst _) _ => true
  | _ => false
theorem isLst_ty (hK : g.K = X.K) (S : Addr → Prop) (H : Hp) (n : T) (x : V) (B : List Addr) (r : Rp g S H n x B) (h : isLst n = true) : tyV X.K "list" x H := by
  unfold isLst at h
  split at h
  · obtain ⟨a, xs, B0, ex, at_, _⟩ := r
    subst ex
    exact .inl ⟨rfl, xs, hK ▸ at_.sqL⟩
  · cases h
theorem tm_mutL {name : Str} {id : String} {apos cpos : Pos} {r : V → List V → Hp → VK → Prop} {f : T → List T → Option (T × T)} (hK : g.K = X.K) (slot : Slot "list" name id) (hty : typeOf (.builtin id) = pure (.type "method_descriptor")) (hm : MtR X id r) (hf : MutT g r f) (ho : PLm g X o mp e1 i) (ha : PAm g X (e :: es) fs e2 [])
    (d : i ∉ e2 := by decide) (hbase : attributeBase o name X.env (eval o X.env) = eval o X.env := by rfl)
    (hfew : ((backTo cpos (starEach (e :: es) X.env)).all (fun x => !x.1) && (backToKw cpos (keywordEach [] X.env)).all (fun x => x.1.isSome)
      && decide ((e :: es).length + ([] : List Keyword).length + (if ([] : List Keyword).isEmpty then 0 else 1) < 30)) = true := by rfl)
    (hline : (apos.endLine == cpos.line) = true := by rfl) (hs : starEach (e :: es) X.env = (false, eval e X.env) :: starEach es X.env := by rfl) (hplain : (backTo cpos (starEach es X.env)).any (·.1) = false := by rfl) :
    PEm g X (.Call (.Attribute o name apos) (e :: es) [] cpos) (mMut i mp isLst fs f) ((e1 ++ e2) ++ [i]) [] :=
  PE.imp (pe_bm PySem.F.plainAttrs_list slot hty hm ho ha hbase hfew hline hs hplain) (mut_r hf d (isLst_ty hK))
theorem tm_mutL0 {name : Str} {id : String} {apos cpos : Pos} {r : V → List V → Hp → VK → Prop} {f : T → List T → Option (T × T)} (hK : g.K = X.K) (slot : Slot "list" name id) (hty : typeOf (.builtin id) = pure (.type "method_descriptor")) (hm : MtR X id r) (hf : MutT g r f) (ho : PLm g X o mp e1 i)
    (hbase : attributeBase o name X.env (eval o X.env) = eval o X.env := by rfl) (hline : (apos.endLine == cpos.line) = true := by rfl) :
    PEm g X (.Call (.Attribute o name apos) [] [] cpos) (mMut i mp isLst mNil f) (e1 ++ [i]) [] :=
  PE.imp (pe_bm0 PySem.F.plainAttrs_list slot hty hm ho hbase hline) (mut_r0 hf (isLst_ty hK))
end
end MI
namespace MI
open PySem PySem.Spec PyProof.Rows L2
theorem list_extend_tupG (l : Addr) (items : Array Value) (n : Nat) (b : Addr) (items2 : Array Value) (n2 : Nat) (dct : Option Addr) (sl : Array (Option Value)) (hs0 : ¬(!items.isEmpty && Builtin.List.listTooLong (items.size + items2.size)) = true) (hs1 : items.size ≤ sizeLine) (hs2 : items.size + items2.size ≤ sizeLine + 1) :
    Meets (Builtin.«list.extend» ⟨[.ref l, .ref b], []⟩) (fun _ R s => s.heap.get? l = some { cls := .type "list", dict := none, data := .seq items n, slots := #[] } ∧ s.heap.get? b = some { cls := .type "tuple", dict := dct, data := .seq items2 n2, slots := sl } ∧ R (.ok (.ret Value.none)) { s with heap := s.heap.update l (Obj.mapSeq fun x => x ++ items2), toks := s.toks }) :=
  .of_wp fun prog w A R s h => by
    obtain ⟨hp, g, d, tk, os⟩ := s
    obtain ⟨hl, hb, h⟩ := h
    have f1 := PySem.AutoSeq1.idx_int
    have f2 := PySem.AutoSeq1.sub_tuple_tuple
    have f3 := PySem.AutoSeq1.sub_list_list
    have f4 := PySem.AutoSeq1.sub_tuple_list
    have f5 := PySem.AutoSeq1.sub_list_tuple
    have hz' : (items ++ items2).size ≤ sizeLine + 1 := by rw [Array.size_append]; exact hs2
    wp_walk using (wpAny_updateSeq hl rfl (hz := hs1) (_hz' := hz')), PySem.AutoSeq1.wpAny_loadPart' hl, PySem.AutoSeq1.wpAny_loadPart' hb
    exact ⟨_, rfl, h⟩
def rExtT (K : PySem.W.Frag) : V → List V → Hp → VK → Prop := fun x vs H Q => ∃ l b xs zs, x = .ref l ∧ vs = [.ref b] ∧ H l = some (.lst xs) ∧ SqT K H b zs ∧ xs.length + zs.length ≤ sizeLine ∧ Q .non (upd H l (.lst (xs ++ zs)))
section
variable {X : Cx}
theorem mt_extT : MtR X "list.extend" (rExtT X.K) := by
  intro pins s σ H x vs v us Q I rx rv h
  obtain ⟨l, b, xs, zs, rfl, rfl, hH, hB, hz, q⟩ := h
  cases rx
  obtain ⟨u, rfl, ru⟩ := rv.one
  cases ru
  obtain ⟨z, its, n, r, hl, e⟩ := I.lstM hH
  obtain ⟨its2, r2, ⟨o2, e2, c2, n2, d2⟩, hz2⟩ := I.tuple hB
  have hl2 := r2.length
  obtain ⟨cc, dct, dd, sl⟩ := o2
  have c2 : cc = .type "tuple" := c2
  have d2 : dd = .seq its2.toArray n2 := d2
  subst c2 d2
  have hsz : its.toArray.size + its2.toArray.size ≤ sizeLine := by rw [List.size_toArray, List.size_toArray]; omega
  have hlong : ¬ (!its.toArray.isEmpty && Builtin.List.listTooLong (its.toArray.size + its2.toArray.size)) = true := by
    rw [notLongL hsz, Bool.and_false]
    exact Bool.false_ne_true
  refine call_meets F.slot_list_extend ⟨_, e, rfl⟩ F.entry_list_extend (F.args_list_extend_2 _ _) (list_extend_tupG l its.toArray n b its2.toArray n2 dct sl hlong (by rw [List.size_toArray]; omega) (by omega)) ⟨e, e2, ?_⟩
  refine ⟨.non, _, I.lset (its' := its ++ its2) hH e (by simp) (r.append r2) ?_, rfl, q⟩
  rw [List.length_append]
  omega
end
def fAppend : T → List T → Option (T × T)
  | .nd (.lst true) ts, [v] => if ts.length < sizeLine then some (.non, .nd (.lst true) (ts ++ [v])) else none
  | _, _ => none
def fExtend : T → List T → Option (T × T)
  | .nd (.lst true) ts, [.nd (.lst true) us] => if ts.length + us.length ≤ sizeLine then some (.non, .nd (.lst true) (ts ++ us)) else none
  | .nd (.lst true) ts, [.nd .tup us] => if ts.length + us.length ≤ sizeLine then some (.non, .nd (.lst true) (ts ++ us)) else none
  | .nd (.lst true) ts, [.nd (.lst false) us] => if ts.length + us.length ≤ sizeLine then some (.non, .nd (.lst true) (ts ++ us)) else none
  | _, _ => none
def fPop : T → List T → Option (T × T)
  | .nd (.lst true) ts, [] => match ts[ts.length - 1]? with
    | some t => if t.imm then some (t, .nd (.lst true) ts.dropLast) else none
    | none => none
  | _, _ => none
section
variable {g : Gc} {S : Addr → Prop} {H : Hp}
theorem own_lst {a : Addr} {ts : List T} {B0 : List Addr} (r : Rp g S H (.nd (.lst true) ts) (.ref a) (a :: B0)) : ∃ xs, H a = some (.lst xs) ∧ RpL g S H ts xs B0 := by
  obtain ⟨a', xs, B, e, at_, eA, c, rl⟩ := r
  injection e with e
  subst e
  have eA : a :: B0 = a :: B := eA
  injection eA with _ eA
  subst eA
  exact ⟨xs, at_, rl⟩
theorem RpL.off {a : Addr} {o' : HO} {ts : List T} {xs ys : List V} {B : List Addr} (r : RpL g S H ts xs B) (ha : H a = some (.lst ys)) (hs : ¬ S a) (hn : a ∉ B) : RpL g S (upd H a o') ts xs B := RpL.grown r ha trivial hs hn
theorem Rp.off {a : Addr} {o' : HO} {t : T} {x : V} {ys : List V} {B : List Addr} (r : Rp g S H t x B) (ha : H a = some (.lst ys)) (hs : ¬ S a) (hn : a ∉ B) : Rp g S (upd H a o') t x B := by
  obtain ⟨y, zs, A1, A2, e1, e2, r1, r2⟩ := RpL.grown (o := o') (RpL.one r) ha trivial hs hn
  injection e1 with e1 e3
  subst e1
  have : A2 = [] := r2.2
  subst this
  rw [List.append_nil] at e2
  subst e2
  exact r1
theorem new_lst {a : Addr} {ts : List T} {xs : List V} {B : List Addr} (r : RpL g S (upd H a (.lst xs)) ts xs B) : Rp g S (upd H a (.lst xs)) (.nd (.lst true) ts) (.ref a) (a :: B) := ⟨a, xs, B, rfl, upd_same, rfl, .inl rfl, r⟩
theorem mut_append : MutT g rAppend fAppend := by
  intro S H a n B0 args xs Ag res n' Q rn ho ra nd ns ef k
  unfold fAppend at ef
  split at ef
  · split at ef
    · rename_i ts v hz
      injection ef with ef
      injection ef with h1 h2
      subst h1; subst h2
      obtain ⟨ys, hH, rl⟩ := own_lst rn
      obtain ⟨y, zs, A1, A2, e1, e2, r1, r2⟩ := ra
      obtain ⟨rfl, rfl⟩ := r2
      subst e1
      rw [List.append_nil] at e2
      subst e2
      obtain ⟨n1, n2⟩ := List.nodup_cons.mp nd
      have nB : a ∉ B0 := fun z => n1 (List.mem_append_left _ z)
      have nG : a ∉ Ag := fun z => n1 (List.mem_append_right _ z)
      refine ⟨a, ys, y, rfl, rfl, hH, by rw [← RpL.length _ _ _ rl]; exact hz, k .non _ (B0 ++ Ag) ?_ rfl ⟨rfl, rfl⟩ nd fun b hb => List.mem_append.mp hb⟩
      exact new_lst (RpL.append _ _ _ _ _ _ (rl.off hH ns nB) (RpL.one (r1.off hH ns nG)))
    · cases ef
  · cases ef
theorem mut_extend : MutT g (fun x vs H Q => rExtend x vs H Q ∨ rExtT g.K x vs H Q) fExtend := by
  intro S H a n B0 args xs Ag res n' Q rn ho ra nd ns ef k
  obtain ⟨n1, n2⟩ := List.nodup_cons.mp nd
  have nB : a ∉ B0 := fun z => n1 (List.mem_append_left _ z)
  have nG : a ∉ Ag := fun z => n1 (List.mem_append_right _ z)
  obtain ⟨m1, m2, m3⟩ := List.nodup_append.mp n2
  unfold fExtend at ef
  split at ef
  · split at ef
    · rename_i ts us hz
      injection ef with ef
      injection ef with h1 h2
      subst h1; subst h2
      obtain ⟨ys, hH, rl⟩ := own_lst rn
      obtain ⟨y, zs, A1, A2, e1, e2, r1, r2⟩ := ra
      obtain ⟨rfl, rfl⟩ := r2
      subst e1
      rw [List.append_nil] at e2
      subst e2
      obtain ⟨b, ws, B, e, at_, eA, c, ru⟩ := r1
      subst e
      have at_ : H b = some (.lst ws) := at_
      have eA : Ag = b :: B := eA
      subst eA
      have nB2 : a ∉ B := fun z => nG (List.mem_cons_of_mem _ z)
      refine .inl ⟨a, b, ys, ws, rfl, rfl, hH, at_, by rw [← RpL.length _ _ _ rl, ← RpL.length _ _ _ ru]; exact hz, k .non _ (B0 ++ B) (new_lst (RpL.append _ _ _ _ _ _ (rl.off hH ns nB) (ru.off hH ns nB2))) rfl ⟨rfl, rfl⟩ ?_ fun b hb => ?_⟩
      · exact nd.sublist (List.Sublist.cons_cons _ (List.Sublist.append (List.Sublist.refl _) (List.sublist_cons_self _ _)))
      · rcases List.mem_append.mp hb with h | h
        · exact .inl h
        · exact .inr (List.mem_cons_of_mem _ h)
    · cases ef
  · split at ef
    · rename_i ts us hz
      injection ef with ef
      injection ef with h1 h2
      subst h1; subst h2
      obtain ⟨ys, hH, rl⟩ := own_lst rn
      obtain ⟨y, zs, A1, A2, e1, e2, r1, r2⟩ := ra
      obtain ⟨rfl, rfl⟩ := r2
      subst e1
      rw [List.append_nil] at e2
      subst e2
      obtain ⟨b, ws, B, e, at_, eA, c, ru⟩ := r1
      subst e
      have eA : Ag = B := eA
      subst eA
      exact .inr ⟨a, b, ys, ws, rfl, rfl, hH, At.sqT at_, by rw [← RpL.length _ _ _ rl, ← RpL.length _ _ _ ru]; exact hz, k .non _ (B0 ++ Ag) (new_lst (RpL.append _ _ _ _ _ _ (rl.off hH ns nB) (ru.off hH ns nG))) rfl ⟨rfl, rfl⟩ nd fun b hb => List.mem_append.mp hb⟩
    · cases ef
  · split at ef
    · rename_i ts us hz
      injection ef with ef
      injection ef with h1 h2
      subst h1; subst h2
      obtain ⟨ys, hH, rl⟩ := own_lst rn
      obtain ⟨y, zs, A1, A2, e1, e2, r1, r2⟩ := ra
      obtain ⟨rfl, rfl⟩ := r2
      subst e1
      rw [List.append_nil] at e2
      subst e2
      obtain ⟨b, ws, B, e, at_, eA, c, ru⟩ := r1
      subst e
      have at_ : H b = some (.lst ws) ∧ S b := at_
      have eA : Ag = B := eA
      subst eA
      exact .inl ⟨a, b, ys, ws, rfl, rfl, hH, at_.1, by rw [← RpL.length _ _ _ rl, ← RpL.length _ _ _ ru]; exact hz, k .non _ (B0 ++ Ag) (new_lst (RpL.append _ _ _ _ _ _ (rl.off hH ns nB) (ru.off hH ns nG))) rfl ⟨rfl, rfl⟩ nd fun b hb => List.mem_append.mp hb⟩
    · cases ef
  · cases ef
theorem RpL.take : ∀ (j : Nat) (ts : List T) (xs : List V) (A : List Addr), RpL g S H ts xs A → ∃ B, RpL g S H (ts.take j) (xs.take j) B ∧ B.Sublist A
  | 0, _, _, _, _ => ⟨[], ⟨rfl, rfl⟩, List.nil_sublist _⟩
  | _ + 1, [], _, _, h => ⟨[], ⟨by rw [h.1]; rfl, rfl⟩, List.nil_sublist _⟩
  | j + 1, t :: ts, xs, A, h => by
    obtain ⟨y, ys, A1, A2, e1, e2, r1, r2⟩ := h
    subst e1; subst e2
    obtain ⟨B, h1, h2⟩ := RpL.take j ts ys A2 r2
    exact ⟨A1 ++ B, ⟨y, ys.take j, A1, B, rfl, rfl, r1, h1⟩, List.Sublist.append (List.Sublist.refl _) h2⟩
theorem RpL.erase : ∀ (j : Nat) (ts : List T) (xs : List V) (A : List Addr), RpL g S H ts xs A → ∃ B, RpL g S H (ts.eraseIdx j) (xs.eraseIdx j) B ∧ B.Sublist A
  | _, [], _, _, h => ⟨[], ⟨by rw [h.1]; rfl, rfl⟩, List.nil_sublist _⟩
  | 0, t :: ts, xs, A, h => by
    obtain ⟨y, ys, A1, A2, e1, e2, r1, r2⟩ := h
    subst e1; subst e2
    exact ⟨A2, r2, List.sublist_append_right _ _⟩
  | j + 1, t :: ts, xs, A, h => by
    obtain ⟨y, ys, A1, A2, e1, e2, r1, r2⟩ := h
    subst e1; subst e2
    obtain ⟨B, h1, h2⟩ := RpL.erase j ts ys A2 r2
    exact ⟨A1 ++ B, ⟨y, ys.eraseIdx j, A1, B, rfl, rfl, r1, h1⟩, List.Sublist.append (List.Sublist.refl _) h2⟩
theorem Rp.imm_one {t : T} {x : V} {A : List Addr} (r : Rp g S H t x A) (hi : t.imm = true) : Rp g S H t x [] := by
  have e := Rp.imm_nil _ _ _ r hi
  rw [← e]; exact r
theorem dropLast_erase {α : Type} (xs : List α) : xs.dropLast = xs.eraseIdx (xs.length - 1) := by
  rw [List.eraseIdx_length_sub_one]
theorem mut_pop : MutT g rPop fPop := by
  intro S H a n B0 args xs Ag res n' Q rn ho ra nd ns ef k
  unfold fPop at ef
  split at ef
  · rename_i ts
    cases ht : ts[ts.length - 1]? with
    | none => rw [ht] at ef; cases ef
    | some t =>
      rw [ht] at ef
      have ef : (if t.imm then some (t, T.nd (.lst true) ts.dropLast) else none) = some (res, n') := ef
      split at ef
      · rename_i him
        injection ef with ef
        injection ef with h1 h2
        subst h1; subst h2
        obtain ⟨ys, hH, rl⟩ := own_lst rn
        obtain ⟨e1, e2⟩ := ra
        subst e1
        obtain ⟨n1, n2⟩ := List.nodup_cons.mp nd
        have nB : a ∉ B0 := fun z => n1 (List.mem_append_left _ z)
        obtain ⟨z, Bz, hz1, hz2, hz3⟩ := RpL.at _ _ _ rl _ t ht
        have hl := RpL.length _ _ _ rl
        obtain ⟨Be, re1, re2⟩ := RpL.erase (ts.length - 1) _ _ _ (rl.off (o' := .lst ys.dropLast) hH ns nB)
        have re3 : RpL g S (upd H a (.lst ys.dropLast)) ts.dropLast ys.dropLast Be := by
          rw [← dropLast_erase] at re1
          rw [hl, ← dropLast_erase] at re1
          exact re1
        refine ⟨a, ys, z, rfl, rfl, hH, by rw [← hl]; exact hz1, k z _ Be (new_lst re3) rfl ((hz2.imm_one him).off hH ns (fun z => nomatch z)) ?_ fun b hb => .inl (re2.subset hb)⟩
        exact nd.sublist (List.Sublist.cons_cons _ (re2.trans (List.sublist_append_left _ _)))
      · cases ef
  · cases ef
end
end MI
namespace MI
open PySem L2
section
variable {g : Gc}
def oe2 (f f' : T → T → Option T) (a b : T) : Option T := match f a b with
  | some t => some t
  | none => f' a b
theorem OpT.or {r r' : R2} {f f' : T → T → Option T} (h : OpT g r f) (h' : OpT g r' f') : OpT g (fun x y H Q => r x y H Q ∨ r' x y H Q) (oe2 f f') := fun S H a b x y Ax Ay t Q ra rb e k => by
  unfold oe2 at e
  cases q : f a b with
  | some u => rw [q] at e; injection e with e; subst e; exact .inl (h S H a b x y Ax Ay u Q ra rb q k)
  | none => rw [q] at e; exact .inr (h' S H a b x y Ax Ay t Q ra rb e k)
def oeC (f f' : List T → Option T) (a : List T) : Option T := match f a with
  | some t => some t
  | none => f' a
theorem CallT.or {r r' : RC} {f f' : List T → Option T} (h : CallT g r f) (h' : CallT g r' f') : CallT g (fun x H Q => r x H Q ∨ r' x H Q) (oeC f f') := fun S H ts xs Ax t Q ra e k => by
  unfold oeC at e
  cases q : f ts with
  | some u => rw [q] at e; injection e with e; subst e; exact .inl (h S H ts xs Ax u Q ra q k)
  | none => rw [q] at e; exact .inr (h' S H ts xs Ax t Q ra e k)
theorem OpP.or {r r' : R2} {f f' : T → T → Option T} (h : OpP g r f) (h' : OpP g r' f') : OpP g (fun x y H Q => r x y H Q ∨ r' x y H Q) (oe2 f f') := fun S H a b x y Ax Ay t Q ra rb e k => by
  unfold oe2 at e
  cases q : f a b with
  | some u => rw [q] at e; injection e with e; subst e; exact .inl (h S H a b x y Ax Ay u Q ra rb q k)
  | none => rw [q] at e; exact .inr (h' S H a b x y Ax Ay t Q ra rb e k)
def fII (h : Int → Int → Option Int) (a b : T) : Option T := match a, b with
  | .int i, .int j => (match h i j with
    | some k => some (.int k)
    | none => none)
  | _, _ => none
def fIB (h : Int → Int → Bool) (a b : T) : Option T := match a, b with
  | .int i, .int j => some (.bl (h i j))
  | _, _ => none
theorem opt_fII {C : Int → Int → Prop} {h : Int → Int → Option Int} {k : Int → Int → Int} (hC : ∀ i j r, h i j = some r → C i j ∧ r = k i j) : OpT g (rI C fun i j => .int (k i j)) (fII h) := fun S H a b x y Ax Ay t Q ra rb e q => by
  unfold fII at e
  split at e
  · rename_i i j
    split at e
    · rename_i r hr
      injection e with e; subst e
      obtain ⟨c, rfl⟩ := hC i j r hr
      exact ⟨i, j, ra.1, rb.1, c, q _ H [] (New.atom ⟨rfl, rfl⟩)⟩
    · cases e
  · cases e
theorem opt_fII0 {h : Int → Int → Option Int} {k : Int → Int → Int} (hC : ∀ i j r, h i j = some r → r = k i j) : OpT g (rI0 fun i j => .int (k i j)) (fII h) := fun S H a b x y Ax Ay t Q ra rb e q => by
  unfold fII at e
  split at e
  · rename_i i j
    split at e
    · rename_i r hr
      injection e with e; subst e
      have c := hC i j r hr
      subst c
      exact ⟨i, j, ra.1, rb.1, q _ H [] (New.atom ⟨rfl, rfl⟩)⟩
    · cases e
  · cases e
theorem opt_fIB {h : Int → Int → Bool} : OpT g (rI0 fun i j => .bl (h i j)) (fIB h) := fun S H a b x y Ax Ay t Q ra rb e q => by
  unfold fIB at e
  split at e
  · rename_i i j
    injection e with e; subst e
    exact ⟨i, j, ra.1, rb.1, q _ H [] (New.atom ⟨rfl, rfl⟩)⟩
  · cases e
def iAdd (i j : Int) : Option Int := some (i + j)
def iSub (i j : Int) : Option Int := some (i - j)
def iXor (i j : Int) : Option Int := some (Builtin.bitXor i j)
def iMul (i j : Int) : Option Int := if i.natAbs.log2 + j.natAbs.log2 < 1000000 then some (i * j) else none
def iDiv (i j : Int) : Option Int := if 0 < j ∧ j.natAbs.log2 < 9000 then some (i / j) else none
def iMod (i j : Int) : Option Int := if 0 < j then some (i % j) else none
def iPow (i j : Int) : Option Int := if 0 ≤ j ∧ j ≤ 1000 ∧ i.natAbs ≤ 1000000 then some (i ^ j.toNat) else none
theorem opt_iAdd : OpT g (rI0 fun i j => .int (i + j)) (fII iAdd) := opt_fII0 (k := fun i j => i + j) fun i j r h => by injection h with h; exact h.symm
theorem opt_iMul : OpT g (rI CMulW fun i j => .int (i * j)) (fII iMul) := opt_fII (k := fun i j => i * j) fun i j r h => by
  unfold iMul at h
  split at h
  · rename_i c; injection h with h; exact ⟨c, h.symm⟩
  · cases h
theorem opt_iDiv : OpT g (rI CDivW fun i j => .int (i / j)) (fII iDiv) := opt_fII (k := fun i j => i / j) fun i j r h => by
  unfold iDiv at h
  split at h
  · rename_i c; injection h with h; exact ⟨c, h.symm⟩
  · cases h
theorem opt_iMod : OpT g (rI (fun _ j => 0 < j) fun i j => .int (i % j)) (fII iMod) := opt_fII (k := fun i j => i % j) fun i j r h => by
  unfold iMod at h
  split at h
  · rename_i c; injection h with h; exact ⟨c, h.symm⟩
  · cases h
theorem cpow {i j : Int} (h : 0 ≤ j ∧ j ≤ 1000 ∧ i.natAbs ≤ 1000000) : CPow i j := ⟨h.1, by omega, by have := h.2.2; omega⟩
theorem opt_iPow : OpT g (rI CPow fun i j => .int (i ^ j.toNat)) (fII iPow) := opt_fII (k := fun i j => i ^ j.toNat) fun i j r h => by
  unfold iPow at h
  split at h
  · rename_i c; injection h with h; exact ⟨cpow c, h.symm⟩
  · cases h
def fNeg (a : T) : Option T := match a with
  | .int i => some (.int (-i))
  | _ => none
def fAddS (a b : T) : Option T := match a, b with
  | .str i, .str j => if i.length + j.length ≤ sizeLine then some (.str (i ++ j)) else none
  | _, _ => none
theorem opt_addS : OpT g (fun x y H Q => ∃ i j, x = .str i ∧ y = .str j ∧ i.length + j.length ≤ sizeLine ∧ Q (.str (i ++ j)) H) fAddS := fun S H a b x y Ax Ay t Q ra rb e q => by
  unfold fAddS at e
  split at e
  · rename_i i j
    split at e
    · rename_i h
      injection e with e; subst e
      exact ⟨i, j, ra.1, rb.1, h, q _ H [] (New.atom ⟨rfl, rfl⟩)⟩
    · cases e
  · cases e
theorem New.node {S : Addr → Prop} {H : Hp} {p : Addr} {xs : List V} {ts : List T} (hp : H p = none) (r : RpL g S H ts xs []) : New g S H (upd H p (.lst xs)) (.nd (.lst true) ts) (.ref p) [p] where
  ext := upd_ext hp
  rep := ⟨p, xs, [], rfl, upd_same, rfl, .inl rfl, r.ext (upd_ext hp)⟩
  nd := List.nodup_cons.mpr ⟨(fun z => nomatch z), List.nodup_nil⟩
  new := fun a ha => by rw [List.mem_singleton.mp ha]; exact hp
theorem New.tupl {S : Addr → Prop} {H : Hp} {p : Addr} {xs : List V} {ts : List T} (hp : H p = none) (r : RpL g S H ts xs []) : New g S H (upd H p (.tup xs)) (.nd .tup ts) (.ref p) [] where
  ext := upd_ext hp
  rep := ⟨p, xs, [], rfl, .inl upd_same, rfl, .inr (.inl rfl), r.ext (upd_ext hp)⟩
  nd := List.nodup_nil
  new := fun a ha => nomatch ha
def kT (t : T) : Option (List T) := match t with
  | .nd .tup ts => if immL ts then some ts else none
  | _ => none
theorem kT_rep {S : Addr → Prop} {H : Hp} {t : T} {ks : List T} {x : V} {Ax : List Addr} (hk : kT t = some ks) (r : Rp g S H t x Ax) : ∃ p xs, x = .ref p ∧ At g S H .tup p xs ∧ RpL g S H ks xs [] := by
  unfold kT at hk
  split at hk
  · split at hk
    · rename_i hi
      injection hk with hk; subst hk
      obtain ⟨a, xs, B, e, at_, eA, c, r⟩ := r
      exact ⟨a, xs, e, at_, r.imm_one hi⟩
    · cases hk
  · cases hk
end
end MI
namespace MI
open PySem L2
section
variable {g : Gc}
def kLe (t : T) : Option (List T) := match t with
  | .nd (.lst _) ts => if immL ts then some ts else none
  | _ => none
theorem kLe_rep {S : Addr → Prop} {H : Hp} {t : T} {ks : List T} {x : V} {Ax : List Addr} (hk : kLe t = some ks) (r : Rp g S H t x Ax) : ∃ p xs, x = .ref p ∧ H p = some (.lst xs) ∧ RpL g S H ks xs [] := by
  unfold kLe at hk
  split at hk
  · split at hk
    · rename_i hi
      injection hk with hk; subst hk
      obtain ⟨a, xs, B, e, at_, eA, c, r⟩ := r
      exact ⟨a, xs, e, at_.lst, r.imm_one hi⟩
    · cases hk
  · cases hk
def fAddL (a b : T) : Option T := match kLe a, kLe b with
  | some xs, some ys => if xs.length + ys.length ≤ sizeLine then some (.nd (.lst true) (xs ++ ys)) else none
  | _, _ => none
theorem opt_addL : OpT g rCat fAddL := fun S H a b x y Ax Ay t Q ra rb e q => by
  unfold fAddL at e
  split at e
  · rename_i us ws ea eb
    split at e
    · rename_i h
      injection e with e; subst e
      obtain ⟨p, xs, e1, h1, r1⟩ := kLe_rep ea ra
      obtain ⟨p2, ys, e2, h2, r2⟩ := kLe_rep eb rb
      refine ⟨p, p2, xs, ys, e1, e2, h1, h2, by rw [← RpL.length _ _ _ r1, ← RpL.length _ _ _ r2]; exact h, fun l hl => ?_⟩
      exact q _ _ [l] (New.node hl (RpL.append _ _ _ _ _ _ r1 r2))
    · cases e
  · cases e
def fAddT (a b : T) : Option T := match kT a, kT b with
  | some xs, some ys => if xs.length + ys.length ≤ sizeLine then some (.nd .tup (xs ++ ys)) else none
  | _, _ => none
theorem opt_addT : OpT g (rCatA g.K) fAddT := fun S H a b x y Ax Ay t Q ra rb e q => by
  unfold fAddT at e
  split at e
  · rename_i us ws ea eb
    split at e
    · rename_i h
      injection e with e; subst e
      obtain ⟨p, xs, e1, h1, r1⟩ := kT_rep ea ra
      obtain ⟨p2, ys, e2, h2, r2⟩ := kT_rep eb rb
      have r12 := RpL.append _ _ _ _ _ _ r1 r2
      refine ⟨p, p2, xs, ys, e1, e2, At.sqT h1, At.sqT h2, by rw [← RpL.length _ _ _ r1, ← RpL.length _ _ _ r2]; exact h, fun z => ?_, fun _ z => ?_, fun _ _ l hl => ?_⟩
      · subst z
        exact q _ H [] (New.atom ⟨p2, ys, [], rfl, h2, rfl, .inr (.inl rfl), r12⟩)
      · subst z
        rw [List.append_nil] at r12
        exact q _ H [] (New.atom ⟨p, xs, [], rfl, h1, rfl, .inr (.inl rfl), r12⟩)
      · exact q _ _ [] (New.tupl hl r12)
    · cases e
  · cases e
def fMulL (a b : T) : Option T := match kLe a, b with
  | some xs, .int k => if k ≤ 1000000 ∧ -1000000 ≤ k ∧ xs.length * k.toNat ≤ sizeLine then some (.nd (.lst true) (List.replicate k.toNat xs).flatten) else none
  | _, _ => none
theorem RpL.rep {S : Addr → Prop} {H : Hp} {ts : List T} {xs : List V} (r : RpL g S H ts xs []) : ∀ n : Nat, RpL g S H (List.replicate n ts).flatten (List.replicate n xs).flatten []
  | 0 => ⟨rfl, rfl⟩
  | n + 1 => by
    rw [List.replicate_succ, List.replicate_succ, List.flatten_cons, List.flatten_cons]
    exact RpL.append _ _ [] _ _ [] r (RpL.rep r n)
theorem opt_mulL : OpT g rRep fMulL := fun S H a b x y Ax Ay t Q ra rb e q => by
  unfold fMulL at e
  split at e
  · rename_i us k ea
    split at e
    · rename_i h
      injection e with e; subst e
      obtain ⟨p, xs, e1, h1, r1⟩ := kLe_rep ea ra
      refine ⟨p, k, xs, e1, rb.1, h1, by omega, by omega, by rw [← RpL.length _ _ _ r1]; exact h.2.2, fun l hl => ?_⟩
      exact q _ _ [l] (New.node hl (r1.rep _))
    · cases e
  · cases e
def okS (x : Str) : Bool := x.cps.toList.all (fun c => Nat.blt c 0x110000)
theorem okS_ok {x : Str} (h : okS x = true) : PySem.PyData.strOk x = true := by
  unfold okS at h
  unfold PySem.PyData.strOk
  rw [← Array.all_toList]
  rw [List.all_eq_true] at h ⊢
  intro c hc
  have := h c hc
  exact decide_eq_true (Nat.blt_eq.mp this)
def Kd.seq : Kd → Bool
  | .tup => true
  | .scr => true
  | .lst _ => true
  | _ => false
mutual
def okD : Nat → T → Bool
  | _, .dead => false
  | _, .non => true
  | _, .bl _ => true
  | _, .int _ => true
  | _, .str s => okS s
  | n, .nd k ts => k.seq && (match n with
    | 0 => false
    | n + 1 => okDL n ts)
def okDL : Nat → List T → Bool
  | _, [] => true
  | n, t :: ts => okD n t && okDL n ts
end
mutual
def toD : T → PyData
  | .dead => .none
  | .non => .none
  | .bl b => .bool b
  | .int i => .int i
  | .str s => .str s
  | .nd k ts => if k.isTup then .tuple (toDL ts) else .list (toDL ts)
def toDL : List T → List PyData
  | [] => []
  | t :: ts => toD t :: toDL ts
end
def eqT : T → T → Bool := fun a b => PyData.eqv (toD a) (toD b)
mutual
theorem okD_ok {S : Addr → Prop} {H : Hp} : ∀ (t : T) (n : Nat) (x : V) (A : List Addr), okD n t = true → Rp g S H t x A → Dp g.K H x (toD t) ∧ (toD t).canLay0 = true ∧ (toD t).depth ≤ n
  | .dead, n, x, A, h, r => by rw [okD] at h; cases h
  | .non, n, x, A, h, r => by rw [r.1]; exact ⟨.non, rfl, Nat.zero_le _⟩
  | .bl b, n, x, A, h, r => by rw [r.1]; exact ⟨.bl b, rfl, Nat.zero_le _⟩
  | .int i, n, x, A, h, r => by rw [r.1]; exact ⟨.int i, rfl, Nat.zero_le _⟩
  | .str s, n, x, A, h, r => by
    rw [okD] at h
    rw [r.1]
    exact ⟨.str s, by unfold toD PyData.canLay0; exact okS_ok h, Nat.zero_le _⟩
  | .nd k ts, n, x, A, h, r => by
    obtain ⟨a, xs, B, e, at_, eA, c, rl⟩ := r
    unfold okD at h
    obtain ⟨hk, hn⟩ := Bool.and_eq_true_iff.mp h
    cases n with
    | zero => cases hn
    | succ n =>
      obtain ⟨d1, d2, d3⟩ := okDL_ok ts n xs B hn rl
      rw [e]
      unfold toD
      cases k with
      | tup =>
        rw [if_pos (show Kd.tup.isTup = true from rfl)]
        exact ⟨.tup (At.sqT at_) d1, by unfold PyData.canLay0; exact d2, by unfold PyData.depth; omega⟩
      | scr =>
        rw [if_neg (show ¬ Kd.scr.isTup = true from fun z => nomatch z)]
        exact ⟨.lst at_.sqS d1, by unfold PyData.canLay0; exact d2, by unfold PyData.depth; omega⟩
      | lst o =>
        rw [if_neg (show ¬ (Kd.lst o).isTup = true from fun z => nomatch z)]
        exact ⟨.lst at_.sqL d1, by unfold PyData.canLay0; exact d2, by unfold PyData.depth; omega⟩
      | dK o ks => cases hk
      | dT o ks => cases hk
      | ins o c fs => cases hk
theorem okDL_ok {S : Addr → Prop} {H : Hp} : ∀ (ts : List T) (n : Nat) (xs : List V) (A : List Addr), okDL n ts = true → RpL g S H ts xs A → DpAll g.K H xs (toDL ts) ∧ PyData.canLayAll0 (toDL ts) = true ∧ PyData.depthAll (toDL ts) ≤ n
  | [], n, xs, A, h, r => by rw [r.1]; exact ⟨.nil, rfl, Nat.zero_le _⟩
  | t :: ts, n, xs, A, h, r => by
    rw [okDL] at h
    obtain ⟨h1, h2⟩ := Bool.and_eq_true_iff.mp h
    obtain ⟨y, ys, A1, A2, e1, e2, r1, r2⟩ := r
    obtain ⟨a1, a2, a3⟩ := okD_ok t n y A1 h1 r1
    obtain ⟨b1, b2, b3⟩ := okDL_ok ts n ys A2 h2 r2
    rw [e1]
    unfold toDL
    exact ⟨.cons a1 b1, by unfold PyData.canLayAll0; rw [a2, b2]; rfl, by unfold PyData.depthAll; omega⟩
end
theorem okD_sh {S : Addr → Prop} {H : Hp} {t : T} {x : V} {A : List Addr} (h : okD 60 t = true) (r : Rp g S H t x A) : Dp g.K H x (toD t) ∧ SeqAt.shaped (toD t) = true := by
  obtain ⟨a, b, c⟩ := okD_ok t 60 x A h r
  exact ⟨a, by unfold SeqAt.shaped; rw [b, decide_eq_true (by omega)]; rfl⟩
def fEq (a b : T) : Option T := if okD 60 a && okD 60 b then some (.bl (eqT a b)) else none
def fNe (a b : T) : Option T := if okD 60 a && okD 60 b then some (.bl (!eqT a b)) else none
theorem opt_eq : OpT g (rEqD g.K) fEq := fun S H a b x y Ax Ay t Q ra rb e q => by
  unfold fEq at e
  split at e
  · rename_i h
    obtain ⟨h1, h2⟩ := Bool.and_eq_true_iff.mp h
    injection e with e; subst e
    obtain ⟨a1, a2⟩ := okD_sh h1 ra
    obtain ⟨b1, b2⟩ := okD_sh h2 rb
    exact ⟨_, _, a1, b1, a2, b2, q _ H [] (New.atom ⟨rfl, rfl⟩)⟩
  · cases e
theorem opt_ne : OpT g (rNeD g.K) fNe := fun S H a b x y Ax Ay t Q ra rb e q => by
  unfold fNe at e
  split at e
  · rename_i h
    obtain ⟨h1, h2⟩ := Bool.and_eq_true_iff.mp h
    injection e with e; subst e
    obtain ⟨a1, a2⟩ := okD_sh h1 ra
    obtain ⟨b1, b2⟩ := okD_sh h2 rb
    exact ⟨_, _, a1, b1, a2, b2, q _ H [] (New.atom ⟨rfl, rfl⟩)⟩
  · cases e
def T.flat : T → Bool
  | .non => true
  | .bl _ => true
  | .int _ => true
  | .str _ => true
  | _ => false
theorem flat_ok {S : Addr → Prop} {H : Hp} {t : T} {x : V} {A : List Addr} (h : t.flat = true) (r : Rp g S H t x A) : flatV x = true := by
  cases t <;> first | (rw [r.1]; rfl) | cases h
theorem flatL_ok {S : Addr → Prop} {H : Hp} : ∀ (ts : List T) (xs : List V) (A : List Addr), ts.all T.flat = true → RpL g S H ts xs A → xs.all flatV = true
  | [], xs, A, h, r => by rw [r.1]; rfl
  | t :: ts, xs, A, h, r => by
    rw [List.all_cons] at h
    obtain ⟨h1, h2⟩ := Bool.and_eq_true_iff.mp h
    obtain ⟨y, ys, A1, A2, e1, e2, r1, r2⟩ := r
    rw [e1, List.all_cons, flat_ok h1 r1, flatL_ok ts ys A2 h2 r2]; rfl
theorem eqV_ok {S : Addr → Prop} {H : Hp} {a b : T} {x y : V} {A B : List Addr} (ha : a.flat = true) (hb : b.flat = true) (ra : Rp g S H a x A) (rb : Rp g S H b y B) : eqV x y = eqT a b := by
  cases a <;> cases b <;> first | (cases ha; done) | (cases hb; done) | (rw [ra.1, rb.1]; rfl) | (rw [ra.1, rb.1]; simp [eqV, eqT, toD, PyData.eqv])
theorem inV_ok {S : Addr → Prop} {H : Hp} {a : T} {x : V} {A : List Addr} (ha : a.flat = true) (ra : Rp g S H a x A) : ∀ (ts : List T) (xs : List V) (B : List Addr), ts.all T.flat = true → RpL g S H ts xs B → inV x xs = ts.any fun t => eqT t a
  | [], xs, B, h, r => by rw [r.1]; rfl
  | t :: ts, xs, B, h, r => by
    rw [List.all_cons] at h
    obtain ⟨h1, h2⟩ := Bool.and_eq_true_iff.mp h
    obtain ⟨y, ys, A1, A2, e1, e2, r1, r2⟩ := r
    have ih := inV_ok ha ra ts ys A2 h2 r2
    unfold inV at ih ⊢
    rw [e1, List.any_cons, List.any_cons, ih, eqV_ok h1 ha r1 ra]
def fInF (neg : Bool) (a b : T) : Option T := match kids b with
  | some ts => if a.flat && ts.all T.flat then some (.bl (if neg then !(ts.any fun t => eqT t a) else ts.any fun t => eqT t a)) else none
  | none => none
theorem kids_rep {S : Addr → Prop} {H : Hp} {t : T} {ks : List T} {x : V} {Ax : List Addr} (hk : kids t = some ks) (r : Rp g S H t x Ax) : ∃ p xs B, x = .ref p ∧ (SqL g.K H p xs ∨ SqT g.K H p xs) ∧ RpL g S H ks xs B := by
  unfold kids at hk
  split at hk
  · injection hk with hk; subst hk
    obtain ⟨a, xs, B, e, at_, eA, c, r⟩ := r
    exact ⟨a, xs, B, e, .inr (At.sqT at_), r⟩
  · injection hk with hk; subst hk
    obtain ⟨a, xs, B, e, at_, eA, c, r⟩ := r
    exact ⟨a, xs, B, e, .inl at_.sqL, r⟩
  · injection hk with hk; subst hk
    obtain ⟨a, xs, B, e, at_, eA, c, r⟩ := r
    exact ⟨a, xs, B, e, .inl at_.sqS, r⟩
  · cases hk
theorem opt_inF {neg : Bool} : OpT g (rIn g.K neg) (fInF neg) := fun S H a b x y Ax Ay t Q ra rb e q => by
  unfold fInF at e
  split at e
  · rename_i ts ek
    split at e
    · rename_i h
      obtain ⟨h1, h2⟩ := Bool.and_eq_true_iff.mp h
      injection e with e; subst e
      obtain ⟨p, xs, B, e1, sq, r⟩ := kids_rep ek rb
      refine ⟨p, xs, e1, sq, flat_ok h1 ra, flatL_ok _ _ _ h2 r, ?_⟩
      rw [inV_ok h1 ra _ _ _ h2 r]
      exact q _ H [] (New.atom ⟨rfl, rfl⟩)
    · cases e
  · cases e
def fInD (neg : Bool) (a b : T) : Option T := match b with
  | .nd (.lst _) ts => if okD 50 a && okDL 50 ts then some (.bl (if neg then !(ts.any fun t => eqT t a) else ts.any fun t => eqT t a)) else none
  | _ => none
theorem toDL_eq : ∀ ts : List T, toDL ts = ts.map toD
  | [] => rfl
  | t :: ts => by rw [toDL, toDL_eq ts]; rfl
theorem inD_key {S : Addr → Prop} {H : Hp} {neg : Bool} {a b : T} {x y : V} {Ax Ay : List Addr} {t : T} (ra : Rp g S H a x Ax) (rb : Rp g S H b y Ay) (e : fInD neg a b = some t) :
    ∃ d ds, Dp g.K H x d ∧ Dp g.K H y (.list ds) ∧ SeqAt.shaped d = true ∧ SeqAt.shaped (.list ds) = true ∧ t = .bl (if neg then !(ds.any fun z => PyData.eqv z d) else ds.any fun z => PyData.eqv z d) := by
  unfold fInD at e
  split at e
  · rename_i o ts
    split at e
    · rename_i h
      obtain ⟨h1, h2⟩ := Bool.and_eq_true_iff.mp h
      injection e with e; subst e
      obtain ⟨p, xs, B, e1, at_, eA, c, r⟩ := rb
      obtain ⟨a1, a2, a3⟩ := okD_ok a 50 x Ax h1 ra
      obtain ⟨b1, b2, b3⟩ := okDL_ok ts 50 xs B h2 r
      refine ⟨toD a, toDL ts, a1, e1 ▸ Dp.lst at_.sqL b1, by unfold SeqAt.shaped; rw [a2, decide_eq_true (by omega)]; rfl, by unfold SeqAt.shaped PyData.canLay0 PyData.depth; rw [b2, decide_eq_true (by omega)]; rfl, ?_⟩
      rw [toDL_eq, List.any_map]
      rfl
    · cases e
  · cases e
theorem opt_inD : OpT g (rInD g.K) (fInD false) := fun S H a b x y Ax Ay t Q ra rb e q => by
  obtain ⟨d, ds, h1, h2, h3, h4, h5⟩ := inD_key ra rb e
  subst h5
  exact ⟨d, ds, h1, h2, h3, h4, q _ H [] (New.atom ⟨rfl, rfl⟩)⟩
theorem opt_notInD : OpT g (rNotInD g.K) (fInD true) := fun S H a b x y Ax Ay t Q ra rb e q => by
  obtain ⟨d, ds, h1, h2, h3, h4, h5⟩ := inD_key ra rb e
  subst h5
  exact ⟨d, ds, h1, h2, h3, h4, q _ H [] (New.atom ⟨rfl, rfl⟩)⟩
def fInS (neg : Bool) (a b : T) : Option T := match a, b with
  | .str s, .str z => (match s.cps.toList with
    | [c] => some (.bl (if neg then !decide (c ∈ z.cps.toList) else decide (c ∈ z.cps.toList)))
    | _ => none)
  | _, _ => none
theorem str1 {s : Str} {c : Nat} (h : s.cps.toList = [c]) : s = ⟨#[c]⟩ := by
  obtain ⟨⟨l⟩⟩ := s
  have h : l = [c] := h
  subst h
  rfl
theorem opt_inS : OpT g rInS (fInS false) := fun S H a b x y Ax Ay t Q ra rb e q => by
  unfold fInS at e
  split at e
  · rename_i s z
    split at e
    · rename_i c hc
      injection e with e; subst e
      exact ⟨c, z, by rw [ra.1, str1 hc], rb.1, q _ H [] (New.atom ⟨rfl, rfl⟩)⟩
    · cases e
  · cases e
theorem opt_notInS : OpT g rNotInS (fInS true) := fun S H a b x y Ax Ay t Q ra rb e q => by
  unfold fInS at e
  split at e
  · rename_i s z
    split at e
    · rename_i c hc
      injection e with e; subst e
      exact ⟨c, z, by rw [ra.1, str1 hc], rb.1, q _ H [] (New.atom ⟨rfl, rfl⟩)⟩
    · cases e
  · cases e
def T.isNon : T → Bool
  | .non => true
  | _ => false
def fIsN (neg : Bool) (a b : T) : Option T := match a, b with
  | .dead, _ => none
  | a, .non => some (.bl (if neg then !a.isNon else a.isNon))
  | _, _ => none
theorem isNon_ok {S : Addr → Prop} {H : Hp} {a : T} {x : V} {A : List Addr} (n : a ≠ .dead) (ra : Rp g S H a x A) : a.isNon = decide (x = .non) := by
  cases a with
  | dead => exact absurd rfl n
  | non => rw [ra.1]; rfl
  | bl b => rw [ra.1]; rfl
  | int i => rw [ra.1]; rfl
  | str s => rw [ra.1]; rfl
  | nd k ts => obtain ⟨a, xs, B, e, _⟩ := ra; rw [e]; rfl
theorem fIsN_some {neg : Bool} {a b t : T} (e : fIsN neg a b = some t) : a ≠ .dead ∧ b = .non ∧ t = .bl (if neg then !a.isNon else a.isNon) := by
  unfold fIsN at e
  split at e
  · cases e
  · rename_i h
    injection e with e
    exact ⟨(fun z => h z), rfl, e.symm⟩
  · cases e
theorem opt_isN : OpT g rIsN (fIsN false) := fun S H a b x y Ax Ay t Q ra rb e q => by
  obtain ⟨h1, h2, h3⟩ := fIsN_some e
  subst h2; subst h3
  refine ⟨rb.1, ?_⟩
  rw [← isNon_ok h1 ra]
  exact q _ H [] (New.atom ⟨rfl, rfl⟩)
theorem opt_notN : OpT g rNotN (fIsN true) := fun S H a b x y Ax Ay t Q ra rb e q => by
  obtain ⟨h1, h2, h3⟩ := fIsN_some e
  subst h2; subst h3
  refine ⟨rb.1, ?_⟩
  rw [← isNon_ok h1 ra]
  exact q _ H [] (New.atom ⟨rfl, rfl⟩)
def fIsB (neg : Bool) (a b : T) : Option T := match a, b with
  | .bl p, .bl r => some (.bl (if neg then !decide (p = r) else decide (p = r)))
  | _, _ => none
theorem opt_isB : OpT g rIsB (fIsB false) := fun S H a b x y Ax Ay t Q ra rb e q => by
  unfold fIsB at e
  split at e
  · injection e with e; subst e
    exact ⟨_, _, ra.1, rb.1, q _ H [] (New.atom ⟨rfl, rfl⟩)⟩
  · cases e
theorem opt_notB : OpT g rNotB (fIsB true) := fun S H a b x y Ax Ay t Q ra rb e q => by
  unfold fIsB at e
  split at e
  · injection e with e; subst e
    exact ⟨_, _, ra.1, rb.1, q _ H [] (New.atom ⟨rfl, rfl⟩)⟩
  · cases e
def fSB (h : Str → Str → Bool) (a b : T) : Option T := match a, b with
  | .str i, .str j => some (.bl (h i j))
  | _, _ => none
theorem opt_fSB {h : Str → Str → Bool} : OpT g (fun x y H Q => ∃ i j, x = .str i ∧ y = .str j ∧ Q (.bl (h i j)) H) (fSB h) := fun S H a b x y Ax Ay t Q ra rb e q => by
  unfold fSB at e
  split at e
  · injection e with e; subst e
    exact ⟨_, _, ra.1, rb.1, q _ H [] (New.atom ⟨rfl, rfl⟩)⟩
  · cases e
def mFrz (fa : M T) : M T := bnd fa fun t => ret t.fz
theorem tm_frz {X : Cx} {e : Expr} {fa : M T} {e1 : List Nat} (h : PEm g X e fa e1 []) : PEm g X e (mFrz fa) e1 [] :=
  PE.imp h fun σ H Q ⟨S, Ts, A, t, Ts', R, e, k⟩ => by
    obtain ⟨t', Ts1, ea, e⟩ := bnd_some e
    have e : some (t'.fz, Ts1) = some (t, Ts') := e
    injection e with e
    injection e with h1 h2
    subst h1; subst h2
    refine ⟨S, Ts, A, t', Ts1, R, ea, fun x H' S' A' Ax R' rx o p s => ?_⟩
    have up : ∀ {u : T} {y : V} {B : List Addr}, Rp g S' H' u y B → Rp g (fun a => S' a ∨ a ∈ Ax) H' u y B := fun r => Rp.keep (M := fun _ => False) (fun a o h _ => h) (fun _ h => h.elim) (fun _ _ h => h) (fun _ h => .inl h) _ _ _ r fun _ _ h => h
    refine k x H' (fun a => S' a ∨ a ∈ Ax) A' [] ⟨fun i => ?_, R'.nd, R'.dj, fun i a ha => ?_, R'.len, ⟨fun a h => ?_, R'.tb⟩⟩ (Rp.fz (fun _ h => .inl h) t' x Ax rx fun a ha => .inr ha) Ow.nil ⟨p.keep, fun a h => .inl (p.sub a h), fun a h => ?_, p.anew⟩ s
    · rcases R'.rep i with h | ⟨y, h1, h2⟩
      · exact .inl h
      · exact .inr ⟨y, h1, up h2⟩
    · rintro (h | h)
      · exact R'.ns i a ha h
      · exact o.dj i (fun z => nomatch z) a h ha
    · rcases h with h | h
      · exact R'.st.st a h
      · have m := Rp.cells _ _ _ rx a h
        cases q : H' a with
        | none => rw [q] at m; exact m.elim
        | some ob => exact ⟨ob, rfl, mut_tbl (by rw [q] at m; exact m)⟩
    · rcases h with h | h
      · exact p.snew a h
      · exact .inr (o.new a h)
end
end MI
namespace MI
open PySem L2
section
variable {g : Gc} {X : Cx} {a b c : Expr} {rest : List Expr} {fa fb fc : M T} {e1 e2 e3 b1 b2 b3 : List Nat} {pos p2 p3 : Pos}
def bOf (t : T) : Option Bool := match t with
  | .bl b => some b
  | _ => none
theorem bOf_some {t : T} {b : Bool} (h : bOf t = some b) : t = .bl b := by
  unfold bOf at h
  split at h
  · injection h with h; rw [h]
  · cases h
def mAndV (fa fb : M T) : M T := bnd fa fun t => bnd (lft (bOf t)) fun c => if c then fb else ret (.bl false)
def mOrV (fa fb : M T) : M T := bnd fa fun t => bnd (lft (bOf t)) fun c => if c then ret (.bl true) else fb
def mNotV (fa : M T) : M T := bnd fa fun t => bnd (lft (bOf t)) fun c => ret (.bl (!c))
theorem tm_one {op : BoolOp} (ha : PEm g X a fa e1 b1) : PEm g X (.BoolOp op [a] pos) fa e1 b1 := pe_one ha
theorem ret_some {α : Type} {x y : α} {s s' : List T} (h : ret x s = some (y, s')) : x = y ∧ s = s' := by
  have h : some (x, s) = some (y, s') := h
  injection h with h
  injection h with h1 h2
  exact ⟨h1, h2⟩
theorem tm_bv {R : Bool → M T} {Rr : Bool → TE} (hR : ∀ k σ H Q, TM g (R k) e2 b2 σ H Q → Rr k σ H Q) (σ : L2.St) (H : Hp) (Q : VK) (h : TM g (bnd fa fun t => bnd (lft (bOf t)) R) (e1 ++ e2) b2 σ H Q) : TM g fa e1 b1 σ H fun x H1 => ∃ c, x = .bl c ∧ Rr c σ H1 Q := by
  obtain ⟨S, Ts, A, t, Ts', R0, e, k⟩ := h
  obtain ⟨ta, Ts1, ea, e⟩ := bnd_some e
  obtain ⟨q, Ts2, eb, e⟩ := bnd_some e
  obtain ⟨ef, rfl⟩ := lft_some eb
  have := bOf_some ef
  subst this
  refine ⟨S, Ts, A, .bl q, Ts2, R0, ea, fun x H1 S1 A1 Ax R1 r1 o1 p1 s1 => ⟨q, r1.1, hR q σ H1 Q ⟨S1, Ts2, A1, t, Ts', R1, e, fun x H2 S2 A2 Ax R2 rx o p s => k x H2 S2 A2 Ax R2 rx (o.rebase p1) (p1.trans R0 p) (s1.trans s)⟩⟩⟩
theorem tm_retB {k : Bool} {σ : L2.St} {H : Hp} {Q : VK} (h : TM g (ret (.bl k)) e2 b2 σ H Q) : Q (.bl k) H := by
  obtain ⟨S, Ts, A, t, Ts', R0, e, w⟩ := h
  obtain ⟨rfl, rfl⟩ := ret_some e
  exact w _ H S A [] R0 ⟨rfl, rfl⟩ Ow.nil Po.refl Stb.refl
theorem tm_and (ha : PEm g X a fa e1 b1) (hb : PEm g X (.BoolOp .And (b :: rest) pos) fb e2 b2) : PEm g X (.BoolOp .And (a :: b :: rest) pos) (mAndV fa fb) (e1 ++ e2) b2 :=
  PE.imp (pe_and ha hb) (tm_bv (R := fun c => if c then fb else ret (.bl false)) (Rr := fun c => fun σ H Q => if c = true then TM g fb e2 b2 σ H Q else Q (.bl false) H) fun k σ H Q h => by
    cases k with
    | true => exact iteT h
    | false => exact iteF (tm_retB h))
theorem tm_or (ha : PEm g X a fa e1 b1) (hb : PEm g X (.BoolOp .Or (b :: rest) pos) fb e2 b2) : PEm g X (.BoolOp .Or (a :: b :: rest) pos) (mOrV fa fb) (e1 ++ e2) b2 :=
  PE.imp (pe_or ha hb) (tm_bv (R := fun c => if c then ret (.bl true) else fb) (Rr := fun c => fun σ H Q => if c = true then Q (.bl true) H else TM g fb e2 b2 σ H Q) fun k σ H Q h => by
    cases k with
    | true => exact iteT (tm_retB h)
    | false => exact iteF h)
theorem tm_not (ha : PEm g X a fa e1 b1) : PEm g X (.UnaryOp .Not a pos) (mNotV fa) e1 [] :=
  PE.imp (pe_not ha) fun σ H Q h => by
    have := tm_bv (g := g) (fa := fa) (e1 := e1) (b1 := b1) (e2 := []) (b2 := []) (R := fun c => ret (.bl (!c))) (Rr := fun c => fun σ H Q => Q (.bl (!c)) H) (fun k σ H Q h => tm_retB h) σ H Q (by rw [List.append_nil]; exact h)
    exact this
def mChain (f f' : T → T → Option T) (fa fb fc : M T) : M T := bnd fa fun a => bnd fb fun b => bnd (lft (f a b)) fun z => bnd (lft (bOf z)) fun k => if k then bnd fc fun c => lft (f' b c) else ret (.bl false)
theorem chain_r {r r' : R2} {f f' : T → T → Option T} (ho : OpT g r f) (ho' : OpT g r' f') (d : ∀ j ∈ b1, j ∉ e2) (d' : ∀ j ∈ b1 ++ b2, j ∉ e3) (σ : L2.St) (H : Hp) (Q : VK) (h : TM g (mChain f f' fa fb fc) (e1 ++ e2 ++ e3) [] σ H Q) : tChain r r' (TM g fa e1 b1) (TM g fb e2 b2) (TM g fc e3 b3) σ H Q := by
  obtain ⟨S, Ts, A, t, Ts', R, q0, k⟩ := h
  obtain ⟨ta, Ts1, ea, q1⟩ := bnd_some q0
  obtain ⟨tb, Ts2, eb, q2⟩ := bnd_some q1
  obtain ⟨tz, Ts3, ez, q3⟩ := bnd_some q2
  obtain ⟨ef, eT⟩ := lft_some ez
  subst eT
  obtain ⟨kk, Ts4, ek, e⟩ := bnd_some q3
  obtain ⟨eg, eT⟩ := lft_some ek
  subst eT
  have ebl := bOf_some eg
  subst ebl
  refine tm_two (bo2 := b2) d R ea eb fun x y H' S' A' Ax Ay R' rx ry ox oxy p s => ?_
  refine ho S' H' ta tb x y Ax Ay _ _ rx ry ef fun z H2 Az n => ⟨kk, n.rep.1, ?_⟩
  have R2 := R'.ext n.ext
  have p2 := p.trans R (Po.ext (S := S') (A := A') n.ext)
  have s2 := s.trans (Stb.ext (eff := []) (Ts := Ts4) (A := A') n.ext)
  rw [List.append_nil] at s2
  cases kk with
  | false =>
    have e : ret (T.bl false) Ts4 = some (t, Ts') := e
    obtain ⟨h1, h2⟩ := ret_some e
    subst h1; subst h2
    refine iteF (k _ H2 S' A' [] R2 ⟨rfl, rfl⟩ Ow.nil p2 (s2.mono fun j hj => List.mem_append_left _ hj))
  | true =>
    have e : bnd fc (fun c => lft (f' tb c)) Ts4 = some (t, Ts') := e
    obtain ⟨tc, Ts5, ec, e⟩ := bnd_some e
    obtain ⟨eh, eT⟩ := lft_some e
    subst eT
    refine iteT ⟨S', Ts4, A', tc, Ts', R2, ec, fun w H3 S3 A3 Aw R3 rw' ow p3 s3 => ?_⟩
    have oy : Ow (b1 ++ b2) H A S' A' Ay := oxy.part (List.sublist_append_right _ _)
    have ry2 : Rp g S' H2 tb y Ay := ry.ext n.ext
    have ry3 := ry2.held R2 oy p3 s3 d'
    refine ho' S3 H3 tb tc y w Ay Aw t Q ry3 rw' eh fun z H4 Az n2 => ?_
    have o : Ow [] H3 A3 S3 A3 Az := Ow.of_new R3 n2
    have p4 := p2.trans R p3
    have s5 := (s2.trans s3).trans (Stb.ext (eff := []) (Ts := Ts') (A := A3) n2.ext)
    rw [List.append_nil] at s5
    exact k z H4 S3 A3 Az (R3.ext n2.ext) n2.rep (o.rebase p4) (p4.trans R (Po.ext n2.ext)) s5
theorem tm_chain {op op' : CmpOp} {r r' : R2} {f f' : T → T → Option T} (hr : OpR X (compareOp op) r) (hr' : OpR X (compareOp op') r') (ho : OpT g r f) (ho' : OpT g r' f') (ha : PEm g X a fa e1 b1) (hb : PEm g X b fb e2 b2) (hc : PEm g X c fc e3 b3) (d : ∀ j ∈ b1, j ∉ e2 := by decide) (d' : ∀ j ∈ b1 ++ b2, j ∉ e3 := by decide)
    (hm : lastMarks [op, op'] [b, c] = false := by with_unfolding_all rfl) : PEm g X (.Compare a [op, op'] [b, c] pos) (mChain f f' fa fb fc) (e1 ++ e2 ++ e3) [] :=
  PE.imp (pe_chain hr hr' ha hb hc hm) (chain_r ho ho' d d')
def tyN (t : T) : Option String := match t with
  | .non => some "NoneType"
  | .bl _ => some "bool"
  | .int _ => some "int"
  | .str _ => some "str"
  | .nd .tup _ => some "tuple"
  | .nd .scr _ => some "list"
  | .nd (.lst _) _ => some "list"
  | .nd (.dK _ _) _ => some "dict"
  | .nd (.dT true _) _ => some "dict"
  | _ => none
theorem tyN_ok {S : Addr → Prop} {H : Hp} {t : T} {x : V} {A : List Addr} {n : String} (r : Rp g S H t x A) (h : tyN t = some n) : TyX g.K H x (.type n) := by
  unfold tyN at h
  split at h
  · injection h with h; subst h; rw [r.1]; exact .base .non
  · injection h with h; subst h; rw [r.1]; exact .base (.bl _)
  · injection h with h; subst h; rw [r.1]; exact .base (.int _)
  · injection h with h; subst h; rw [r.1]; exact .base (.str _)
  · injection h with h; subst h
    obtain ⟨a, xs, B, e, at_, _⟩ := r
    rw [e]
    rcases (show SqT g.K H a xs from At.sqT at_) with (h | ⟨o, h⟩) | ⟨o, _, _, h, hc, _⟩
    · exact .base (.tup h)
    · exact .fTuple h
    · exact .kTuple h hc
  · injection h with h; subst h
    obtain ⟨a, xs, B, e, at_, _⟩ := r
    rw [e]
    rcases (show SqL g.K H a xs from at_.sqS) with (h | ⟨o, h⟩) | ⟨o, _, _, h, hc, _⟩
    · exact .base (.lst h)
    · exact .base (.frz h)
    · exact .kList h hc
  · injection h with h; subst h
    obtain ⟨a, xs, B, e, at_, _⟩ := r
    rw [e]
    exact .base (.lst at_.lst)
  · injection h with h; subst h
    obtain ⟨a, xs, B, e, at_, _⟩ := r
    rw [e]
    exact .base (.dK at_.1)
  · injection h with h; subst h
    obtain ⟨a, xs, B, e, at_, _⟩ := r
    rw [e]
    exact .base (.dT (at_.1.2 rfl))
  · cases h
inductive Bt where
  | int | bool | str | tuple | list | dict
def Bt.nm : Bt → String
  | .int => "int"
  | .bool => "bool"
  | .str => "str"
  | .tuple => "tuple"
  | .list => "list"
  | .dict => "dict"
def isB (c : Bt) (t : T) : Option T := match t with
  | .non => some (.bl false)
  | .bl _ => some (.bl (match c with
    | .bool => true
    | .int => true
    | _ => false))
  | .int _ => some (.bl (match c with
    | .int => true
    | _ => false))
  | .str _ => some (.bl (match c with
    | .str => true
    | _ => false))
  | .nd .tup _ => some (.bl (match c with
    | .tuple => true
    | _ => false))
  | .nd .scr _ => some (.bl (match c with
    | .list => true
    | _ => false))
  | .nd (.lst _) _ => some (.bl (match c with
    | .list => true
    | _ => false))
  | .nd (.dK _ _) _ => some (.bl (match c with
    | .dict => true
    | _ => false))
  | .nd (.dT true _) _ => some (.bl (match c with
    | .dict => true
    | _ => false))
  | _ => none
theorem isB_ok {c : Bt} {t u : T} (h : isB c t = some u) : ∃ n b, tyN t = some n ∧ kitB n c.nm = some b ∧ u = .bl b := by
  unfold isB at h
  split at h <;> first | (cases h; done) | (injection h with h; subst h; cases c <;> exact ⟨_, _, rfl, by decide +kernel, rfl⟩)
theorem tm_isB {c : Bt} {x : Str} (hg : Gl X "isinstance") (hm : X.mg "isinstance" = none) (hgc : Gl X x) (hmc : X.mg x = none) (hv : bootBuiltins x = some (.type c.nm)) (hK : g.K = X.K) (ha : PEm g X a fa e1 b1) (hn : x ≠ "__name__" := by decide) (hdb : (x == ("__debug__" : Str)) = false := by decide)
    (he : starEach [a, .Name x p3] X.env = (false, eval a X.env) :: starEach [.Name x p3] X.env := by rfl) (he2 : starEach [.Name x p3] X.env = (false, eval (.Name x p3) X.env) :: starEach [] X.env := by rfl) (hpl : (backTo pos (starEach [.Name x p3] X.env)).any (·.1) = false := by rfl) : PEm g X (.Call (.Name "isinstance" p2) [a, .Name x p3] [] pos) (m1 (isB c) fa) e1 [] := by
  have h1 : PE X (.Name x p3) (tC (.ty c.nm)) := pe_bltn hgc hmc hv rfl hn hdb
  refine PE.imp (pe_callB call_isi hg hm PyProof.Rows.boot_isinstance (pa_cons ha (pa_cons h1 pa_nil he2) he) (by decide) (by decide) he hpl) fun σ H Q h => ?_
  obtain ⟨S, Ts, A, t, Ts', R, e, k⟩ := h
  obtain ⟨ta, Ts1, ea, e⟩ := bnd_some e
  obtain ⟨ef, rfl⟩ := lft_some e
  refine ⟨S, Ts, A, ta, Ts', R, ea, fun x' H' S' A' Ax R' rx o1 p s => ?_⟩
  obtain ⟨n, b, h1, h2, rfl⟩ := isB_ok ef
  refine ⟨x', _, _, _, b, rfl, .ty c.nm, hK ▸ tyN_ok rx h1, kit_ty h2, ?_⟩
  exact k _ H' S' A' [] R' ⟨rfl, rfl⟩ Ow.nil p s
end
end MI
namespace MI
open PySem PyProof.Rows L2
def GA (A : Around) : Prop := A.guards = some []
theorem GA.deeper {A : Around} (h : GA A) (env : Env) : GA (A.deeper env) := h
theorem GA.in1 {A : Around} (h : GA A) : GA A.in1 := h
theorem GA.make {A : Around} (h : GA A) (C : Addr) (us : List Value) (kw : List (Str × Value)) : GA (A.under (.builtin "type.__call__" ⟨.ref C :: us, kw⟩)) := by
  unfold GA at h ⊢
  simp [Around.under, pushGuards, Code.guards, Code.isGuard, guardIds, h]
structure FnG (P : Program) (w : World) (K : PySem.W.Frag) (mg : Str → Option Value) (base : Heap) (CX : CXT) (k : Nat) (f : Addr) (fd : FuncData) (ps : List Str) (sp : Sp) : Prop where
  lenG : ∀ ys G R Z, sp ys G R Z → ys.length = ps.length
  runG : ∀ (B : Around) (out : List Env) (z : Shared) (G : Hp) (args : Args) (us : List Value) (ys : List V) (R : VK) (Z : XK), GA B → Room k B → Env0 P w K mg base B out z G → BindsTo z fd args (ps.zip us) → Vals ys us → sp ys G R Z →
    codeAny (model P w) B (.call (.ref f) args) (CR CX out P w G z R Z) z
theorem FnG.monoG {P : Program} {w : World} {K : PySem.W.Frag} {mg : Str → Option Value} {base : Heap} {CX : CXT} {j k : Nat} {f : Addr} {fd : FuncData} {ps : List Str} {sp : Sp} (F : FnG P w K mg base CX j f fd ps sp) (h : j ≤ k) :
    FnG P w K mg base CX k f fd ps sp := ⟨F.lenG, fun B out z G args us ys R Z hG hr => F.runG B out z G args us ys R Z hG (hr.mono h)⟩
theorem kept_par {N ps : List Str} {scope : Scope} (S : FnScope N ps scope) {n : Addr} {us : List Value} : ∀ y ∈ ps.zip us, scope.names.lookup y.1 = some .local ∨ (scope.names.lookup y.1 = some .cell ∧ ((cellsFrom n scope.names []).lookup y.1).isSome = true) :=
  fun y hy => (S.par y.1 (List.of_mem_zip hy).1).imp id fun c => ⟨c, PySem.W.cellsFrom_some _ _ _ (.inl c)⟩
theorem ends_call {X : Cx} {R : VK} {σ : L2.St} {G : Hp} {z z' : Shared} {out : List Env} (os : ∀ {σ' : L2.St} {G' : Hp} {v : V} {u : Value}, Inv X [] σ' G' z' → RelV v u → R v G' → CE out X.prog X.w G z R u z') :
    ∀ fl : Flow, SP X [] { nx := fun _ G' => R .non G', rt := R } fl z' → (match fl with
    | .ret u => CE out X.prog X.w G z R u z'
    | .next => CE out X.prog X.w G z R .none z'
    | _ => False)
  | .ret _, ⟨_, _, _, J, rel, q⟩ => os J rel q
  | .next, ⟨_, _, J, q⟩ => os (v := .non) J rfl q
  | .brk, ⟨_, _, _, q⟩ => q
  | .cont, ⟨_, _, _, q⟩ => q
theorem FunD.okG {P : Program} {w : World} {K : PySem.W.Frag} {mg : Str → Option Value} {base : Heap} {x qual : Str} {params : Arguments} {body : List Stmt} {scope : Scope} {dvs : List V} {kws : List (Str × V)} {f : Addr} {fd : FuncData}
    {CX : CXT} {N ps : List Str} {k : Nat} {sp : Sp} (F : FunD K x qual params body scope dvs kws f fd) (S : FnScope N ps scope) (len : ∀ ys G R Z, sp ys G R Z → ys.length = ps.length)
    (hb : ∀ (cdv : Value) (B : Around) (out : List Env) (z : Shared) (G : Hp) (ys : List V) (R : VK) (Z : XK), GA (B.deeper (envOfC qual scope z.heap.objs.size f cdv)) → Room k (B.deeper (envOfC qual scope z.heap.objs.size f cdv)) → sp ys G R Z →
      ∃ t, PSs (cxOf CX P w K mg base N qual scope f cdv B out z G Z) body t ∧ t { nx := fun _ G' => R .non G', rt := R } (start N ys) G) : FnG P w K mg base CX (k + 1) f fd ps sp where
  lenG := len
  runG B out z G args us ys R Z guard room e0 bind rel says := by
    obtain ⟨_, _, _, _, _, _, _, cdv, _, _, rfl, at_, code, _⟩ := F.ex
    have there : base.StaysIn z.heap := fun b o e => (e0.bs b o e).1
    have kin := e0.mod.kin.keeps there
    refine codeAny_call_function room.depth (kin _ _ at_) rfl S.co S.gen rfl (PySem.W.codeRec_of kin code) (bind _ _ _ _ (wpAny_newFunctionEnv_cells S.kind (kept_par S) ?_))
    rintro _ rfl z1 made
    refine ⟨(e0.mod.nolimit.keeps there).keeps made.toInCall.keep, codeAny_func ?_⟩
    obtain ⟨t, walk, q⟩ := hb cdv B out z G ys R Z (guard.deeper _) (room.deeper _) says
    refine wpAny_mono (walk.run [] z1 (start N ys) G _ (inv_start S room.hd e0 (len _ _ _ _ says) rel made) q) (fun fl z' sp' => ?_) fun _ _ x => x
    have fin := ends_call (σ := start N ys) (G := G) (z := z) (out := out) (fun J rel q => ⟨_, _, J.os, J.bare, J.base, J.hok, rel, q⟩) fl sp'
    cases fl <;> first | exact fin | exact fin.elim
section
variable {X : Cx} {CX : CXT} {k : Nat} {f C : Addr} {fd : FuncData} {ps : List Str} {sp : Sp} {E : XK} {x m : Str} {p pos apos : Pos} {e o : Expr} {es : List Expr} {ta : TE} {t : TA}
def Behind (X : Cx) (pins : List (Addr × Obj)) (σ : L2.St) (Q : VK) (r : Result) (s' : Shared) : Prop := match r with
  | .ok (.ret u) => EP X pins σ Q u s'
  | .ok _ => False
  | .error e => X.xe e s'
theorem behind {pins : List (Addr × Obj)} {σ : L2.St} {H : Hp} {s : Shared} {Q : VK} (hx : Passes CX X E) (I : Inv X pins σ H s) : ∀ (r : Result) (s' : Shared), CR CX X.stack X.prog X.w H s Q E r s' → Behind X pins σ Q r s'
  | .ok (.ret _), _, c => I.after c
  | .error e, s', c => hx pins σ H s e s' I c
  | .ok .next, _, c => c.elim
  | .ok .brk, _, c => c.elim
  | .ok .cont, _, c => c.elim
theorem Behind.call {pins : List (Addr × Obj)} {σ : L2.St} {Q : VK} {s : Shared} {f : Value} {us : List Value} {kw : List (Str × Value)} (h : codeAny (model X.prog X.w) X.A (.call f ⟨us, kw⟩) (Behind X pins σ Q) s) : wpAny (model X.prog X.w) X.A (call f us kw) (EP X pins σ Q) X.xe s :=
  wpAny_call (codeAny_mono h fun r s' b => by
    match r, b with
    | .ok (.ret _), b => exact b
    | .error _, b => exact b
    | .ok .next, b => exact b.elim
    | .ok .brk, b => exact b.elim
    | .ok .cont, b => exact b.elim)
theorem run_g {pins : List (Addr × Obj)} {σ : L2.St} {H : Hp} {s : Shared} {Q : VK} {us us2 : List Value} {vs2 : List V} {kw : List (Str × Value)} (F : FnG X.prog X.w X.K X.mg X.base CX k f fd ps sp) (hG : GA X.A) (hr : Room k X.A) (hx : Passes CX X E)
    (I : Inv X pins σ H s) (hb : us2.length = ps.length → BindsTo s fd ⟨us, kw⟩ (ps.zip us2)) (r2 : Vals vs2 us2) (h : sp vs2 H Q E) : wpAny (model X.prog X.w) X.A (call (.ref f) us kw) (EP X pins σ Q) X.xe s :=
  Behind.call (codeAny_mono (F.runG X.A X.stack s H ⟨us, kw⟩ us2 vs2 Q E hG hr I.env0 (hb (r2.length ▸ F.lenG _ _ _ _ h)) r2 h) (behind hx I))
theorem FnG.callR (F : FnG X.prog X.w X.K X.mg X.base CX k f fd ps sp) (hG : GA X.A) (hr : Room k X.A) (hx : Passes CX X E) (hb : Binds X.K fd ps []) : CallR X (.ref f) (fun vs H Q => sp vs H Q E) :=
  fun _ s _ _ _ us _ I r h => run_g F hG hr hx I (fun n => by simpa using hb s us I.kIn (by simpa using n)) r h
theorem pe_callG (F : FnG X.prog X.w X.K X.mg X.base CX k f fd ps sp) (hG : GA X.A) (hr : Room k X.A) (hg : Gl X x) (hm : X.mg x = some (.ref f)) (hk : PySem.W.keepIn X.K (.ref f) = true) (hb : Binds X.K fd ps []) (hx : Passes CX X E)
    (ha : PA X (e :: es) t) (hdb : (x == ("__debug__" : Str)) = false := by decide) (he : starEach (e :: es) X.env = (false, eval e X.env) :: starEach es X.env := by rfl) (hpl : (backTo pos (starEach es X.env)).any (·.1) = false := by rfl) :
    PE X (.Call (.Name x p) (e :: es) [] pos) (tCall sp [] E t) where
  run pins s σ H Q I h := wpAny_Call_Name_kw (ld_glob I hg hm (PySem.W.callWith_K (h₀ := X.base) I.ok.mod.kin hk
    (thn (ha.run pos pins s σ H _ I h) fun us _ b => let ⟨ys, _, J, rel, q⟩ := b; ⟨J.kIn, F.callR hG hr hx hb pins _ σ _ ys us Q J rel (by simpa using q)⟩) he hpl) hdb)
theorem run_makeG {pins : List (Addr × Obj)} {σ : L2.St} {H : Hp} {s : Shared} {Q : VK} {us us2 : List Value} {vs2 : List V} {kw : List (Str × Value)} (M : Mk X.K C f) (F : FnG X.prog X.w X.K X.mg X.base CX k f fd ps sp) (hG : GA X.A) (hr : Room (k + 1) X.A)
    (hb : ∀ (z : Shared) (a : Addr), X.K.In z.heap → (Value.ref a :: us2).length = ps.length → BindsTo z fd ⟨.ref a :: us, kw⟩ (ps.zip (Value.ref a :: us2))) (hx : Passes CX X E) (I : Inv X pins σ H s) (r : Vals vs2 us2)
    (h : ∀ y dx, H y = none → H dx = none → dx ≠ y → sp (.ref y :: vs2) (upd (upd H dx (.own y)) y (.ins C dx [])) (fun v H2 => v = .non ∧ Q (.ref y) H2) E) :
    wpAny (model X.prog X.w) X.A (call (.ref C) us kw) (EP X pins σ Q) X.xe s := by
  have J := Inv.made (C := C) I
  have says := h (s.heap.objs.size + 1) s.heap.objs.size (I.hok.fresh (Nat.le_add_right _ 1)) (I.hok.fresh Nat.le.refl) (Nat.ne_of_lt (Nat.lt_add_one _))
  have rel : Vals (V.ref (s.heap.objs.size + 1) :: vs2) (Value.ref (s.heap.objs.size + 1) :: us2) := .cons rfl r
  refine wpAny_call (make_map (f := f) I.kIn M.makes M.init (beq_iff_eq.mp M.fn) (codeAny_mono (F.runG _ X.stack _ _ ⟨_ :: us, kw⟩ _ _ _ E (hG.make C us kw) (hr.make C us kw) (J.env0.make C us kw) (hb _ _ J.kIn (rel.length ▸ F.lenG _ _ _ _ says)) rel says) fun rr s' c => ?_))
  have b := behind hx J rr s' c
  match rr, b with
  | .ok (.ret _), ⟨_, G', J', rel', rfl, q⟩ => exact ⟨rel', .ref (s.heap.objs.size + 1), G', J', rfl, q⟩
  | .error _, b => exact b
  | .ok .next, b => exact b.elim
  | .ok .brk, b => exact b.elim
  | .ok .cont, b => exact b.elim
theorem pe_makeG (M : Mk X.K C f) (F : FnG X.prog X.w X.K X.mg X.base CX k f fd ps sp) (hG : GA X.A) (hr : Room (k + 1) X.A) (hg : Gl X x) (hm : X.mg x = some (.ref C)) (hb : Binds X.K fd ps []) (hx : Passes CX X E)
    (ha : PA X (e :: es) t) (hdb : (x == ("__debug__" : Str)) = false := by decide) (he : starEach (e :: es) X.env = (false, eval e X.env) :: starEach es X.env := by rfl) (hpl : (backTo pos (starEach es X.env)).any (·.1) = false := by rfl) :
    PE X (.Call (.Name x p) (e :: es) [] pos) (tMake C sp [] E t) where
  run pins s σ H Q I h := wpAny_Call_Name_kw (ld_glob I hg hm (PySem.W.callWith_K (h₀ := X.base) I.ok.mod.kin M.kp
    (thn (ha.run pos pins s σ H _ I h) fun us _ b => let ⟨ys, _, J, rel, q⟩ := b; ⟨J.kIn, run_makeG M F hG hr (fun z a kz n => by simpa using hb z (.ref a :: us) kz (by simpa using n)) hx J rel (by simpa using q)⟩) he hpl) hdb)
theorem pe_propG {g pp : Addr} (he : PE X e ta) (c : Cls X.K C) (hp : PropOf X.K C m pp g) (F : FnG X.prog X.w X.K X.mg X.base CX k g fd ps sp) (hG : GA X.A) (hr : Room (k + 1) X.A) (hb : Binds X.K fd ps []) (hx : Passes CX X.nox E)
    (hab : attributeBase e m X.env (eval e X.env) = eval e X.env := by rfl) : PE X (.Attribute e m pos) (tProp C sp [] E ta) where
  run pins s σ H Q I h := attr_of hab (thn (he.run pins s σ H _ I h) fun u z b => by
    obtain ⟨y, G, J, rel, a, dx, fs, rfl, at_, says⟩ := b
    have eu : u = Value.ref a := rel
    subst eu
    have K1 := J.tok (z.toks + 1)
    obtain ⟨_, O, _⟩ := ins_get J.hok at_
    obtain ⟨_, here, _⟩ := O.look
    have known : (PySem.W.clsIn X.K C).isSome = true := (PySem.W.any_some c.hd).elim fun _ w => by rw [w.1]; rfl
    have get := PySem.W.plainGet_of (c.get m)
    refine PySem.W.get_bind J.kIn here get.1 (PySem.W.findObj_data known hp.at_ hp.get hp.tak) get.2 (wpAny_call (hp.rec_.elim fun _ rec_ => PySem.W.prop_get (s := { z with toks := z.toks + 1 }) J.kIn rec_ ?_))
    refine codeAny_mono (F.runG X.A.in1 X.stack { z with toks := z.toks + 1 } G ⟨[.ref a], []⟩ [.ref a] [.ref a] Q E hG.in1 hr.in1 K1.env0.in1 (hb _ [.ref a] K1.kIn (F.lenG _ _ _ _ says)) (.cons rfl .nil) says) fun r s' c => ?_
    match r, c with
    | .error er, c => exact (hx pins σ G { z with toks := z.toks + 1 } er s' (K1.wish _) c).elim
    | .ok (.ret _), c =>
      obtain ⟨v, G', J3, rel3, q3⟩ := K1.after c
      simp only [PySem.W.handedOut_of (handed_of rel3)]
      exact wpAny_pure ⟨v, G', J3, rel3, q3⟩
    | .ok .next, c => exact c.elim
    | .ok .brk, c => exact c.elim
    | .ok .cont, c => exact c.elim)
end
end MI
namespace MI
open PySem PySem.Spec PyProof.Rows L2
section
variable {g : Gc} {P : Program} {w : World} {K : PySem.W.Frag} {mg : Str → Option Value} {base : Heap} {x qual : Str} {params : Arguments} {body : List Stmt} {scope : Scope} {dvs : List V} {kws : List (Str × V)} {f : Addr} {fd : FuncData}
theorem fn_g {N ps : List Str} {k : Nat} {io : List Nat} {m : M Fl} (F : FunD K x qual params body scope dvs kws f fd) (S : FnScope N ps scope) (hio1 : io.Nodup)
    (hbody : ∀ (cdv : Value) (A : Around) (outer : List Env) (s : Shared) (H : Hp) (E : XK), GA (A.deeper (envOfC qual scope s.heap.objs.size f cdv)) → Room k (A.deeper (envOfC qual scope s.heap.objs.size f cdv)) → ∃ asg eff, PSsm g (cxOf CX0 P w K mg base N qual scope f cdv A outer s H E).nox body m asg eff ∧ ∀ i ∈ io, i ∉ asg ∧ i < ps.length) :
    FnG P w K mg base CX0 (k + 1) f fd ps (spT g io (runB ps.length N.length io m)) := by
  refine FunD.okG F S (fun vs H Q E h => ?_) fun cdv A outer s H vs Q E hG hr h => ?_
  · obtain ⟨S0, ts, A, r, outs, rl, _, _, _, e, _⟩ := h
    unfold runB at e
    split at e
    · rename_i hl
      rw [← RpL.length _ _ _ rl, hl]
    · cases e
  · obtain ⟨asg, eff, hbd, hio2⟩ := hbody cdv A outer s H E hG hr
    have hio := And.intro hio1 hio2
    refine ⟨_, hbd.nox, ?_⟩
    obtain ⟨S0, ts, A, r, outs, rl, nd, ns, st, e, k⟩ := h
    have hl0 := RpL.length _ _ _ rl
    unfold runB at e
    split at e
    · rename_i hl
      obtain ⟨A0, R, sub⟩ := SR.start (N := N) rl nd ns st
      rw [hl] at R
      cases q : m (ts ++ List.replicate (N.length - ps.length) .dead) with
      | none => rw [q] at e; cases e
      | some p =>
        obtain ⟨fl, Ts'⟩ := p
        rw [q] at e
        refine ⟨S0, _, A0, fl, Ts', R, q, fun σ' H' S' A' hσ R' p s' => ?_⟩
        have fin : ∀ (t : T) (x : V) (Ax : List Addr), some (t, io.map (slot Ts')) = some (r, outs) → Rp g S' H' t x Ax → Ow [] H A0 S' A' Ax → Q x H' := fun t x Ax e1 rx o => by
          injection e1 with e1
          injection e1 with h1 h2
          subst h1; subst h2
          have hat : ∀ i ∈ io, σ'[i]? = some (some (vs.getD i .non)) := fun i hi => by
            rw [hσ i (hio.2 i hi).1]
            have hi2 : i < vs.length := by have := (hio.2 i hi).2; omega
            unfold L2.start
            rw [List.getElem?_append_left (by simpa using hi2), List.getElem?_map, List.getD_eq_getElem?_getD, List.getElem?_eq_getElem hi2]; rfl
          obtain ⟨Ao, ro, ndo, hm⟩ := RpL.outs R' io vs hio.1 hat
          have nw : ∀ a ∈ Ao ++ Ax, a ∈ A ∨ noT (H a) = none := fun a ha => by
            have c : (∃ j, a ∈ A0 j) ∨ noT (H a) = none := by
              rcases List.mem_append.mp ha with h | h
              · obtain ⟨i, _, hA⟩ := hm a h
                exact p.anew i a hA
              · exact o.new a h
            rcases c with ⟨j, hj⟩ | h
            · exact .inl (sub j a hj)
            · exact .inr h
          refine k x H' S' Ax Ao rx ro (List.nodup_append.mpr ⟨ndo, o.nd rfl, fun a ha b hb e => ?_⟩) (fun a ha => ?_) R'.st ⟨fun a ob ea na => p.keep a ob ea fun i hi => na (sub i a hi), p.sub, fun a ha => ?_, nw⟩
          · subst e
            obtain ⟨i, _, hA⟩ := hm a ha
            exact o.dj i (fun z => nomatch z) a hb hA
          · rcases List.mem_append.mp ha with h | h
            · obtain ⟨i, _, hA⟩ := hm a h
              exact R'.ns i a hA
            · exact o.ns a h
          · rcases p.snew a ha with h | ⟨i, hi⟩ | h
            · exact .inl h
            · exact .inr (.inl (sub i a hi))
            · exact .inr (.inr h)
        cases fl with
        | rt t => exact fun x Ax rx o => fin t x Ax e rx o
        | nx => exact fin .non .non [] e ⟨rfl, rfl⟩ Ow.nil
        | bk => cases e
        | ct => cases e
    · cases e
end
section
variable {g : Gc} {X : Cx} {k : Nat} {f C : Addr} {fd : FuncData} {ps : List Str} {x m : Str} {p pos apos : Pos} {e o : Expr} {es : List Expr} {fs : M (List T)} {fa : M T} {e1 e2 b1 b2 : List Nat} {io : List Nat} {c : Cal} {ln : List (Option Nat)}
theorem TMc.nil {σ : L2.St} {H : Hp} {Q : List V → Hp → Prop} (h : TMc g mNil [] [] [] σ H Q) : tNil σ H Q := by
  obtain ⟨S, Ts, A, ts, Ts', R, e, k⟩ := h
  obtain ⟨rfl, rfl⟩ := (show [] = ts ∧ Ts = Ts' from by
    have e : some ([], Ts) = some (ts, Ts') := e
    injection e with e
    injection e with h1 h2
    exact ⟨h1, h2⟩)
  exact k [] H S A [] [] R ⟨rfl, rfl, rfl, rfl⟩ Ow.nil Ow.nil (fun _ z => nomatch z) Po.refl Stb.refl
theorem tm_call (F : FnG X.prog X.w X.K X.mg X.base CX0 k f fd ps (spT g io c)) (hG : GA X.A) (hr : Room k X.A) (hg : Gl X x) (hm : X.mg x = some (.ref f)) (hk : PySem.W.keepIn X.K (.ref f) = true) (hb : Binds X.K fd ps []) (ha : PAc g X (e :: es) fs e1 [] ln)
    (hio : io = lentIx 0 ln := by rfl) (hl : ∀ s ∈ ln.filterMap id, s ∈ e1 := by decide) (hdb : (x == ("__debug__" : Str)) = false := by decide) (he : starEach (e :: es) X.env = (false, eval e X.env) :: starEach es X.env := by rfl) (hpl : (backTo pos (starEach es X.env)).any (·.1) = false := by rfl) :
    PEm g X (.Call (.Name x p) (e :: es) [] pos) (mCall c ln fs) e1 [] := PE.imp (pe_callG F hG hr hg hm hk hb (E := E0) pass0 ha hdb he hpl) (call_r rfl hio hl)
theorem tm_callP (F : FnG X.prog X.w X.K X.mg X.base CX0 k f fd ps (spT g io c)) (hG : GA X.A) (hr : Room k X.A) (hg : Gl X x) (hm : X.mg x = some (.ref f)) (hk : PySem.W.keepIn X.K (.ref f) = true) (hb : Binds X.K fd ps []) (ha : PAc g X (e :: es) fs e1 b1 ln)
    (hio : io = lentIx 0 ln := by rfl) (hl : ∀ s ∈ ln.filterMap id, s ∈ e1 := by decide) (hdb : (x == ("__debug__" : Str)) = false := by decide) (he : starEach (e :: es) X.env = (false, eval e X.env) :: starEach es X.env := by rfl) (hpl : (backTo pos (starEach es X.env)).any (·.1) = false := by rfl) :
    PEm g X (.Call (.Name x p) (e :: es) [] pos) (mCallP c ln fs) e1 [] := PE.imp (pe_callG F hG hr hg hm hk hb (E := E0) pass0 ha hdb he hpl) (callP_r hio hl)
end
end MI
namespace MI
open PySem PySem.Spec PyProof.Rows L2
section
variable {g : Gc} {X : Cx}
def oneOf (a b : Str) (i : Nat) : Str := if i = 0 then a else b
theorem two_at {a b : Str} {t u : Tok} {i : Nat} {v : Value} (h : (#[Value.str a t, Value.str b u] : Array Value)[i]? = some v) : ∃ k, v = .str (oneOf a b i) k := by
  match i, h with
  | 0, h => exact ⟨t, (Option.some.inj h).symm⟩
  | 1, h => exact ⟨u, (Option.some.inj h).symm⟩
  | i + 2, h => simp at h
theorem best2 {P : Program} {w : World} {A : Around} {E : Value → Shared → Prop} {s : Shared} {a b : Str} {t u : Tok} {id : String} {op : CmpOp} {bt : Str → Str → Bool} {Q : Value → Shared → Prop} (calm : A.handled = none)
    (byWalk : ∀ {a b : Value} {Q : Value → Shared → Prop}, wpAny (model P w) A.in1 (pyIter (.ref s.heap.objs.size)) (fun it s₂ => ∃ I fp wr n PP St bt, it = .ref I ∧ Walks P w A.in1 I fp wr n PP St ∧ St 0 s₂.heap ∧ (∀ b ∈ fp, b < s₂.heap.objs.size) ∧ 0 < n ∧ CmpOf P w A.in1 op PP bt ∧
      ∀ v h' tk, PP (argBest bt (n - 1)) v → (∀ b o, b ∉ wr → s₂.heap.get? b = some o → h'.get? b = some o) → Q v { s₂ with heap := h', toks := tk }) E { s with heap := s.heap.push { cls := .type "tuple", data := .seq #[a, b] } } → wpAny (model P w) A (call (.builtin id) [a, b]) Q E s)
    (cmp : ∀ (x y : Str) (t u : Tok) (A : Around) (s : Shared) (Q : Value → Shared → Prop) (E : Value → Shared → Prop), Q (.bool (bt x y)) s → wpAny (model P w) A (richCompare op (.str x t) (.str y u)) Q E s)
    (fin : ∀ h' tk, (∀ c o, s.heap.get? c = some o → h'.get? c = some o) → Q (if bt b a then .str b u else .str a t) { s with heap := h', toks := tk }) : wpAny (model P w) A (call (.builtin id) [.str a t, .str b u]) Q E s := by
  have tup : (s.heap.push { cls := .type "tuple", data := .seq #[.str a t, .str b u] }).IsTuple s.heap.objs.size #[.str a t, .str b u] := ⟨_, Heap.get?_push_size _ rfl, rfl, _, rfl⟩
  have next : (s.heap.push { cls := .type "tuple", data := .seq #[Value.str a t, Value.str b u] }).objs.size = s.heap.objs.size + 1 := Heap.size_push ..
  refine byWalk (wpAny_pyIter_tuple tup ⟨_, _, _, _, _, _, fun i j => bt (oneOf a b i) (oneOf a b j), rfl, Walks.tuple (A := A.in1) calm _ s.heap.objs.size (next ▸ Nat.ne_of_lt Nat.le.refl) #[.str a t, .str b u], ⟨⟨_, Heap.get?_push_size _ rfl, rfl, rfl⟩, tup.push _⟩, ?low, Nat.zero_lt_two, ?order, ?end_⟩)
  case low =>
    intro c hc
    rw [Heap.size_push, next]
    rcases List.mem_cons.mp hc with e | hc
    · rw [e, next]; exact Nat.le.refl
    · rw [List.mem_singleton.mp hc]; exact Nat.le_add_right _ 1
  case order =>
    intro i j vi vj s' Q' E' hi hj q
    obtain ⟨_, rfl⟩ := two_at hi
    obtain ⟨_, rfl⟩ := two_at hj
    exact cmp _ _ _ _ _ _ _ _ q
  case end_ =>
    intro v h' tk at_ keep
    have all : ∀ c o, s.heap.get? c = some o → h'.get? c = some o := fun c o g => keep c o (fun m => Nat.lt_irrefl _ (Nat.lt_of_succ_lt (next ▸ (List.mem_singleton.mp m) ▸ Heap.lt_size g))) (Heap.get?_push_of_some _ (Heap.get?_push_of_some _ g))
    have ev : (if bt b a then Value.str b u else Value.str a t) = v := by
      have at_ : (#[Value.str a t, Value.str b u] : Array Value)[argBest (fun i j => bt (oneOf a b i) (oneOf a b j)) 1]? = some v := at_
      cases c : bt b a with
      | true =>
        rw [show argBest (fun i j => bt (oneOf a b i) (oneOf a b j)) 1 = 1 from by simp [argBest, oneOf, c]] at at_
        exact Option.some.inj at_
      | false =>
        rw [show argBest (fun i j => bt (oneOf a b i) (oneOf a b j)) 1 = 0 from by simp [argBest, oneOf, c]] at at_
        exact Option.some.inj at_
    rw [← ev]
    exact fin h' tk all
def ltS (x y : Str) : Bool := decide (x.cps.toList < y.cps.toList)
theorem call_min2S (hc : X.calm = true) : CallR X (.builtin "min") (fun xs H Q => ∃ i j, xs = [.str i, .str j] ∧ Q (.str (if ltS j i then j else i)) H) := by
  intro pins s σ H xs us Q I r h
  obtain ⟨i, j, rfl, q⟩ := h
  obtain ⟨u, w', rfl, ⟨t, rfl⟩, ⟨t', rfl⟩⟩ := vals2 r
  refine best2 (op := .Lt) (bt := ltS) (I.ok.hd hc) (fun h => call_min_two h) (fun x y t u A s Q E q => PySem.P.lt_str q) fun h' tk k => ⟨_, H, I.kept k, ?_, q⟩
  by_cases hj : ltS j i = true
  · rw [if_pos hj, if_pos hj]; exact ⟨_, rfl⟩
  · rw [if_neg hj, if_neg hj]; exact ⟨_, rfl⟩
theorem call_max2S (hc : X.calm = true) : CallR X (.builtin "max") (fun xs H Q => ∃ i j, xs = [.str i, .str j] ∧ Q (.str (if ltS i j then j else i)) H) := by
  intro pins s σ H xs us Q I r h
  obtain ⟨i, j, rfl, q⟩ := h
  obtain ⟨u, w', rfl, ⟨t, rfl⟩, ⟨t', rfl⟩⟩ := vals2 r
  refine best2 (op := .Gt) (bt := fun x y => ltS y x) (I.ok.hd hc) (fun h => call_max_two h) (fun x y t u A s Q E q => PySem.P.gt_str q) fun h' tk k => ⟨_, H, I.kept k, ?_, q⟩
  by_cases hj : ltS i j = true
  · rw [if_pos hj, if_pos hj]; exact ⟨_, rfl⟩
  · rw [if_neg hj, if_neg hj]; exact ⟨_, rfl⟩
def rRepr (K : PySem.W.Frag) : RC := fun xs H Q => ∃ x d, xs = [x] ∧ Dp K H x d ∧ PyData.showable d = true ∧ PyData.hasDict d = false ∧ d.depth ≤ 60 ∧ d.shown.length ≤ sizeLine ∧ Q (.str d.shown) H
theorem call_reprD (hG : GA X.A) (hu : X.A.units + 64 < cLine) : CallR X (.builtin "repr") (rRepr X.K) := by
  intro pins s σ H xs us Q I r h
  obtain ⟨x, d, rfl, hd, hs, hn, hz, hl, q⟩ := h
  obtain ⟨u, rfl, r1⟩ := vals1 r
  obtain ⟨as, rd⟩ := Dp.reads I d x u hd r1
  cases rd with
  | none => exact PySem.P.repr_of_none ⟨.str _, H, I.tok _, ⟨_, rfl⟩, q⟩
  | bool b => exact PySem.P.repr_of_bool ⟨.str _, H, I.tok _, ⟨_, rfl⟩, q⟩
  | int i t => exact PySem.P.repr_of_int (by simpa [PyData.showable] using hs) ⟨.str _, H, I.tok _, ⟨_, rfl⟩, q⟩
  | str y t => exact PySem.P.repr_of_str ⟨.str _, H, I.tok _, ⟨_, rfl⟩, q⟩ hl
  | list h1 h2 h3 h4 => exact repr_of_reads' (.list h1 h2 h3 h4) hs (fun z => by rw [hn] at z; cases z) hG (by omega) (fun _ _ e => e) (fun h' u tk k => ⟨.str _, H, I.kept k, ⟨_, rfl⟩, q⟩) hl
  | tuple h1 h2 h3 h4 => exact repr_of_reads' (.tuple h1 h2 h3 h4) hs (fun z => by rw [hn] at z; cases z) hG (by omega) (fun _ _ e => e) (fun h' u tk k => ⟨.str _, H, I.kept k, ⟨_, rfl⟩, q⟩) hl
  | dict => cases hn
end
end MI
namespace MI
open PySem PySem.Spec PyProof.Rows L2
section
variable {g : Gc} {X : Cx}
theorem RpL.get1 {S : Addr → Prop} {H : Hp} {t : T} {xs : List V} {A : List Addr} (r : RpL g S H [t] xs A) : ∃ x B, xs = [x] ∧ Rp g S H t x B := by
  obtain ⟨y, ys, A1, A2, e1, e2, r1, r2⟩ := r
  exact ⟨y, A1, by rw [e1, r2.1], r1⟩
theorem RpL.get2 {S : Addr → Prop} {H : Hp} {t u : T} {xs : List V} {A : List Addr} (r : RpL g S H [t, u] xs A) : ∃ x y B C, xs = [x, y] ∧ Rp g S H t x B ∧ Rp g S H u y C := by
  obtain ⟨y, ys, A1, A2, e1, e2, r1, r2⟩ := r
  obtain ⟨z, B, e3, r3⟩ := r2.get1
  exact ⟨y, z, A1, B, by rw [e1, e3], r1, r3⟩
def c1 (f : T → Option T) (ts : List T) : Option T := match ts with
  | [t] => f t
  | _ => none
def c2 (f : T → T → Option T) (ts : List T) : Option T := match ts with
  | [t, u] => f t u
  | _ => none
theorem callT1 {r : RC} {f : T → Option T} (h : ∀ S H t x A u Q, Rp g S H t x A → f t = some u → (∀ z H' Az, New g S H H' u z Az → Q z H') → r [x] H Q) : CallT g r (c1 f) := fun S H ts xs Ax t Q ra e k => by
  unfold c1 at e
  split at e
  · obtain ⟨x, B, e1, r1⟩ := ra.get1
    rw [e1]
    exact h S H _ x B t Q r1 e k
  · cases e
theorem callT2 {r : RC} {f : T → T → Option T} (h : ∀ S H t t' x x' A A' u Q, Rp g S H t x A → Rp g S H t' x' A' → f t t' = some u → (∀ z H' Az, New g S H H' u z Az → Q z H') → r [x, x'] H Q) : CallT g r (c2 f) := fun S H ts xs Ax t Q ra e k => by
  unfold c2 at e
  split at e
  · obtain ⟨x, y, B, C, e1, r1, r2⟩ := ra.get2
    rw [e1]
    exact h S H _ _ x y B C t Q r1 r2 e k
  · cases e
def fLen (t : T) : Option T := match t with
  | .str s => if s.length ≤ sizeLine then some (.int s.length) else none
  | .nd .tup ts => some (.int ts.length)
  | .nd .scr ts => some (.int ts.length)
  | .nd (.lst _) ts => some (.int ts.length)
  | _ => none
theorem ct_len : CallT g (fun xs H Q => ∃ x n, xs = [x] ∧ LenV g.K x H n ∧ Q (.int n) H) (c1 fLen) := callT1 fun S H t x A u Q r e k => by
  unfold fLen at e
  split at e
  · split at e
    · rename_i h
      injection e with e; subst e
      exact ⟨x, _, rfl, by rw [r.1]; exact ⟨h, rfl⟩, k _ H [] (New.atom ⟨rfl, rfl⟩)⟩
    · cases e
  · injection e with e; subst e
    obtain ⟨a, xs, B, ex, at_, eA, c, rl⟩ := r
    exact ⟨x, _, rfl, by rw [ex]; exact .inr ⟨xs, At.sqT at_, RpL.length _ _ _ rl⟩, k _ H [] (New.atom ⟨rfl, rfl⟩)⟩
  · injection e with e; subst e
    obtain ⟨a, xs, B, ex, at_, eA, c, rl⟩ := r
    exact ⟨x, _, rfl, by rw [ex]; exact .inl ⟨xs, at_.sqS, RpL.length _ _ _ rl⟩, k _ H [] (New.atom ⟨rfl, rfl⟩)⟩
  · injection e with e; subst e
    obtain ⟨a, xs, B, ex, at_, eA, c, rl⟩ := r
    exact ⟨x, _, rfl, by rw [ex]; exact .inl ⟨xs, at_.sqL, RpL.length _ _ _ rl⟩, k _ H [] (New.atom ⟨rfl, rfl⟩)⟩
  · cases e
def fAbs (t : T) : Option T := match t with
  | .int i => some (.int (if i < 0 then -i else i))
  | _ => none
theorem ct_abs : CallT g (fun xs H Q => ∃ i, xs = [.int i] ∧ Q (.int (if i < 0 then -i else i)) H) (c1 fAbs) := callT1 fun S H t x A u Q r e k => by
  unfold fAbs at e
  split at e
  · injection e with e; subst e
    exact ⟨_, by rw [r.1], k _ H [] (New.atom ⟨rfl, rfl⟩)⟩
  · cases e
def fInt (t : T) : Option T := match t with
  | .int i => some (.int i)
  | .bl b => some (.int (if b then 1 else 0))
  | _ => none
theorem ct_int : CallT g (fun xs H Q => (∃ i, xs = [.int i] ∧ Q (.int i) H) ∨ ∃ k, xs = [.bl k] ∧ Q (.int (if k then 1 else 0)) H) (c1 fInt) := callT1 fun S H t x A u Q r e k => by
  unfold fInt at e
  split at e
  · injection e with e; subst e
    exact .inl ⟨_, by rw [r.1], k _ H [] (New.atom ⟨rfl, rfl⟩)⟩
  · injection e with e; subst e
    exact .inr ⟨_, by rw [r.1], k _ H [] (New.atom ⟨rfl, rfl⟩)⟩
  · cases e
def fMin (t u : T) : Option T := match t, u with
  | .int i, .int j => some (.int (if j < i then j else i))
  | .str i, .str j => some (.str (if ltS j i then j else i))
  | _, _ => none
def fMax (t u : T) : Option T := match t, u with
  | .int i, .int j => some (.int (if j > i then j else i))
  | .str i, .str j => some (.str (if ltS i j then j else i))
  | _, _ => none
theorem ct_min : CallT g (fun xs H Q => (∃ i j, xs = [.int i, .int j] ∧ Q (.int (if j < i then j else i)) H) ∨ (∃ i j, xs = [.str i, .str j] ∧ Q (.str (if ltS j i then j else i)) H)) (c2 fMin) := callT2 fun S H t t' x x' A A' u Q r r' e k => by
  unfold fMin at e
  split at e
  · injection e with e; subst e
    exact .inl ⟨_, _, by rw [r.1, r'.1], k _ H [] (New.atom ⟨rfl, rfl⟩)⟩
  · injection e with e; subst e
    exact .inr ⟨_, _, by rw [r.1, r'.1], k _ H [] (New.atom ⟨rfl, rfl⟩)⟩
  · cases e
theorem ct_max : CallT g (fun xs H Q => (∃ i j, xs = [.int i, .int j] ∧ Q (.int (if j > i then j else i)) H) ∨ (∃ i j, xs = [.str i, .str j] ∧ Q (.str (if ltS i j then j else i)) H)) (c2 fMax) := callT2 fun S H t t' x x' A A' u Q r r' e k => by
  unfold fMax at e
  split at e
  · injection e with e; subst e
    exact .inl ⟨_, _, by rw [r.1, r'.1], k _ H [] (New.atom ⟨rfl, rfl⟩)⟩
  · injection e with e; subst e
    exact .inr ⟨_, _, by rw [r.1, r'.1], k _ H [] (New.atom ⟨rfl, rfl⟩)⟩
  · cases e
def fDivmod (t u : T) : Option T := match t, u with
  | .int i, .int j => if 0 < j ∧ j < 1073741824 then some (.nd .tup [.int (i / j), .int (i % j)]) else none
  | _, _ => none
theorem ct_divmod : CallT g (fun xs H Q => ∃ i j, xs = [.int i, .int j] ∧ CDiv i j ∧ ∀ p, H p = none → Q (.ref p) (upd H p (.tup [.int (i / j), .int (i % j)]))) (c2 fDivmod) := callT2 fun S H t t' x x' A A' u Q r r' e k => by
  unfold fDivmod at e
  split at e
  · split at e
    · rename_i h
      injection e with e; subst e
      refine ⟨_, _, by rw [r.1, r'.1], h, fun p hp => k _ _ [] (New.tupl hp ?_)⟩
      exact ⟨_, _, [], [], rfl, rfl, ⟨rfl, rfl⟩, _, _, [], [], rfl, rfl, ⟨rfl, rfl⟩, rfl, rfl⟩
    · cases e
  · cases e
def boolsOf : List T → Option (List Bool)
  | [] => some []
  | .bl b :: ts => (boolsOf ts).map (b :: ·)
  | _ :: _ => none
def strsOf : List T → Option (List Str)
  | [] => some []
  | .str b :: ts => (strsOf ts).map (b :: ·)
  | _ :: _ => none
theorem boolsOf_ok {S : Addr → Prop} {H : Hp} : ∀ (ts : List T) (bs : List Bool) (xs : List V) (A : List Addr), boolsOf ts = some bs → RpL g S H ts xs A → xs = bs.map V.bl
  | [], bs, xs, A, h, r => by injection h with h; subst h; exact r.1
  | t :: ts, bs, xs, A, h, r => by
    obtain ⟨y, ys, A1, A2, e1, e2, r1, r2⟩ := r
    cases t with
    | bl b =>
      have h : (boolsOf ts).map (b :: ·) = some bs := h
      cases q : boolsOf ts with
      | none => rw [q] at h; cases h
      | some cs =>
        rw [q] at h
        injection h with h
        rw [e1, boolsOf_ok ts cs ys A2 q r2, ← h, r1.1]; rfl
    | _ => cases h
theorem strsOf_ok {S : Addr → Prop} {H : Hp} : ∀ (ts : List T) (bs : List Str) (xs : List V) (A : List Addr), strsOf ts = some bs → RpL g S H ts xs A → xs = bs.map V.str
  | [], bs, xs, A, h, r => by injection h with h; subst h; exact r.1
  | t :: ts, bs, xs, A, h, r => by
    obtain ⟨y, ys, A1, A2, e1, e2, r1, r2⟩ := r
    cases t with
    | str b =>
      have h : (strsOf ts).map (b :: ·) = some bs := h
      cases q : strsOf ts with
      | none => rw [q] at h; cases h
      | some cs =>
        rw [q] at h
        injection h with h
        rw [e1, strsOf_ok ts cs ys A2 q r2, ← h, r1.1]; rfl
    | _ => cases h
def kA (t : T) : Option (List T) := match t with
  | .nd (.lst _) ts => some ts
  | .nd .scr ts => some ts
  | _ => none
theorem kA_rep {S : Addr → Prop} {H : Hp} {t : T} {ks : List T} {x : V} {Ax : List Addr} (hk : kA t = some ks) (r : Rp g S H t x Ax) : ∃ p xs B, x = .ref p ∧ SqL g.K H p xs ∧ RpL g S H ks xs B := by
  unfold kA at hk
  split at hk
  · injection hk with hk; subst hk
    obtain ⟨a, xs, B, e, at_, eA, c, r⟩ := r
    exact ⟨a, xs, B, e, at_.sqL, r⟩
  · injection hk with hk; subst hk
    obtain ⟨a, xs, B, e, at_, eA, c, r⟩ := r
    exact ⟨a, xs, B, e, at_.sqS, r⟩
  · cases hk
def fBools (h : List Bool → Bool) (t : T) : Option T := (kA t).bind fun ts => (boolsOf ts).bind fun bs => some (.bl (h bs))
theorem ct_bools {h : List Bool → Bool} : CallT g (fun vs H Q => ∃ (a : Addr) (bs : List Bool), vs = [V.ref a] ∧ SqL g.K H a (bs.map V.bl) ∧ Q (.bl (h bs)) H) (c1 (fBools h)) := callT1 fun S H t x A u Q r e k => by
  unfold fBools at e
  obtain ⟨ts, e1, e2⟩ := Option.bind_eq_some_iff.mp e
  obtain ⟨bs, e3, e4⟩ := Option.bind_eq_some_iff.mp e2
  injection e4 with e4; subst e4
  obtain ⟨p, xs, B, ex, sq, rl⟩ := kA_rep e1 r
  exact ⟨p, bs, by rw [ex], boolsOf_ok _ _ _ _ e3 rl ▸ sq, k _ H [] (New.atom ⟨rfl, rfl⟩)⟩
def fList (t : T) : Option T := (kidsI t).map fun ts => .nd (.lst true) ts
def fTuple (t : T) : Option T := (kidsI t).map fun ts => .nd .tup ts
theorem ct_tuple : CallT g (fun xs H Q => ∃ p ys, xs = [.ref p] ∧ ((SqL g.K H p ys ∧ ∀ l, H l = none → Q (.ref l) (upd H l (.tup ys))) ∨ (SqT g.K H p ys ∧ Q (.ref p) H))) (c1 fTuple) := callT1 fun S H t x A u Q r e k => by
  unfold fTuple at e
  obtain ⟨ts, e1, e2⟩ := Option.map_eq_some_iff.mp e
  subst e2
  obtain ⟨p, xs, ex, sq, rl⟩ := kidsI_repA e1 r
  refine ⟨p, xs, by rw [ex], ?_⟩
  rcases sq with sq | sq
  · exact .inr ⟨At.sqT sq, k _ H [] (New.atom ⟨p, xs, [], rfl, sq, rfl, .inr (.inl rfl), rl⟩)⟩
  · exact .inl ⟨sq, fun l hl => k _ _ [] (New.tupl hl rl)⟩
mutual
def shwT : T → Bool
  | .int i => Nat.blt i.natAbs.log2 1920
  | .nd _ ts => shwL ts
  | _ => true
def shwL : List T → Bool
  | [] => true
  | t :: ts => shwT t && shwL ts
end
mutual
theorem shwT_ok : ∀ t : T, shwT t = true → PyData.showable (toD t) = true ∧ PyData.hasDict (toD t) = false
  | .dead, _ => ⟨rfl, rfl⟩
  | .non, _ => ⟨rfl, rfl⟩
  | .bl _, _ => ⟨rfl, rfl⟩
  | .str _, _ => ⟨rfl, rfl⟩
  | .int i, h => by
    unfold shwT at h
    exact ⟨by unfold toD PyData.showable; exact decide_eq_true (Nat.blt_eq.mp h), rfl⟩
  | .nd k ts, h => by
    unfold shwT at h
    obtain ⟨h1, h2⟩ := shwL_ok ts h
    unfold toD
    split
    · exact ⟨by unfold PyData.showable; exact h1, by unfold PyData.hasDict; exact h2⟩
    · exact ⟨by unfold PyData.showable; exact h1, by unfold PyData.hasDict; exact h2⟩
theorem shwL_ok : ∀ ts : List T, shwL ts = true → PyData.showableAll (toDL ts) = true ∧ PyData.hasDictAll (toDL ts) = false
  | [], _ => ⟨rfl, rfl⟩
  | t :: ts, h => by
    unfold shwL at h
    obtain ⟨h1, h2⟩ := Bool.and_eq_true_iff.mp h
    obtain ⟨a1, a2⟩ := shwT_ok t h1
    obtain ⟨b1, b2⟩ := shwL_ok ts h2
    unfold toDL
    exact ⟨by unfold PyData.showableAll; rw [a1, b1]; rfl, by unfold PyData.hasDictAll; rw [a2, b2]; rfl⟩
end
def reprT (t : T) : Str := (toD t).shown
def fRepr (t : T) : Option T := if okD 60 t && shwT t && Nat.ble (reprT t).length sizeLine then some (.str (reprT t)) else none
theorem ct_repr : CallT g (rRepr g.K) (c1 fRepr) := callT1 fun S H t x A u Q r e k => by
  unfold fRepr at e
  split at e
  · rename_i h
    obtain ⟨h12, h3⟩ := Bool.and_eq_true_iff.mp h
    obtain ⟨h1, h2⟩ := Bool.and_eq_true_iff.mp h12
    injection e with e; subst e
    obtain ⟨a, b, c⟩ := okD_ok t 60 x A h1 r
    obtain ⟨s1, s2⟩ := shwT_ok t h2
    exact ⟨x, toD t, rfl, a, s1, s2, c, Nat.ble_eq.mp h3, k _ H [] (New.atom ⟨rfl, rfl⟩)⟩
  · cases e
def fIxS (a b : T) : Option T := match kids a, b with
  | some ts, .int i => atI ts i
  | _, _ => none
theorem atI_rep {S : Addr → Prop} {H : Hp} {ts : List T} {xs : List V} {A : List Addr} {i : Int} {t : T} (r : RpL g S H ts xs A) (h : atI ts i = some t) : ∃ x B, atI xs i = some x ∧ Rp g S H t x B ∧ B.Sublist A := by
  unfold atI at h ⊢
  rw [RpL.length _ _ _ r] at h
  cases q : ixN xs.length i with
  | none => rw [q] at h; cases h
  | some j =>
    rw [q] at h
    obtain ⟨x, B, h1, h2, h3⟩ := RpL.at ts xs A r j t h
    exact ⟨x, B, h1, h2, h3⟩
theorem opp_ix : OpP g (fun x y H Q => rIxL g.K x y H Q ∨ rIxT g.K x y H Q) fIxS := fun S H a b x y Ax Ay t Q ra rb e q => by
  unfold fIxS at e
  split at e
  · rename_i ts i ek
    unfold kids at ek
    split at ek
    · injection ek with ek; subst ek
      obtain ⟨p, xs, B, ex, at_, eA, c, r⟩ := ra
      obtain ⟨z, C, h1, h2, h3⟩ := atI_rep r e
      exact .inr ⟨p, xs, i, z, ex, rb.1, At.sqT at_, h1, q z C h2 (h3.trans (by rw [eA]; exact List.Sublist.refl _))⟩
    · injection ek with ek; subst ek
      obtain ⟨p, xs, B, ex, at_, eA, c, r⟩ := ra
      obtain ⟨z, C, h1, h2, h3⟩ := atI_rep r e
      exact .inl ⟨p, xs, i, z, ex, rb.1, at_.sqL, h1, q z C h2 (h3.trans (by rw [eA]; split <;> first | exact List.sublist_cons_self _ _ | exact List.Sublist.refl _))⟩
    · injection ek with ek; subst ek
      obtain ⟨p, xs, B, ex, at_, eA, c, r⟩ := ra
      obtain ⟨z, C, h1, h2, h3⟩ := atI_rep r e
      exact .inl ⟨p, xs, i, z, ex, rb.1, at_.sqS, h1, q z C h2 (h3.trans (by rw [eA]; exact List.Sublist.refl _))⟩
    · cases ek
  · cases e
theorem ixr_seq : IxR X (fun x y H Q => rIxL X.K x y H Q ∨ rIxT X.K x y H Q) := ix_list.or ix_tup
def fIxT (a b : T) : Option T := match a, b with
  | .str z, .int i => if z.length ≤ sizeLine then (atI z.cps.toList i).map fun c => .str ⟨#[c]⟩ else none
  | _, _ => none
theorem opp_ixs : OpP g rIxS fIxT := fun S H a b x y Ax Ay t Q ra rb e q => by
  unfold fIxT at e
  split at e
  · split at e
    · rename_i h
      obtain ⟨c, e1, e2⟩ := Option.map_eq_some_iff.mp e
      subst e2
      exact ⟨_, _, c, ra.1, rb.1, h, e1, q _ [] ⟨rfl, rfl⟩ (List.nil_sublist _)⟩
    · cases e
  · cases e
end
end MI
namespace MI
open PySem PySem.Spec PyProof.Rows L2
section
variable {g : Gc} {X : Cx} {a b c : Expr} {fa fb : M T} {e1 e2 e3 b1 b2 : List Nat} {pos p2 : Pos}
def TMo (g : Gc) (f : M (Option Int)) (eff : List Nat) : TO := fun σ H Q => ∃ S Ts A o Ts', SR g S H σ Ts A ∧ f Ts = some (o, Ts') ∧
  ∀ H' S' A', SR g S' H' σ Ts' A' → Po S H A S' H' A' → Stb eff H Ts A H' Ts' A' → Q o H'
def POm (g : Gc) (X : Cx) (e : Option Expr) (f : M (Option Int)) (eff : List Nat) : Prop := PO X e (TMo g f eff)
theorem PO.imp {X : Cx} {e : Option Expr} {t t' : TO} (h : PO X e t) (i : ∀ σ H Q, t' σ H Q → t σ H Q) : PO X e t' := ⟨fun pins s σ H Q I q => h.run pins s σ H Q I (i σ H Q q)⟩
def mNoP : M (Option Int) := ret none
def iOf (t : T) : Option Int := match t with
  | .int i => some i
  | _ => none
def mPt (fa : M T) : M (Option Int) := bnd fa fun t => bnd (lft (iOf t)) fun i => ret (some i)
theorem tmo_none : POm g X none mNoP [] := PO.imp po_none fun σ H Q ⟨S, Ts, A, o, Ts', R, e, k⟩ => by
  obtain ⟨rfl, rfl⟩ := ret_some e
  exact k H S A R Po.refl Stb.refl
theorem tmo_some (ha : PEm g X a fa e1 b1) : POm g X (some a) (mPt fa) e1 := PO.imp (po_some ha) fun σ H Q ⟨S, Ts, A, o, Ts', R, e, k⟩ => by
  obtain ⟨t, Ts1, q1, q2⟩ := bnd_some e
  obtain ⟨i, Ts2, q3, q4⟩ := bnd_some q2
  obtain ⟨q5, q6⟩ := lft_some q3
  obtain ⟨q7, q8⟩ := ret_some q4
  subst q6; subst q7; subst q8
  refine ⟨S, Ts, A, t, _, R, q1, fun x H' S' A' Ax R' rx o p s => ⟨i, ?_, k H' S' A' R' p s⟩⟩
  unfold iOf at q5
  split at q5
  · injection q5 with q5; rw [← q5]; exact rx.1
  · cases q5
def SlT (g : Gc) (r : V → Option Int → Option Int → Hp → VK → Prop) (f : T → Option Int → Option Int → Option T) : Prop := ∀ S H a x Ax lo hi t Q, Rp g S H a x Ax → f a lo hi = some t → (∀ z H' Az, New g S H H' t z Az → Q z H') → r x lo hi H Q
def cutT {α : Type} (xs : List α) (lo hi : Option Int) : List α := (xs.drop (HT.sIx xs.length 0 lo)).take (HT.sIx xs.length xs.length hi - HT.sIx xs.length 0 lo)
def fCut (a : T) (lo hi : Option Int) : Option T := match a with
  | .nd .tup ts => if immL ts then some (.nd .tup (cutT ts lo hi)) else none
  | .nd (.lst _) ts => if immL ts then some (.nd (.lst true) (cutT ts lo hi)) else none
  | .nd .scr ts => if immL ts then some (.nd (.lst true) (cutT ts lo hi)) else none
  | .str z => if z.length ≤ sizeLine then some (.str (cutS z lo hi)) else none
  | _ => none
theorem RpL.drop {S : Addr → Prop} {H : Hp} : ∀ (n : Nat) (ts : List T) (xs : List V), RpL g S H ts xs [] → RpL g S H (ts.drop n) (xs.drop n) []
  | 0, ts, xs, r => r
  | n + 1, [], xs, r => by rw [r.1]; exact ⟨rfl, rfl⟩
  | n + 1, t :: ts, xs, r => by
    obtain ⟨y, ys, A1, A2, h1, h2, r1, r2⟩ := r
    obtain ⟨rfl, rfl⟩ := List.append_eq_nil_iff.mp h2.symm
    rw [h1]
    exact RpL.drop n ts ys r2
theorem RpL.take0 {S : Addr → Prop} {H : Hp} : ∀ (n : Nat) (ts : List T) (xs : List V), RpL g S H ts xs [] → RpL g S H (ts.take n) (xs.take n) []
  | 0, ts, xs, r => ⟨rfl, rfl⟩
  | n + 1, [], xs, r => by rw [r.1]; exact ⟨rfl, rfl⟩
  | n + 1, t :: ts, xs, r => by
    obtain ⟨y, ys, A1, A2, h1, h2, r1, r2⟩ := r
    obtain ⟨rfl, rfl⟩ := List.append_eq_nil_iff.mp h2.symm
    rw [h1]
    exact ⟨y, ys.take n, [], [], rfl, rfl, r1, RpL.take0 n ts ys r2⟩
theorem RpL.cut {S : Addr → Prop} {H : Hp} {ts : List T} {xs : List V} {lo hi : Option Int} (r : RpL g S H ts xs []) : RpL g S H (cutT ts lo hi) (cutV xs lo hi) [] := by
  unfold cutT cutV
  rw [RpL.length _ _ _ r]
  exact RpL.take0 _ _ _ (RpL.drop _ _ _ r)
def rCut (K : PySem.W.Frag) : V → Option Int → Option Int → Hp → VK → Prop := fun x lo hi H Q => rSlL K x lo hi H Q ∨ (rSlA K x lo hi H Q ∨ rSlS x lo hi H Q)
theorem sl_cut : SlR X (rCut X.K) := sl_list.or (sl_tupA.or sl_str)
theorem slt_cut : SlT g (rCut g.K) fCut := fun S H a x Ax lo hi t Q ra e q => by
  unfold fCut at e
  split at e
  · split at e
    · rename_i hi'
      injection e with e; subst e
      obtain ⟨p, xs, B, ex, at_, eA, c, r⟩ := ra
      have r0 := r.imm_one hi'
      refine .inr (.inl ⟨p, xs, ex, At.sqT at_, fun hw => ?_, fun hw l hl => q _ _ [] (New.tupl hl r0.cut)⟩)
      have e0 : cutV xs lo hi = xs := by
        unfold cutV
        rw [hw.1, hw.2, List.drop_zero, Nat.sub_zero, List.take_length]
      have rc := r0.cut (lo := lo) (hi := hi)
      rw [e0] at rc
      exact q _ H [] (New.atom ⟨p, xs, [], rfl, at_, rfl, .inr (.inl rfl), rc⟩)
    · cases e
  · split at e
    · rename_i hi'
      injection e with e; subst e
      obtain ⟨p, xs, B, ex, at_, eA, c, r⟩ := ra
      exact .inl ⟨p, xs, ex, at_.sqL, fun l hl => q _ _ [l] (New.node hl (r.imm_one hi').cut)⟩
    · cases e
  · split at e
    · rename_i hi'
      injection e with e; subst e
      obtain ⟨p, xs, B, ex, at_, eA, c, r⟩ := ra
      exact .inl ⟨p, xs, ex, at_.sqS, fun l hl => q _ _ [l] (New.node hl (r.imm_one hi').cut)⟩
    · cases e
  · split at e
    · rename_i h
      injection e with e; subst e
      exact .inr (.inr ⟨_, ra.1, h, q _ H [] (New.atom ⟨rfl, rfl⟩)⟩)
    · cases e
  · cases e
def mSl (f : T → Option Int → Option Int → Option T) (fa : M T) (fl fh : M (Option Int)) : M T := bnd fa fun t => bnd fl fun l => bnd fh fun h => lft (f t l h)
theorem tm_slice {lo hi : Option Expr} {fl fh : M (Option Int)} {r : V → Option Int → Option Int → Hp → VK → Prop} {f : T → Option Int → Option Int → Option T} (hr : SlR X r) (hf : SlT g r f) (ha : PEm g X a fa e1 b1) (hl : POm g X lo fl e2) (hh : POm g X hi fh e3) (d : ∀ j ∈ b1, j ∉ e2 ++ e3 := by decide) :
    PEm g X (.Subscript a (.Slice lo hi none p2) pos) (mSl f fa fl fh) (e1 ++ (e2 ++ e3)) [] := PE.imp (pe_slice hr ha hl hh) fun σ H Q h => by
  obtain ⟨S, Ts, A, t, Ts', R, q0, k⟩ := h
  obtain ⟨ta, Ts1, ea, q1⟩ := bnd_some q0
  obtain ⟨l, Ts2, el, q2⟩ := bnd_some q1
  obtain ⟨hh', Ts3, eh, q3⟩ := bnd_some q2
  obtain ⟨ef, eT⟩ := lft_some q3
  subst eT
  refine ⟨S, Ts, A, ta, Ts1, R, ea, fun x H1 S1 A1 Ax R1 r1 o1 p1 s1 => ⟨S1, Ts1, A1, l, Ts2, R1, el, fun H2 S2 A2 R2 p2 s2 => ⟨S2, Ts2, A2, hh', _, R2, eh, fun H3 S3 A3 R3 p3 s3 => ?_⟩⟩⟩
  have p23 := p2.trans R1 p3
  have s23 := s2.trans s3
  have r3 := r1.held R1 o1 p23 s23 d
  refine hf S3 H3 ta x Ax l hh' t Q r3 ef fun z H4 Az n => ?_
  have o : Ow [] H3 A3 S3 A3 Az := Ow.of_new R3 n
  have p4 := p1.trans R p23
  have s5 := (s1.trans s23).trans (Stb.ext (eff := []) (Ts := Ts') (A := A3) n.ext)
  rw [List.append_nil] at s5
  exact k z H4 S3 A3 Az (R3.ext n.ext) n.rep (o.rebase p4) (p4.trans R (Po.ext n.ext)) s5
theorem tm_glob {x : Str} {v : V} {u : Value} {t : T} (hg : Gl X x) (hm : X.mg x = some u) (r : RelV v u) (hr : ∀ S H, Rp g S H t v []) (hd : (x == ("__debug__" : Str)) = false := by decide) : PEm g X (.Name x pos) (mC t) [] [] := tm_c (pe_glob hg hm r hd) hr
inductive Wr (K : PySem.W.Frag) : T → V → Prop where
  | non : Wr K .non .non
  | bl (b : Bool) : Wr K (.bl b) (.bl b)
  | int (i : Int) : Wr K (.int i) (.int i)
  | str (s : Str) : Wr K (.str s) (.str s)
theorem SR.puts {S : Addr → Prop} {H : Hp} {σ : L2.St} {Ts Ts' : List T} {A : Nat → List Addr} {i : Nat} {t : T} {v : V} {Av : List Addr} (R : SR g S H σ Ts A) (q : mPut i t Ts = some ((), Ts')) (r : Rp g S H t v Av) (nd : Av.Nodup) (dj : ∀ a ∈ Av, ¬ S a ∧ ∀ i, a ∉ A i) :
    ∃ A', SR g S H (σ.set i (some v)) Ts' A' ∧ (∀ k, ∀ a ∈ A' k, (∃ j, a ∈ A j) ∨ a ∈ Av) ∧ ∀ j, j ≠ i → slot Ts' j = slot Ts j ∧ A' j = A j := by
  unfold mPut at q
  split at q
  · rename_i hi
    injection q with q
    injection q with _ q
    subst q
    refine ⟨_, R.put hi r nd dj, fun k a ha => ?_, fun j hj => ⟨slot_set_ne hj, if_neg hj⟩⟩
    split at ha
    · exact .inr ha
    · exact .inl ⟨k, ha⟩
  · cases q
theorem par_r {i j : Nat} {fs : M (List T)} (D : Ends) (σ : L2.St) (H : Hp) (h : TSm g (mPar i j fs) [i, j] (e1 ++ [i, j]) D σ H) : tPar i j (TMs g fs e1 []) D σ H := by
  obtain ⟨S, Ts, A, fl, Ts', R, q, k⟩ := h
  obtain ⟨ts, Ts1, q1, q2⟩ := bnd_some q
  obtain ⟨_, Ts2, q3, q4⟩ := bnd_some q2
  obtain ⟨h1, h2⟩ := ret_some q4
  subst h1; subst h2
  refine ⟨S, Ts, A, ts, Ts1, R, q1, fun xs H1 S1 A1 Ax R1 rx o p s => ?_⟩
  cases ts with
  | nil => cases q3
  | cons t ts =>
    obtain ⟨_, Ts3, q5, q6⟩ := bnd_some q3
    cases ts with
    | nil => cases q6
    | cons u ts =>
      obtain ⟨_, Ts4, q7, q8⟩ := bnd_some q6
      cases ts with
      | cons _ _ => cases q8
      | nil =>
        obtain ⟨_, hh⟩ := ret_some q8
        subst hh
        obtain ⟨y, ys, B1, B2, y1, y2, r1, r2⟩ := rx
        obtain ⟨z, zs, B3, B4, z1, z2, r3, r4⟩ := r2
        obtain ⟨w1, w2⟩ := r4
        subst w1; subst w2; subst z1; subst y1
        rw [List.append_nil] at z2
        subst z2; subst y2
        obtain ⟨nd1, nd2, nd3⟩ := List.nodup_append.mp (o.nd rfl)
        have dj : ∀ a ∈ B1 ++ B2, ¬ S1 a ∧ ∀ i, a ∉ A1 i := fun a ha => ⟨o.ns a ha, fun i => o.dj i (fun z => nomatch z) a ha⟩
        obtain ⟨A2, R2, n2, st2⟩ := R1.puts q5 r1 nd1 fun a ha => dj a (List.mem_append_left _ ha)
        obtain ⟨A3, R3, n3, st3⟩ := R2.puts q7 r3 nd2 fun a ha => ⟨(dj a (List.mem_append_right _ ha)).1, fun i hi => by
          rcases n2 i a hi with ⟨j, hj⟩ | h
          · exact (dj a (List.mem_append_right _ ha)).2 j hj
          · exact nd3 a h a ha rfl⟩
        refine ⟨y, z, rfl, k _ H1 S1 A3 (fun m hm => ?_) R3 ⟨p.keep, p.sub, p.snew, fun m a ha => ?_⟩ fun m hm => ?_⟩
        · rw [List.getElem?_set_ne (fun h => hm (by simp [h])), List.getElem?_set_ne (fun h => hm (by simp [h]))]
        · rcases n3 m a ha with ⟨j', hj⟩ | h
          · rcases n2 j' a hj with ⟨j2, hj2⟩ | h
            · exact p.anew j2 a hj2
            · exact o.new a (List.mem_append_left _ h)
          · exact o.new a (List.mem_append_right _ h)
        · have m1 : m ≠ i := fun h => hm (by simp [h])
          have m2 : m ≠ j := fun h => hm (by simp [h])
          obtain ⟨x1, x2, x3⟩ := s m fun h => hm (List.mem_append_left _ h)
          obtain ⟨u1, u2⟩ := st2 m m1
          obtain ⟨v1, v2⟩ := st3 m m2
          exact ⟨(v1.trans u1).trans x1, (v2.trans u2).trans x2, x3⟩
theorem ts_par {i j : Nat} {st : Stmt} {fs : M (List T)} (h : PS X st (tPar i j (TMs g fs e1 []))) : PSm g X st (mPar i j fs) [i, j] (e1 ++ [i, j]) := PS.imp h par_r
end
end MI
namespace MI
open PySem PySem.Spec PyProof.Rows L2
section
variable {g : Gc} {X : Cx} {o b : Expr} {fa fk : M T} {mp : M (List Nat)} {e1 e2 e3 b1 b3 : List Nat} {pos p2 : Pos} {i : Nat}
def rSt : V → List V → Hp → VK → Prop := fun x xs H Q => ∃ iv v, xs = [iv, v] ∧ rSetL x iv v H fun H' => Q .non H'
def fSt (n : T) (args : List T) : Option (T × T) := match n, args with
  | .nd (.lst true) ts, [.int k, v] => (match ixN ts.length k with
    | some j => some (.non, .nd (.lst true) (ts.set j v))
    | none => none)
  | _, _ => none
theorem ixN_lt {n : Nat} {k : Int} {j : Nat} (h : ixN n k = some j) : j < n := by
  unfold ixN at h
  grind
theorem mut_st : MutT g rSt fSt := fun S H a n B0 args xs Ag res n' Q rn ho ra nd nS ef k => by
  unfold fSt at ef
  split at ef
  · rename_i ts kk v
    split at ef
    · rename_i j hj
      injection ef with ef
      injection ef with h1 h2
      subst h1; subst h2
      obtain ⟨a', xs0, B, ex, at_, eA, c, rl⟩ := rn
      injection ex with ex
      subst ex
      have eA : a :: B0 = a :: B := eA
      injection eA with _ eA
      subst eA
      have at_ : H a = some (.lst xs0) := at_
      have hl := RpL.length _ _ _ rl
      have hjl := ixN_lt hj
      obtain ⟨z, B1, B2, B3, hz, eB, rz, r1, r3⟩ := RpL.split ts xs0 B0 rl j ts[j] (by simp [hjl])
      obtain ⟨iv, ys, C1, C2, y1, y2, w1, w2⟩ := ra
      obtain ⟨vv, C, z1, w3⟩ := w2.get1
      subst z1
      have hC : RpL g S H [v] [vv] C2 := w2
      have w3 : Rp g S H v vv C2 := by
        obtain ⟨q, qs, D1, D2, d1, d2, d3, d4⟩ := hC
        injection d1 with d1 d5
        subst d1
        rw [d2, d4.2, List.append_nil]; exact d3
      have eC : C1 = [] := w1.2
      subst eC
      rw [List.nil_append] at y2
      subst y2
      refine ⟨iv, vv, y1, a, xs0, kk, j, rfl, w1.1, at_, by rw [← hl]; exact hj, ?_⟩
      obtain ⟨na, nd2⟩ := List.nodup_cons.mp nd
      have kp : ∀ {ts : List T} {xs : List V} {D : List Addr}, RpL g S H ts xs D → (∀ b ∈ D, b ≠ a) → RpL g S (upd H a (.lst (xs0.set j vv))) ts xs D := fun r hD => RpL.keep (M := fun b => b = a) (fun b o e n => by rw [upd_ne n]; exact e) (fun b e => by rw [e, at_]; trivial) (fun b hb e => nS (e ▸ hb)) (fun _ h => h) _ _ _ r hD
      have kp1 : ∀ {t : T} {x : V} {D : List Addr}, Rp g S H t x D → (∀ b ∈ D, b ≠ a) → Rp g S (upd H a (.lst (xs0.set j vv))) t x D := fun r hD => Rp.keep (M := fun b => b = a) (fun b o e n => by rw [upd_ne n]; exact e) (fun b e => by rw [e, at_]; trivial) (fun b hb e => nS (e ▸ hb)) (fun _ h => h) _ _ _ r hD
      have nB : ∀ b ∈ B0, b ≠ a := fun b hb e => na (List.mem_append_left _ (e ▸ hb))
      have nC : ∀ b ∈ Ag, b ≠ a := fun b hb e => na (List.mem_append_right _ (e ▸ hb))
      have hjx : j < xs0.length := by rw [← hl]; exact hjl
      have rj : RpL g S (upd H a (.lst (xs0.set j vv))) (ts.set j v) (xs0.set j vv) (B1 ++ (Ag ++ B3)) := by
        refine RpL.join hjl (by simp [hjx]) (by rw [List.length_set]; exact hl) ?_ (kp1 w3 nC) ?_
        · have : (xs0.set j vv).take j = xs0.take j := by rw [List.take_set_of_le (Nat.le_refl _)]
          rw [this]
          exact kp r1 fun b hb => nB b (by rw [eB]; exact List.mem_append_left _ hb)
        · have : (xs0.set j vv).drop (j + 1) = xs0.drop (j + 1) := by rw [List.drop_set_of_lt (Nat.lt_succ_self _)]
          rw [this]
          exact kp r3 fun b hb => nB b (by rw [eB]; exact List.mem_append_right _ (List.mem_append_right _ hb))
      have inB : ∀ b ∈ B1 ++ (Ag ++ B3), b ∈ B0 ∨ b ∈ Ag := fun b hb => by
        rcases List.mem_append.mp hb with h | h
        · exact .inl (by rw [eB]; exact List.mem_append_left _ h)
        · rcases List.mem_append.mp h with h | h
          · exact .inr h
          · exact .inl (by rw [eB]; exact List.mem_append_right _ (List.mem_append_right _ h))
      refine k .non (.lst (xs0.set j vv)) (B1 ++ (Ag ++ B3)) ⟨a, _, _, rfl, upd_same, rfl, .inl rfl, rj⟩ rfl ⟨rfl, rfl⟩ (List.nodup_cons.mpr ⟨fun h => ?_, ?_⟩) inB
      · rcases inB a h with h | h
        · exact nB a h rfl
        · exact nC a h rfl
      · obtain ⟨n1, n2, n3⟩ := List.nodup_append.mp nd2
        rw [eB] at n1 n3
        obtain ⟨m1, m2, m3⟩ := List.nodup_append.mp n1
        obtain ⟨_, l2, l3⟩ := List.nodup_append.mp m2
        refine List.nodup_append.mpr ⟨m1, List.nodup_append.mpr ⟨n2, l2, fun x hx y hy e => ?_⟩, fun x hx y hy e => ?_⟩
        · exact n3 y (List.mem_append_right _ (List.mem_append_right _ hy)) x hx e.symm
        · rcases List.mem_append.mp hy with h | h
          · exact n3 x (List.mem_append_left _ hx) y h e
          · exact m3 x hx y (List.mem_append_right _ h) e
    · cases ef
  · cases ef
def wr (i : Nat) (p : List Nat) (k v : T) : M Fl := fun Ts => match subT p (slot Ts i) with
  | some n => if n.ownNd then (match fSt n [k, v] with
    | some (_, n') => some (.nx, Ts.set i (setT p (slot Ts i) n'))
    | none => none) else none
  | none => none
def mSetI (i : Nat) (mp : M (List Nat)) (fk fa : M T) : M Fl := bnd fa fun v => bnd mp fun p => bnd fk fun k => wr i p k v
theorem wr_some {p : List Nat} {k v : T} {Ts Ts' : List T} {fl : Fl} (h : wr i p k v Ts = some (fl, Ts')) : ∃ n r n', subT p (slot Ts i) = some n ∧ n.ownNd = true ∧ fSt n [k, v] = some (r, n') ∧ fl = .nx ∧ Ts' = Ts.set i (setT p (slot Ts i) n') := by
  unfold wr at h
  split at h
  · rename_i n hn
    split at h
    · rename_i ho
      split at h
      · rename_i r n' hf
        injection h with h
        injection h with h1 h2
        exact ⟨n, r, n', hn, ho, hf, h1.symm, h2.symm⟩
      · cases h
    · cases h
  · cases h
theorem setI_r (d : i ∉ e3) (D : Ends) (σ : L2.St) (H : Hp) (h : TSm g (mSetI i mp fk fa) [] ((e1 ++ (e2 ++ e3)) ++ [i]) D σ H) : tAsg (TM g fa e1 []) (gSub (TL g mp e2 i) (TM g fk e3 b3) rSetL) D σ H := by
  obtain ⟨S, Ts, A, fl, Ts', R, q, k⟩ := h
  obtain ⟨v, Ts1, q1, q2⟩ := bnd_some q
  obtain ⟨p, Ts2, q3, q4⟩ := bnd_some q2
  obtain ⟨kk, Ts3, q5, q6⟩ := bnd_some q4
  obtain ⟨n, r0, n', hn, ho, hf, h1, h2⟩ := wr_some q6
  subst h1; subst h2
  refine ⟨S, Ts, A, v, Ts1, R, q1, fun x H1 S1 A1 Ax R1 rx o1 p1 s1 => ⟨S1, Ts1, A1, p, Ts2, R1, q3, fun y H2 S2 A2 x0 u B R2 hx pl p2 s2 => ⟨S2, Ts2, A2, kk, Ts3, R2, q5, fun z H3 S3 A3 Az R3 rz oz p3 s3 => ?_⟩⟩⟩
  have pl3 := pl_held R2 pl p3 s3 d
  have hu : u = n := by
    have := (Pl.rep _ _ _ _ _ _ _ pl3).2.2
    rw [hn] at this
    injection this with this
    exact this.symm
  subst hu
  have p23 := p2.trans R1 p3
  have s23 := s2.trans s3
  have hc := Rp.cells _ _ _ rx
  have rx3 := rx.held R1 o1 p23 s23 fun j hj => nomatch hj
  have ox3 := o1.held R1 R3 hc p23 s23 fun j hj => nomatch hj
  have kk0 : Az = [] ∧ Rp g S3 H3 kk z [] := by
    unfold fSt at hf
    split at hf
    · rename_i heq
      injection heq with heq _
      subst heq
      exact ⟨rz.2, ⟨rz.1, rfl⟩⟩
    · cases hf
  have ra : RpL g S3 H3 [kk, v] [z, x] Ax := ⟨z, [x], [], Ax, rfl, rfl, kk0.2, RpL.one rx3⟩
  have fin := mut_fin (Q := fun x' H' => D.nx σ H') mut_st R R3 hx pl3 ra ox3 (p1.trans R p23) (s1.trans s23) ho hf fun x' H' S' A' Ax' R' rx' o' p' s' => k σ H' S' A' (fun _ _ => rfl) R' p' s'
  obtain ⟨iv, vv, e, w⟩ := fin
  injection e with e1' e2'
  injection e2' with e3' _
  subst e1'; subst e3'
  exact w
theorem ts_setI (ha : PEm g X b fa e1 []) (hp : PLm g X o mp e2 i) {k : Expr} (hk : PEm g X k fk e3 b3) (d : i ∉ e3 := by decide)
    (hset : ∀ v, assign (.Subscript o k p2) X.env v = (do let ov ← holding [v] (eval o X.env); let iv ← holding [v, ov] (eval k X.env); standAt p2; holding [v, ov, iv] (setItem ov iv v); release [v, ov, iv] []) := by intro _; rfl)
    (hs : swapsWithSole [.Subscript o k p2] b pos.line X.env = pure false := by rfl) (hw : swappedStores [.Subscript o k p2] b X.env = pure none := by rfl) (h1 : (assignEach [.Subscript o k p2] X.env).map (·.2) = [assign (.Subscript o k p2) X.env] := by rfl) :
    PSm g X (.Assign [.Subscript o k p2] b pos) (mSetI i mp fk fa) [] ((e1 ++ (e2 ++ e3)) ++ [i]) := PS.imp (ps_asg ha (pg_sub hp hk set_list hset) hs hw h1) (setI_r d)
def mSetP (i : Nat) (mp : M (List Nat)) (fk : M T) (j : Nat) (fa : M T) : M Fl := bnd fa fun t => match t with
  | .nd .tup [v, w] => if v.imm && w.imm then (bnd mp fun p => bnd fk fun k => bnd (wr i p k v) fun _ => bnd (mPut j w) fun _ => ret .nx) else fun _ => none
  | _ => fun _ => none
theorem setP_r {j : Nat} (d : i ∉ e3) (hK : g.K = X.K) (D : Ends) (σ : L2.St) (H : Hp) (h : TSm g (mSetP i mp fk j fa) [j] (e1 ++ ((e2 ++ e3) ++ [i]) ++ [j]) D σ H) : tAsg (TM g fa e1 []) (gTup X.K 2 (gCons (gSub (TL g mp e2 i) (TM g fk e3 b3) rSetL) (gCons (gName j) gNil))) D σ H := by
  obtain ⟨S, Ts, A, fl, Ts', R, q, k⟩ := h
  obtain ⟨t, Ts1, q1, q2⟩ := bnd_some q
  split at q2
  · rename_i v w
    split at q2
    · rename_i him
      obtain ⟨hv, hw⟩ := Bool.and_eq_true_iff.mp him
      obtain ⟨p, Ts2, q3, q4⟩ := bnd_some q2
      obtain ⟨kk, Ts3, q5, q6⟩ := bnd_some q4
      obtain ⟨fl0, Ts4, q7, q8⟩ := bnd_some q6
      obtain ⟨_, Ts5, q9, q10⟩ := bnd_some q8
      obtain ⟨h1, h2⟩ := ret_some q10
      subst h1; subst h2
      obtain ⟨n, r0, n', hn, ho, hf, _, h2⟩ := wr_some q7
      subst h2
      refine ⟨S, Ts, A, _, Ts1, R, q1, fun x H1 S1 A1 Ax R1 rx o1 p1 s1 => ?_⟩
      obtain ⟨a, xs, B, ex, at_, eA, c, rl⟩ := rx
      obtain ⟨x1, ys, B1, B2, y1, y2, r1, r2⟩ := rl
      obtain ⟨x2, zs, B3, B4, z1, z2, r3, r4⟩ := r2
      obtain ⟨w1, w2⟩ := r4
      subst w1; subst w2; subst z1; subst y1
      have i1 := Rp.imm_nil _ _ _ r1 hv
      have i2 := Rp.imm_nil _ _ _ r3 hw
      subst i1; subst i2
      refine ⟨a, [x1, x2], ex, hK ▸ At.sqT at_, rfl, x1, [x2], rfl, S1, Ts1, A1, p, Ts2, R1, q3, fun y H2 S2 A2 x0 u B R2 hx pl p2 s2 => ⟨S2, Ts2, A2, kk, Ts3, R2, q5, fun z H3 S3 A3 Az R3 rz oz p3 s3 => ?_⟩⟩
      have pl3 := pl_held R2 pl p3 s3 d
      have hu : u = n := by
        have := (Pl.rep _ _ _ _ _ _ _ pl3).2.2
        rw [hn] at this
        injection this with this
        exact this.symm
      subst hu
      have p23 := p2.trans R1 p3
      have s23 := s2.trans s3
      have rx3 : Rp g S3 H3 v x1 [] := Rp.held (bo := []) (H := H) (A := A) R1 r1 Ow.nil p23 s23 fun j hj => nomatch hj
      have kk0 : Rp g S3 H3 kk z [] := by
        unfold fSt at hf
        split at hf
        · rename_i heq
          injection heq with heq _
          subst heq
          exact ⟨rz.1, rfl⟩
        · cases hf
      have ra : RpL g S3 H3 [kk, v] [z, x1] [] := ⟨z, [x1], [], [], rfl, rfl, kk0, RpL.one rx3⟩
      have fin := mut_fin (Q := fun x' H' => ∃ v' r', [x2] = v' :: r' ∧ gName j v' σ H' fun σ' H'' => gNil r' σ' H'' D.nx) mut_st R1 R3 hx pl3 ra Ow.nil p23 s23 ho hf fun x' H' S' A' Ax' R' rx' o' p' s' => by
        refine ⟨x2, [], rfl, ?_⟩
        have rw4 : Rp g S' H' w x2 [] := Rp.held (bo := []) (H := H) (A := A) R1 r3 Ow.nil p' s' fun j hj => nomatch hj
        obtain ⟨A5, R5, n5, st5⟩ := R'.puts q9 rw4 List.nodup_nil fun _ z => nomatch z
        have pp := p1.trans R p'
        have ss := s1.trans s'
        refine ⟨rfl, k _ H' S' A5 (fun m hm => ?_) R5 ⟨pp.keep, pp.sub, pp.snew, fun m a ha => ?_⟩ fun m hm => ?_⟩
        · rw [List.getElem?_set_ne (fun h => hm (by simp [h]))]
        · rcases n5 m a ha with ⟨j', hj⟩ | h
          · exact pp.anew j' a hj
          · exact nomatch h
        · have m2 : m ≠ j := fun h => hm (by simp [h])
          obtain ⟨x1', x2', x3'⟩ := ss m fun h => hm (List.mem_append_left _ h)
          obtain ⟨u1, u2⟩ := st5 m m2
          exact ⟨u1.trans x1', u2.trans x2', x3'⟩
      obtain ⟨iv, vv, e, w⟩ := fin
      injection e with e1' e2'
      injection e2' with e3' _
      subst e1'; subst e3'
      exact w
    · cases q2
  · cases q2
end
end MI
namespace MI
open PySem PySem.Spec PyProof.Rows L2
section
variable {g : Gc} {X : Cx} {o b : Expr} {fa fk : M T} {mp : M (List Nat)} {e1 e2 e3 b1 b3 : List Nat} {pos p2 p3 p4 : Pos} {i j l : Nat}
theorem ts_setP {kk : Nat} {x : Str} {k : Expr} (hK : g.K = X.K) (hc : X.calm = true) (ha : PEm g X b fa e1 []) (hp : PLm g X o mp e2 i) (hk : PEm g X k fk e3 b3) (hx : PG X (.Name x p3) (gName j)) (d : i ∉ e3 := by decide)
    (hset : ∀ v, assign (.Subscript o k p2) X.env v = (do let ov ← holding [v] (eval o X.env); let iv ← holding [v, ov] (eval k X.env); standAt p2; holding [v, ov, iv] (setItem ov iv v); release [v, ov, iv] []) := by intro _; rfl)
    (hg1 : (assignEach [.Subscript o k p2, .Name x p3] X.env).map (·.2) = assign (.Subscript o k p2) X.env :: (assignEach [.Name x p3] X.env).map (·.2) := by rfl) (hg2 : (assignEach [.Name x p3] X.env).map (·.2) = assign (.Name x p3) X.env :: (assignEach [] X.env).map (·.2) := by rfl)
    (hn : (assignEach [.Subscript o k p2, .Name x p3] X.env).length = 2 := by rfl) (hst : (assignEach [.Subscript o k p2, .Name x p3] X.env).findIdx? (·.1) = none := by rfl)
    (hs : swapsWithSole [.Tuple [.Subscript o k p2, .Name x p3] kk p4] b pos.line X.env = pure false := by rfl) (hw : swappedStores [.Tuple [.Subscript o k p2, .Name x p3] kk p4] b X.env = pure none := by rfl) (h1 : (assignEach [.Tuple [.Subscript o k p2, .Name x p3] kk p4] X.env).map (·.2) = [assign (.Tuple [.Subscript o k p2, .Name x p3] kk p4) X.env] := by rfl) :
    PSm g X (.Assign [.Tuple [.Subscript o k p2, .Name x p3] kk p4] b pos) (mSetP i mp fk j fa) [j] (e1 ++ ((e2 ++ e3) ++ [i]) ++ [j]) :=
  PS.imp (ps_asg ha (pg_tup hc (pgs_cons (pg_sub hp hk set_list hset) (pgs_cons hx pgs_nil hg2) hg1) hn hst) hs hw h1) (setP_r d hK)
def mAug (i : Nat) (f : T → T → Option T) (fa : M T) : M Fl := bnd (mRd i) fun x => bnd fa fun y => bnd (lft (f x y)) fun z => bnd (mPut i z) fun _ => ret .nx
theorem aug_r {h : Int → Int → Option Int} {f : Int → Int → Int} (hf : ∀ a b r, h a b = some r → r = f a b) (d : i ∉ e1) (D : Ends) (σ : L2.St) (H : Hp) (q : TSm g (mAug i (fII h) fa) [i] (e1 ++ [i]) D σ H) : tAug i (TM g fa e1 b1) (ipI f) D σ H := by
  obtain ⟨S, Ts, A, fl, Ts', R, q, k⟩ := q
  obtain ⟨x, Ts1, q1, q2⟩ := bnd_some q
  obtain ⟨w1, w2, w3⟩ := mRd_some q1
  subst w3
  obtain ⟨y, Ts2, q3, q4⟩ := bnd_some q2
  obtain ⟨z, Ts3, q5, q6⟩ := bnd_some q4
  obtain ⟨q7, w4⟩ := lft_some q5
  subst w4
  obtain ⟨_, Ts4, q8, q9⟩ := bnd_some q6
  obtain ⟨w5, w6⟩ := ret_some q9
  subst w5; subst w6
  obtain ⟨xv, hx, rx⟩ := R.at w1 w2
  refine ⟨xv, hx, S, _, A, y, _, R, q3, fun yv H1 S1 A1 Ay R1 ry oy p s => ?_⟩
  unfold fII at q7
  split at q7
  · rename_i m n
    split at q7
    · rename_i r hr
      injection q7 with q7; subst q7
      refine ⟨m, n, rx.1, ry.1, ?_⟩
      have e := hf m n r hr
      subst e
      obtain ⟨A5, R5, n5, st5⟩ := R1.puts (v := V.int (f m n)) (Av := []) q8 ⟨rfl, rfl⟩ List.nodup_nil fun _ z => nomatch z
      refine k _ H1 S1 A5 (fun m hm => ?_) R5 ⟨p.keep, p.sub, p.snew, fun m a ha => ?_⟩ fun m hm => ?_
      · rw [List.getElem?_set_ne (fun h => hm (by simp [h]))]
      · rcases n5 m a ha with ⟨j', hj⟩ | h
        · exact p.anew j' a hj
        · exact nomatch h
      · have m2 : m ≠ i := fun h => hm (by simp [h])
        obtain ⟨x1', x2', x3'⟩ := s m fun h => hm (List.mem_append_left _ h)
        obtain ⟨u1, u2⟩ := st5 m m2
        exact ⟨u1.trans x1', u2.trans x2', x3'⟩
    · cases q7
  · cases q7
theorem ts_augAdd {st : Stmt} (h : PS X st (tAug i (TM g fa e1 b1) (ipI fun i j => i + j))) (d : i ∉ e1 := by decide) : PSm g X st (mAug i (fII iAdd) fa) [i] (e1 ++ [i]) := PS.imp h (aug_r (fun a b r e => by injection e with e; exact e.symm) d)
def mPar3 (i j l : Nat) (fs : M (List T)) : M Fl := bnd fs fun ts => bnd (mGcons (mPut i) (mGcons (mPut j) (mGcons (mPut l) mGnil)) ts) fun _ => ret .nx
end
end MI
namespace MI
open PySem PySem.Spec PyProof.Rows L2
section
variable {g : Gc} {X : Cx} {o e : Expr} {es : List Expr} {fa : M T} {fs : M (List T)} {mp : M (List Nat)} {e1 e2 b1 b2 : List Nat} {pos p2 p3 apos : Pos} {i : Nat} {cls f : Str} {ln : List (Option Nat)} {io : List Nat} {c : Cal} {k : Nat} {ps : List Str} {fd : FuncData} {fad : Addr}
def fFld (cls f : Str) (t : T) : Option T := match t with
  | .nd (.ins _ c fs) ts => if c = cls then (match fs.findIdx? (fun x => x = f) with
    | some j => ts[j]?
    | none => none) else none
  | _ => none
theorem tm_fld (hK : g.K = X.K) (hc : Cls X.K (g.cl cls)) (hn : NoAttr X.K (g.cl cls) f) (ho : PEm g X o fa e1 b1) (hbase : attributeBase o f X.env (eval o X.env) = eval o X.env := by rfl) : PEm g X (.Attribute o f pos) (m1 (fFld cls f) fa) e1 b1 :=
  PE.imp (pe_fld ho hbase) fun σ H Q h => by
    obtain ⟨S, Ts, A, t, Ts', R, q, k⟩ := h
    obtain ⟨ta, Ts1, ea, q1⟩ := bnd_some q
    obtain ⟨ef, eT⟩ := lft_some q1
    subst eT
    refine ⟨S, Ts, A, ta, _, R, ea, fun x H' S' A' Ax R' rx o1 p s => ?_⟩
    unfold fFld at ef
    split at ef
    · rename_i ow cc fds ts
      split at ef
      · rename_i hcc
        subst hcc
        split at ef
        · rename_i j hj
          obtain ⟨a, xs, B, ex, at_, eA, cc', rl⟩ := rx
          obtain ⟨⟨dx, ea⟩, hl, _⟩ := at_
          obtain ⟨z, C, h1, h2, h3⟩ := RpL.at ts xs B rl j t ef
          refine ⟨a, _, dx, _, z, ex, ea, hc, hn, lookup_findIdx hj hl h1, k z H' S' A' C R' h2 (o1.part ?_) p s⟩
          rw [eA]
          split
          · exact h3.trans (List.sublist_cons_self _ _)
          · exact h3
        · cases ef
      · cases ef
    · cases ef
def isIns (cls m : Str) (t : T) : Option T := match t with
  | .nd (.ins _ c fs) ts => if c = cls ∧ fs.findIdx? (fun x => x = m) = none then some t else none
  | _ => none
def mIns (cls m : Str) (fa : M T) : M T := bnd fa fun t => lft (isIns cls m t)
theorem lookup_none {m : Str} : ∀ {fs : List Str} {xs : List V}, fs.findIdx? (fun x => x = m) = none → (fs.zip xs).lookup m = none
  | [], xs, h => by simp
  | f :: fs, [], h => by simp
  | f :: fs, x :: xs, h => by
    rw [List.findIdx?_eq_none_iff] at h
    have h1 := h f (List.mem_cons_self)
    have hf : ¬ f = m := by simpa using h1
    have ih := lookup_none (m := m) (fs := fs) (xs := xs) (List.findIdx?_eq_none_iff.mpr fun y hy => h y (List.mem_cons_of_mem _ hy))
    rw [List.zip_cons_cons, List.lookup_cons]
    have : (m == f) = false := by rw [beq_eq_false_iff_ne]; exact fun z => hf z.symm
    rw [this]; exact ih
theorem isIns_ok {S : Addr → Prop} {H : Hp} {t u : T} {x : V} {A : List Addr} {m : Str} (r : Rp g S H t x A) (h : isIns cls m t = some u) : u = t ∧ ∃ a dx fs, x = .ref a ∧ H a = some (.ins (g.cl cls) dx fs) ∧ fs.lookup m = none := by
  unfold isIns at h
  split at h
  · split at h
    · rename_i hc
      injection h with h
      obtain ⟨rfl, hm⟩ := hc
      obtain ⟨a, xs, B, ex, at_, eA, cc', rl⟩ := r
      obtain ⟨⟨dx, ea⟩, hl, _⟩ := at_
      exact ⟨h.symm, a, dx, _, ex, ea, lookup_none hm⟩
    · cases h
  · cases h
theorem self_arg {m : Str} (d : ∀ j ∈ b1, j ∉ e2) (σ : L2.St) (H : Hp) (Q : List V → Hp → Prop) (h : TMc g (mCons (mIns cls m fa) fs) (e1 ++ e2) (b1 ++ b2) (none :: ln) σ H Q) :
    TM g fa e1 b1 σ H fun x H1 => ∃ a dx fs', x = .ref a ∧ H1 a = some (.ins (g.cl cls) dx fs') ∧ fs'.lookup m = none ∧ TMc g fs e2 b2 ln σ H1 fun xs H2 => Q (x :: xs) H2 := by
  obtain ⟨S, Ts, A, ts, Ts', R, q, k⟩ := h
  obtain ⟨ta, Ts1, ea, q1⟩ := bnd_some q
  obtain ⟨t0, Ts0, ea0, eb0⟩ := bnd_some ea
  obtain ⟨ei, eT⟩ := lft_some eb0
  subst eT
  obtain ⟨tb, Ts2, eb, q2⟩ := bnd_some q1
  obtain ⟨h1, h2⟩ := ret_some q2
  subst h1; subst h2
  refine ⟨S, Ts, A, t0, _, R, ea0, fun x H1 S1 A1 Ax R1 r1 o1 p1 s1 => ?_⟩
  obtain ⟨et, a, dx, fs', ex, ea', el⟩ := isIns_ok r1 ei
  subst et
  refine ⟨a, dx, fs', ex, ea', el, S1, _, A1, tb, Ts2, R1, eb, fun ys H2 S2 A2 Al Ab R2 r2 ol ob dj p2 s2 => ?_⟩
  have hc := Rp.cells _ _ _ r1
  have o1' := o1.held R1 R2 hc p2 s2 d
  refine k (x :: ys) H2 S2 A2 Al (Ax ++ Ab) R2 ⟨_, tb, x, ys, Ax, Ab, rfl, rfl, rfl, r1.held R1 o1 p2 s2 d, r2⟩ (ol.rebase p1) (Ow.app p1 hc o1 o1' ob) (fun a hl hx => ?_) (p1.trans R p2) (s1.trans s2)
  rcases List.mem_append.mp hx with hx | hx
  · rcases ol.new a hl with ⟨j, hj⟩ | hn
    · have hb : j ∈ b1 := Classical.byContradiction fun z => o1.dj j z a hx hj
      have e := (s2 j (d j hb)).2.1
      exact ol.dj j (fun z => nomatch z) a hl (by rw [e]; exact hj)
    · exact mut_ne (hc a hx) hn
  · exact dj a hl hx
theorem prop_rC (hb : b1 = []) (σ : L2.St) (H : Hp) (Q : VK) (h : TM g (mCall c [none] (mCons (mIns cls Str.empty fa) mNil)) e1 [] σ H Q) : tProp (g.cl cls) (spT g [] c) [] E0 (TM g fa e1 b1) σ H Q := by
  subst hb
  have h2 : TM g (mCall c [none] (mCons (mIns cls Str.empty fa) mNil)) (e1 ++ []) [] σ H Q := by rw [List.append_nil]; exact h
  have h3 := call_r (b1 := [] ++ []) (io := []) rfl rfl (by intro s hs; simp at hs) σ H Q h2
  have h4 := self_arg (b1 := []) (b2 := []) (e1 := e1) (e2 := []) (fun _ _ z => nomatch z) σ H _ h3
  exact h4.mono fun x H' ⟨a, dx, fs', w1, w2, w3, w4⟩ => ⟨a, dx, fs', w1, w2, by rw [← w1]; exact TMc.nil w4⟩
theorem tm_prop {pp : Addr} (hc : Cls X.K (g.cl cls)) (hp : PropOf X.K (g.cl cls) f pp fad) (F : FnG X.prog X.w X.K X.mg X.base CX0 k fad fd ps (spT g [] c)) (hG : GA X.A) (hr : Room (k + 1) X.A) (hb : Binds X.K fd ps []) (ho : PEm g X o fa e1 [])
    (hab : attributeBase o f X.env (eval o X.env) = eval o X.env := by rfl) : PEm g X (.Attribute o f pos) (mCall c [none] (mCons (mIns cls Str.empty fa) mNil)) e1 [] := PE.imp (pe_propG ho hc hp F hG hr hb pass0 hab) (prop_rC rfl)
end
end MI
namespace MI
open PySem PySem.Spec PyProof.Rows L2
section
variable {g : Gc} {X : Cx} {o e : Expr} {es : List Expr} {fa : M T} {fs : M (List T)} {mp : M (List Nat)} {e1 e2 b1 b2 : List Nat} {pos p2 p3 apos : Pos} {i : Nat} {cls f : Str} {ln : List (Option Nat)} {io : List Nat} {c : Cal} {k : Nat} {ps : List Str} {fd : FuncData} {fad : Addr}
def putN (f : Str) (v : T) : List Str → List T → List Str × List T
  | h :: fs, t :: ts => if h = f then (h :: fs, v :: ts) else (h :: (putN f v fs ts).1, t :: (putN f v fs ts).2)
  | _, _ => ([f], [v])
theorem putN_ok {S : Addr → Prop} {H : Hp} {v : T} {y : V} {C : List Addr} (rv : Rp g S H v y C) : ∀ (fs : List Str) (ts : List T) (xs : List V) (A : List Addr), RpL g S H ts xs A → fs.length = xs.length → (A ++ C).Nodup →
    ∃ xs' A', (putN f v fs ts).1.zip xs' = putF f y (fs.zip xs) ∧ (putN f v fs ts).1.length = xs'.length ∧ RpL g S H (putN f v fs ts).2 xs' A' ∧ (∀ a ∈ A', a ∈ A ∨ a ∈ C) ∧ A'.Nodup
  | [], ts, xs, A, r, hl, nd => by
    have : xs = [] := List.length_eq_zero_iff.mp hl.symm
    subst this
    have e : putN f v [] ts = ([f], [v]) := by cases ts <;> rfl
    rw [e]
    exact ⟨[y], C, rfl, rfl, RpL.one rv, fun a h => .inr h, (List.nodup_append.mp nd).2.1⟩
  | h :: fs, [], xs, A, r, hl, nd => by rw [r.1] at hl; cases hl
  | h :: fs, t :: ts, xs, A, r, hl, nd => by
    obtain ⟨z, zs, A1, A2, h1, h2, r1, r2⟩ := r
    subst h1; subst h2
    unfold putN
    by_cases hf : h = f
    · rw [if_pos hf]
      refine ⟨y :: zs, C ++ A2, ?_, by simpa using hl, ⟨y, zs, C, A2, rfl, rfl, rv, r2⟩, fun a ha => ?_, ?_⟩
      · show (h, y) :: fs.zip zs = putF f y ((h, z) :: fs.zip zs)
        unfold putF
        rw [if_pos hf]
      · rcases List.mem_append.mp ha with q | q
        · exact .inr q
        · exact .inl (List.mem_append_right _ q)
      · obtain ⟨n1, n2, n3⟩ := List.nodup_append.mp nd
        obtain ⟨_, m2, _⟩ := List.nodup_append.mp n1
        exact List.nodup_append.mpr ⟨n2, m2, fun a ha b hb e => n3 b (List.mem_append_right _ hb) a ha e.symm⟩
    · rw [if_neg hf]
      obtain ⟨n1, n2, n3⟩ := List.nodup_append.mp nd
      obtain ⟨m1, m2, m3⟩ := List.nodup_append.mp n1
      obtain ⟨xs', A', w1, w2, w3, w4, w5⟩ := putN_ok rv fs ts zs A2 r2 (by simpa using hl) (List.nodup_append.mpr ⟨m2, n2, fun a ha b hb => n3 a (List.mem_append_right _ ha) b hb⟩)
      refine ⟨z :: xs', A1 ++ A', ?_, by simp [w2], ⟨z, xs', A1, A', rfl, rfl, r1, w3⟩, fun a ha => ?_, List.nodup_append.mpr ⟨m1, w5, fun a ha b hb e => ?_⟩⟩
      · show (h, z) :: (putN f v fs ts).1.zip xs' = putF f y ((h, z) :: fs.zip zs)
        unfold putF
        rw [if_neg hf, w1]
      · rcases List.mem_append.mp ha with q | q
        · exact .inl (List.mem_append_left _ q)
        · rcases w4 a q with q | q
          · exact .inl (List.mem_append_right _ q)
          · exact .inr q
      · subst e
        rcases w4 a hb with q | q
        · exact m3 a ha a q rfl
        · exact n3 a (List.mem_append_left _ ha) a q rfl
def rFl (K : PySem.W.Frag) (C : Addr) (f : Str) : V → List V → Hp → VK → Prop := fun x xs H Q => ∃ y a dx fs, xs = [y] ∧ x = .ref a ∧ H a = some (.ins C dx fs) ∧ fs.length < 1000 ∧ Q .non (upd H a (.ins C dx (putF f y fs)))
def fFl (cls f : Str) (n : T) (args : List T) : Option (T × T) := match n, args with
  | .nd (.ins true c fs) ts, [v] => if c = cls ∧ fs.length < 1000 then some (.non, .nd (.ins true c (putN f v fs ts).1) (putN f v fs ts).2) else none
  | _, _ => none
theorem mut_fl : MutT g (rFl g.K (g.cl cls) f) (fFl cls f) := fun S H a n B0 args xs Ag res n' Q rn ho ra nd nS ef k => by
  unfold fFl at ef
  split at ef
  · rename_i cc fds ts v
    split at ef
    · rename_i hc
      obtain ⟨rfl, hz⟩ := hc
      injection ef with ef
      injection ef with h1 h2
      subst h1; subst h2
      obtain ⟨a', xs0, B, ex, at_, eA, c, rl⟩ := rn
      injection ex with ex
      subst ex
      have eA : a :: B0 = a :: B := eA
      injection eA with _ eA
      subst eA
      obtain ⟨⟨dx, ea⟩, hl, _⟩ := at_
      obtain ⟨y, ys, D1, D2, d1, d2, d3, d4⟩ := ra
      obtain ⟨d5, d6⟩ := d4
      subst d5; subst d6
      rw [List.append_nil] at d2
      subst d2
      refine ⟨y, a, dx, _, d1, rfl, ea, by rw [List.length_zip, hl, Nat.min_self, ← hl]; exact hz, ?_⟩
      obtain ⟨na, nd2⟩ := List.nodup_cons.mp nd
      obtain ⟨xs', A', w1, w2, w3, w4, w5⟩ := putN_ok (f := f) d3 fds ts xs0 B0 rl hl nd2
      have kp : RpL g S (upd H a (.ins (g.cl cc) dx (putF f y (fds.zip xs0)))) (putN f v fds ts).2 xs' A' := RpL.keep (M := fun b => b = a) (fun b o e n => by rw [upd_ne n]; exact e) (fun b e => by rw [e, ea]; trivial) (fun b hb e => nS (e ▸ hb)) (fun _ h => h) _ _ _ w3 fun b hb e => na (by
        subst e
        exact List.mem_append.mpr (w4 _ hb))
      refine k .non (.ins (g.cl cc) dx (putF f y (fds.zip xs0))) A' ⟨a, xs', A', rfl, ⟨⟨dx, by rw [upd_same, w1]⟩, w2, fun z => nomatch z⟩, rfl, .inl rfl, kp⟩ rfl ⟨rfl, rfl⟩ (List.nodup_cons.mpr ⟨fun h => na (List.mem_append.mpr (w4 a h)), w5⟩) w4
    · cases ef
  · cases ef
def wrF (i : Nat) (p : List Nat) (cls f : Str) (v : T) : M Fl := fun Ts => match subT p (slot Ts i) with
  | some n => if n.ownNd then (match fFl cls f n [v] with
    | some (_, n') => some (.nx, Ts.set i (setT p (slot Ts i) n'))
    | none => none) else none
  | none => none
def mSetF (i : Nat) (mp : M (List Nat)) (cls f : Str) (fa : M T) : M Fl := bnd fa fun v => bnd mp fun p => wrF i p cls f v
theorem wrF_some {p : List Nat} {v : T} {Ts Ts' : List T} {fl : Fl} (h : wrF i p cls f v Ts = some (fl, Ts')) : ∃ n r n', subT p (slot Ts i) = some n ∧ n.ownNd = true ∧ fFl cls f n [v] = some (r, n') ∧ fl = .nx ∧ Ts' = Ts.set i (setT p (slot Ts i) n') := by
  unfold wrF at h
  split at h
  · rename_i n hn
    split at h
    · rename_i ho
      split at h
      · rename_i r n' hf
        injection h with h
        injection h with h1 h2
        exact ⟨n, r, n', hn, ho, hf, h1.symm, h2.symm⟩
      · cases h
    · cases h
  · cases h
theorem ts_setF (hK : g.K = X.K) (hc : Cls X.K (g.cl cls)) (hn : NoAttr X.K (g.cl cls) f) (ha : PEm g X e fa e1 []) (hp : PLm g X o mp e2 i) (hs : swapsWith e (some (.Attribute o f p2)) pos.line X.env = pure false := by rfl) :
    PSm g X (.Assign [.Attribute o f p2] e pos) (mSetF i mp cls f fa) [] ((e1 ++ e2) ++ [i]) := PS.imp (ps_fld hp ha hs) fun D σ H h => by
  obtain ⟨S, Ts, A, fl, Ts', R, q, k⟩ := h
  obtain ⟨v, Ts1, q1, q2⟩ := bnd_some q
  obtain ⟨p, Ts2, q3, q4⟩ := bnd_some q2
  obtain ⟨n, r0, n', hsub, ho, hf, h1, h2⟩ := wrF_some q4
  subst h1; subst h2
  refine ⟨S, Ts, A, v, Ts1, R, q1, fun x H1 S1 A1 Ax R1 rx o1 p1 s1 => ⟨S1, Ts1, A1, p, Ts2, R1, q3, fun y H2 S2 A2 x0 u B R2 hx pl p2 s2 => ?_⟩⟩
  have hu : u = n := by
    have := (Pl.rep _ _ _ _ _ _ _ pl).2.2
    rw [hsub] at this
    injection this with this
    exact this.symm
  subst hu
  have hcl := Rp.cells _ _ _ rx
  have rx3 := rx.held R1 o1 p2 s2 fun j hj => nomatch hj
  have ox3 := o1.held R1 R2 hcl p2 s2 fun j hj => nomatch hj
  have fin := mut_fin (Q := fun x' H' => D.nx σ H') mut_fl R R2 hx pl (RpL.one rx3) ox3 (p1.trans R p2) (s1.trans s2) ho hf fun x' H' S' A' Ax' R' rx' o' p' s' => k σ H' S' A' (fun _ _ => rfl) R' p' s'
  obtain ⟨y', a, dx, fs', w1, w2, w3, w4, w5⟩ := fin
  injection w1 with w1 _
  subst w1
  exact ⟨a, _, dx, fs', w2, w3, hc, hn, w4, w5⟩
def allN (ln : List (Option Nat)) : Bool := ln.all Option.isNone
def mMake (c : Cal) (cls : Str) (ln : List (Option Nat)) (fs : M (List T)) : M T := bnd fs fun ts => bnd (lft (c (.nd (.ins true cls []) [] :: fzA ln ts))) fun p => match p with
  | (.non, [s]) => ret s
  | _ => fun _ => none
theorem RpC.none : ∀ (ln : List (Option Nat)) {S : Addr → Prop} {H : Hp} {σ : L2.St} {ts : List T} {xs : List V} {Al Ab : List Addr}, allN ln = true → RpC g S H σ ln ts xs Al Ab → Al = []
  | [], _, _, _, _, _, _, _, _, r => r.2.2.1
  | Option.none :: ln, _, _, _, _, _, _, _, h, r => by
    obtain ⟨t, ts', x, xs', B, Ab', _, _, _, _, r⟩ := r
    exact RpC.none ln (by simpa [allN] using h) r
  | some s :: ln, _, _, _, _, _, _, _, h, r => by simp [allN] at h
theorem make_r (hn : allN ln = true) (σ : L2.St) (H : Hp) (Q : VK) (h : TM g (mMake c cls ln fs) e1 [] σ H Q) : tMake (g.cl cls) (spT g [0] c) [] E0 (TMc g fs e1 [] ln) σ H Q := by
  obtain ⟨S, Ts, A, r, Ts', R, q, k⟩ := h
  obtain ⟨ts, Ts1, q1, q2⟩ := bnd_some q
  obtain ⟨⟨r', outs⟩, Ts1', q3, q4⟩ := bnd_some q2
  obtain ⟨q5, e5⟩ := lft_some q3
  subst e5
  have key : r' = .non ∧ outs = [r] ∧ Ts1' = Ts' := by
    cases r' with
    | non =>
      cases outs with
      | nil => cases q4
      | cons s rest =>
        cases rest with
        | nil =>
          obtain ⟨h1, h2⟩ := ret_some q4
          exact ⟨rfl, by rw [h1], h2⟩
        | cons _ _ => cases q4
    | _ => cases q4
  obtain ⟨k1, k2, k3⟩ := key
  subst k1; subst k2; subst k3
  refine ⟨S, Ts, A, ts, Ts1', R, q1, fun xs H1 S1 A1 Al Ab R1 rc ol ob dj p s => fun x dx hx hdx hne => ?_⟩
  have eAl := RpC.none ln hn rc
  subst eAl
  have hob : ∀ a ∈ Ab, ∃ o, H1 a = some o ∧ ∀ ps, o ≠ .tbl ps := RpC.bcells ln ts xs [] Ab rc
  have ex : Ext H1 (upd (upd H1 dx (.own x)) x (.ins (g.cl cls) dx [])) := (Ext.upd (o := .own x) hdx fun _ z => by cases z).trans (Ext.upd (o := .ins (g.cl cls) dx []) (by rw [upd_ne (by first | exact hne | exact Ne.symm hne)]; exact hx) fun _ z => by cases z)
  have rc2 : RpL g (fun a => S1 a ∨ a ∈ Ab) H1 (fzA ln ts) xs [] := RpC.call ln ts xs [] Ab rc (fun _ h => .inl h) (fun _ h => .inr h)
  have nx : ¬ (S1 x ∨ x ∈ Ab) := fun z => by
    rcases z with z | z
    · obtain ⟨o, w⟩ := R1.st x z; rw [hx] at w; cases w
    · obtain ⟨o, w, _⟩ := hob x z; rw [hx] at w; cases w
  have R1' := R1.ext ex
  rw [List.append_nil]
  refine ⟨fun a => S1 a ∨ a ∈ Ab, .nd (.ins true cls []) [] :: fzA ln ts, [x], .non, [r], ⟨.ref x, xs, [x], [], rfl, rfl, ⟨x, [], [], rfl, ⟨⟨dx, upd_same⟩, rfl, fun z => nomatch z⟩, rfl, .inl rfl, rfl, rfl⟩, rc2.ext ex⟩, List.nodup_cons.mpr ⟨(fun z => nomatch z), List.nodup_nil⟩, fun a ha => by rw [List.mem_singleton.mp ha]; exact nx, ⟨fun a h => ?_, R1'.tb⟩, q5, fun v H' S' Ar Ao rx ro nd ns st pf => ⟨rx.1, ?_⟩⟩
  · rcases h with h | h
    · obtain ⟨o, w, n⟩ := R1.st.st a h; exact ⟨o, ex a o w, n⟩
    · obtain ⟨o, w, n⟩ := hob a h; exact ⟨o, ex a o w, n⟩
  · have eAr : Ar = [] := rx.2
    subst eAr
    have ro : RpL g S' H' [r] [V.ref x] Ao := ro
    have rr : Rp g S' H' r (.ref x) Ao := by
      obtain ⟨q, qs, D1, D2, d1, d2, d3, d4⟩ := ro
      injection d1 with d1 d5
      subst d1
      rw [d2, d4.2, List.append_nil]; exact d3
    rw [List.append_nil] at nd ns pf
    have pE : Po S1 H1 A1 S1 _ A1 := Po.ext ex
    have p' := p.trans R pE
    have s' := s.trans (Stb.ext (eff := []) (Ts := Ts1') (A := A1) ex)
    rw [List.append_nil] at s'
    have fr := R1.fresh hx
    have bk : (∃ j, x ∈ A j) ∨ noT (H x) = none := by
      cases e : H x with
      | none => exact .inr rfl
      | some ob =>
        by_cases hj : ∃ j, x ∈ A j
        · exact .inl hj
        · exact .inr (e ▸ fix_back hx e (p.keep x ob e fun i hi => hj ⟨i, hi⟩))
    have olx : Ow [] H A S1 A1 [x] := ⟨fun a ha => by rw [List.mem_singleton.mp ha]; exact fr.1, fun i _ a ha => by rw [List.mem_singleton.mp ha]; exact fr.2 i, fun _ => List.nodup_cons.mpr ⟨(fun z => nomatch z), List.nodup_nil⟩, fun a ha => by rw [List.mem_singleton.mp ha]; exact bk⟩
    exact call_post (ln := []) (outs := []) (zs := []) (Ao := []) (S2 := S') (Ts2 := Ts1') R R1' (fun a ha => by rw [List.mem_singleton.mp ha, upd_same]; trivial) olx ob p' s' (by simpa using pf) (fun _ h => h) (fun a h => pf.sub a (.inl h)) (fun _ _ _ => rfl) rr ⟨rfl, rfl⟩ (by simpa using nd) (by simpa using ns) st (fun k s e => by simp at e) rfl (fun s hs => by simp at hs) k
theorem tm_make (hC : X.mg f = some (.ref (g.cl cls))) (M : Mk X.K (g.cl cls) fad) (F : FnG X.prog X.w X.K X.mg X.base CX0 k fad fd ps (spT g [0] c)) (hG : GA X.A) (hr : Room (k + 1) X.A) (hg : Gl X f) (hb : Binds X.K fd ps []) (ha : PAc g X (e :: es) fs e1 [] ln) (hn : allN ln = true := by rfl)
    (hdb : (f == ("__debug__" : Str)) = false := by decide) (he : starEach (e :: es) X.env = (false, eval e X.env) :: starEach es X.env := by rfl) (hpl : (backTo pos (starEach es X.env)).any (·.1) = false := by rfl) :
    PEm g X (.Call (.Name f p2) (e :: es) [] pos) (mMake c cls ln fs) e1 [] := PE.imp (pe_makeG M F hG hr hg hC hb (E := E0) pass0 ha hdb he hpl) (make_r hn)
end
end MI
namespace MI
open PySem PySem.Spec PyProof.Rows L2
structure Hd where
  cs : List T
  cx : List V
  ax : List Addr
  bo : List Nat
def LI (g : Gc) (H : Hp) (A : Nat → List Addr) (S1 : Addr → Prop) (H1 : Hp) (A1 : Nat → List Addr) (Ts1 : List T) (E : List Nat) (hs : List Hd) (Da : Addr) (hid : List Nat) (σw : L2.St) (P : List T → List T → Prop) (H' : Hp) : Prop :=
  ∃ S' Tsi A' acc Aa, SR g S' H' σw Tsi A' ∧ (∀ j ∈ hid, A' j = []) ∧ P acc Tsi ∧ Po S1 H1 A1 S' H' A' ∧ Stb E H1 Ts1 A1 H' Tsi A' ∧ (∀ h ∈ hs, RpL g S' H' h.cs h.cx h.ax ∧ Ow h.bo H A S' A' h.ax ∧ ∀ a ∈ h.ax, a ≠ Da) ∧ Rp g S' H' (.nd (.lst true) acc) (.ref Da) Aa ∧ Ow [] H A S' A' Aa
section
variable {g : Gc} {m m1 : T → M Unit} {tt : M Bool} {te : M T} {mi mi1 : M (List T)} {a1 a2 e1 e2 e3 b1 b2 : List Nat} {vs vs1 hid E : List Nat} {S S1 : Addr → Prop} {H H1 : Hp} {A A1 : Nat → List Addr} {Ts Ts1 : List T} {hs : List Hd} {Da : Addr} {σ σ0 : L2.St}
theorem wipe_same {σ2 σ : L2.St} {vs a : List Nat} (hl : σ2.length = σ.length) (h : ∀ j, j ∉ a → σ2[j]? = (wipe σ vs)[j]?) (dv : ∀ j ∈ a, j ∈ vs) : wipe σ2 vs = wipe σ vs := by
  refine List.ext_getElem? fun j => ?_
  by_cases hj : j ∈ vs
  · by_cases hl2 : j < σ.length
    · rw [wipe_in (by omega) hj, wipe_in hl2 hj]
    · rw [List.getElem?_eq_none_iff.mpr (by rw [wipe_length]; omega), List.getElem?_eq_none_iff.mpr (by rw [wipe_length]; omega)]
  · rw [wipe_out hj, h j fun z => hj (dv j z)]
theorem LI.put {P : List T → List T → Prop} {Q : L2.St → Hp → Prop} {H' H2 : Hp} {t : T} {x : V} (R : SR g S H σ0 Ts A) (dv : ∀ j ∈ a1, j ∈ vs) (hv : ∀ j ∈ vs, j ∈ hid) (hE : ∀ j ∈ hid, j ∈ E) (d : ∀ h ∈ hs, ∀ j ∈ h.bo, j ∉ a1) (R1 : SR g S1 H1 σ0 Ts1 A1)
    (h : LI g H A S1 H1 A1 Ts1 E hs Da hid (wipe σ vs) (fun acc Ti => ∃ Ta, m t Ti = some ((), Ta) ∧ P acc Ta) H') (ex : Ext H' H2) (hy : ∀ S2, (∀ h ∈ hs, RpL g S2 H' h.cs h.cx h.ax) → Rp g S2 H2 t x [])
    (k : ∀ σ2, wipe σ2 vs = wipe σ vs → LI g H A S1 H1 A1 Ts1 E hs Da hid σ2 P H2 → Q σ2 H2) : TGm g m a1 x (wipe σ vs) H2 Q := by
  obtain ⟨S', Tsi, A', acc, Aa, Ri, hA, ⟨Ta, qa, qP⟩, pi, si, hd, ra, oa⟩ := h
  have rt := hy S' fun h hh => (hd h hh).1
  have Ri2 := Ri.ext ex
  refine ⟨S', Tsi, A', t, [], Ta, Ri2, rt, List.nodup_nil, (fun _ h => nomatch h), qa, fun σ2 A2 hσ2 R2 n2 s2 => ?_⟩
  have ew : wipe σ2 vs = wipe σ vs := wipe_same (by rw [hσ2.1, wipe_length]) hσ2.2 dv
  have hAv : ∀ j ∈ hid, A2 j = [] := fun j hj => by
    cases e : A2 j with
    | nil => rfl
    | cons a l =>
      have ha : a ∈ A2 j := by rw [e]; exact List.mem_cons_self
      rcases n2 j a ha with ⟨j', hj'⟩ | h
      · have hjv : j' ∉ hid := fun z => by rw [hA j' z] at hj'; exact nomatch hj'
        have e2 := (s2 j' fun z => hjv (hv j' (dv j' z))).2
        exact absurd (by rw [e2]; exact hj') (R2.dj j j' (by rintro rfl; exact hjv hj) a ha)
      · exact nomatch h
  have oa2 : Ow [] H A S' A2 Aa := oa.bound (a1 := a1) R2 n2 (fun j hj => (s2 j hj).2) fun j hj => nomatch hj
  refine k σ2 ew ⟨S', Ta, A2, acc, Aa, R2, hAv, qP, (pi.trans R1 (Po.ext ex)).bound (a1 := a1) n2, fun j hj => ?_, fun h hh => ⟨(hd h hh).1.ext ex, (hd h hh).2.1.bound (a1 := a1) R2 n2 (fun j hj => (s2 j hj).2) (d h hh), (hd h hh).2.2⟩, ra.ext ex, oa2⟩
  have hja : j ∉ a1 := fun z => hj (hE j (hv j (dv j z)))
  obtain ⟨x1, x2, x3⟩ := si j hj
  obtain ⟨y1, y2⟩ := s2 j hja
  exact ⟨y1.trans x1, y2.trans x2, fun a ha o eo => ex a o (x3 a ha o eo)⟩
theorem LI.test {P : List T → List T → Prop} {Q : Bool → Hp → Prop} {H2 : Hp} (dh : ∀ j ∈ hid, j ∉ e2) (hE : ∀ j ∈ e2, j ∈ E) (d : ∀ h ∈ hs, ∀ j ∈ h.bo, j ∉ e2) (R1 : SR g S1 H1 σ0 Ts1 A1)
    (h : LI g H A S1 H1 A1 Ts1 E hs Da hid σ (fun acc Ti => ∃ b Ta, tt Ti = some (b, Ta) ∧ P acc Ti) H2)
    (k : ∀ b H3, LI g H A S1 H1 A1 Ts1 E hs Da hid σ (fun acc Ta => ∃ Ti, tt Ti = some (b, Ta) ∧ P acc Ti) H3 → Q b H3) : TMt g tt e2 σ H2 Q := by
  obtain ⟨S', Tsi, A', acc, Aa, Ri, hA, ⟨b, Ta, qa, qP⟩, pi, si, hd, ra, oa⟩ := h
  refine ⟨S', Tsi, A', b, Ta, Ri, qa, fun H3 S3 A3 R3 p3 s3 => ?_⟩
  have hca := Rp.cells _ _ _ ra
  refine k b H3 ⟨S3, Ta, A3, acc, Aa, R3, fun j hj => ((s3 j (dh j hj)).2.1).trans (hA j hj), ⟨Tsi, qa, qP⟩, pi.trans R1 p3, fun j hj => ?_, fun h hh => ⟨RpL.held Ri (hd h hh).1 (hd h hh).2.1 p3 s3 (d h hh), (hd h hh).2.1.held Ri R3 (RpL.cells _ _ _ (hd h hh).1) p3 s3 (d h hh), (hd h hh).2.2⟩, ra.held Ri oa p3 s3 (fun _ z => nomatch z), oa.held Ri R3 hca p3 s3 (fun _ z => nomatch z)⟩
  obtain ⟨x1, x2, x3⟩ := si j hj
  obtain ⟨z1, z2, z3⟩ := s3 j fun z => hj (hE j z)
  exact ⟨z1.trans x1, z2.trans x2, fun a ha o eo => z3 a (by rw [x2]; exact ha) o (x3 a ha o eo)⟩
theorem LI.elt {P : List T → List T → Prop} {H2 : Hp} {Q : Hp → Prop} (R : SR g S H σ0 Ts A) (p1 : Po S H A S1 H1 A1) (hDa : H1 Da = none) (dh : ∀ j ∈ hid, j ∉ e3) (hE : ∀ j ∈ e3, j ∈ E) (d : ∀ h ∈ hs, ∀ j ∈ h.bo, j ∉ e3) (R1 : SR g S1 H1 σ0 Ts1 A1)
    (h : LI g H A S1 H1 A1 Ts1 E hs Da hid σ (fun acc Ti => ∃ r Ta, te Ti = some (r, Ta) ∧ acc.length < sizeLine ∧ P (acc ++ [r]) Ta) H2)
    (k : ∀ H3, LI g H A S1 H1 A1 Ts1 E hs Da hid σ P H3 → Q H3) : TM g te e3 [] σ H2 fun y H4 => ∃ acc, H4 Da = some (.lst acc) ∧ acc.length < sizeLine ∧ Q (upd H4 Da (.lst (acc ++ [y]))) := by
  obtain ⟨S', Tsi, A', acc, Aa, Ri, hA, ⟨r, Ta, qa, hz, qP⟩, pi, si, hd, ra, oa⟩ := h
  refine ⟨S', Tsi, A', r, Ta, Ri, qa, fun y H4 S4 A4 Ay R4 ry oy p5 s5 => ?_⟩
  have hca : ∀ a ∈ Aa, Mut (H2 a) := Rp.cells _ _ _ ra
  have ra4 := ra.held Ri oa p5 s5 (fun _ z => nomatch z)
  have oa4 := oa.held Ri R4 hca p5 s5 (fun _ z => nomatch z)
  have oap := Ow.app (p1.trans R pi) hca oa oa4 oy
  obtain ⟨a, accV, B, e1, at_, eA, _, rl⟩ := ra4
  injection e1 with e1
  subst e1
  have at_ : H4 Da = some (.lst accV) := at_
  have eA : Aa = Da :: B := eA
  subst eA
  have ndp : (Da :: B ++ Ay).Nodup := oap.nd rfl
  obtain ⟨n1, n2'⟩ := List.nodup_cons.mp ndp
  have nDB : Da ∉ B := fun z => n1 (List.mem_append_left _ z)
  have nDy : Da ∉ Ay := fun z => n1 (List.mem_append_right _ z)
  have nS : ¬ S4 Da := oa4.ns Da List.mem_cons_self
  have nA : ∀ i, Da ∉ A4 i := fun i => oa4.dj i (fun z => nomatch z) Da List.mem_cons_self
  refine ⟨accV, at_, by rw [← RpL.length _ _ _ rl]; exact hz, k _ ?_⟩
  have hA4 : ∀ j ∈ hid, A4 j = [] := fun j hj => ((s5 j (dh j hj)).2.1).trans (hA j hj)
  have Rg := R4.grow (o' := .lst (accV ++ [y])) at_ trivial nA nS
  have ry2 : RpL g S4 (upd H4 Da (.lst (accV ++ [y]))) [r] [y] Ay := RpL.grown (RpL.one ry) at_ trivial nS nDy
  have rl2 := RpL.grown (o := .lst (accV ++ [y])) rl at_ trivial nS nDB
  refine ⟨S4, Ta, A4, acc ++ [r], Da :: (B ++ Ay), Rg, hA4, qP, (pi.trans R1 p5).grown hDa, fun j hj => ?_, fun h hh => ⟨RpL.grown (RpL.held Ri (hd h hh).1 (hd h hh).2.1 p5 s5 (d h hh)) at_ trivial nS fun z => (hd h hh).2.2 Da z rfl, (hd h hh).2.1.held Ri R4 (RpL.cells _ _ _ (hd h hh).1) p5 s5 (d h hh), (hd h hh).2.2⟩, ⟨Da, accV ++ [y], B ++ Ay, rfl, upd_same, rfl, .inl rfl, RpL.append _ _ _ _ _ _ rl2 ry2⟩, oap⟩
  have sg := (si.trans s5).grown (o := .lst (accV ++ [y])) hDa j fun z => hj ((List.mem_append.mp z).elim id fun z => hE j z)
  exact sg
theorem LI.imp {P P' : List T → List T → Prop} {H' : Hp} (h : LI g H A S1 H1 A1 Ts1 E hs Da hid σ P H') (i : ∀ acc Ti, P acc Ti → P' acc Ti) : LI g H A S1 H1 A1 Ts1 E hs Da hid σ P' H' := by
  obtain ⟨S', Tsi, A', acc, Aa, Ri, hA, qP, w⟩ := h
  exact ⟨S', Tsi, A', acc, Aa, Ri, hA, i _ _ qP, w⟩
theorem LI.wiped {P : List T → List T → Prop} {H' : Hp} {σ2 : L2.St} (ew : wipe σ2 vs = wipe σ vs) (hv : ∀ j ∈ vs, j ∈ hid) (hE : ∀ j ∈ hid, j ∈ E) (h : LI g H A S1 H1 A1 Ts1 E hs Da hid σ2 (fun acc Ti => P acc (wipeT Ti vs)) H') : LI g H A S1 H1 A1 Ts1 E hs Da hid (wipe σ vs) P H' := by
  obtain ⟨S', Tsi, A', acc, Aa, Ri, hA, qP, pi, si, w⟩ := h
  refine ⟨S', wipeT Tsi vs, A', acc, Aa, Ri.turned ew fun j hj => hA j (hv j hj), hA, qP, pi, fun j hj => ?_, w⟩
  obtain ⟨x1, x2, x3⟩ := si j hj
  exact ⟨(wipeT_out vs Tsi j fun z => hj (hE j (hv j z))).trans x1, x2, x3⟩
theorem LI.step {F : List T × List T} {t : T} {ts : List T} {x : V} {H' H2 : Hp} (R : SR g S H σ0 Ts A) (p1 : Po S H A S1 H1 A1) (hDa : H1 Da = none) (dv : ∀ j ∈ a1, j ∈ vs) (hv : ∀ j ∈ vs, j ∈ hid) (hE : ∀ j ∈ hid, j ∈ E) (hE2 : ∀ j ∈ e2 ++ e3, j ∈ E) (d : ∀ h ∈ hs, ∀ j ∈ h.bo, j ∉ a1 ++ (e2 ++ e3)) (dh : ∀ j ∈ hid, j ∉ e2 ++ e3) (R1 : SR g S1 H1 σ0 Ts1 A1)
    (h : LI g H A S1 H1 A1 Ts1 E hs Da hid (wipe σ vs) (fun acc Ti => lcM m tt te vs (t :: ts) acc Ti = some F) H') (ex : Ext H' H2) (hy : ∀ S2, (∀ h ∈ hs, RpL g S2 H' h.cs h.cx h.ax) → Rp g S2 H2 t x []) :
    TGm g m a1 x (wipe σ vs) H2 fun σ2 H2 => wipe σ2 vs = wipe σ vs ∧ TMt g tt e2 σ2 H2 fun b H3 => if b = true then TM g te e3 [] σ2 H3 fun y H4 => ∃ acc, H4 Da = some (.lst acc) ∧ acc.length < sizeLine ∧ LI g H A S1 H1 A1 Ts1 E hs Da hid (wipe σ vs) (fun acc Ti => lcM m tt te vs ts acc Ti = some F) (upd H4 Da (.lst (acc ++ [y]))) else LI g H A S1 H1 A1 Ts1 E hs Da hid (wipe σ vs) (fun acc Ti => lcM m tt te vs ts acc Ti = some F) H3 := by
  refine LI.put (P := fun acc Ta => ∃ b Tb, tt Ta = some (b, Tb) ∧ (if b then bnd te fun r => if acc.length < sizeLine then (fun Ts => lcM m tt te vs ts (acc ++ [r]) (wipeT Ts vs)) else fun _ => none else fun Ts => lcM m tt te vs ts acc (wipeT Ts vs)) Tb = some F) R dv hv hE (fun h hh j hj z => d h hh j hj (List.mem_append_left _ z)) R1 (h.imp fun acc Ti q => ?_) ex hy fun σ2 ew l2 => ⟨ew, ?_⟩
  · obtain ⟨_, Ta, qa, qb⟩ := bnd_some q
    obtain ⟨b, Tb, qc, qd⟩ := bnd_some qb
    exact ⟨Ta, qa, b, Tb, qc, qd⟩
  refine LI.test (P := fun acc Ta => ∀ b Tb, tt Ta = some (b, Tb) → (if b then bnd te fun r => if acc.length < sizeLine then (fun Ts => lcM m tt te vs ts (acc ++ [r]) (wipeT Ts vs)) else fun _ => none else fun Ts => lcM m tt te vs ts acc (wipeT Ts vs)) Tb = some F) (fun j hj z => dh j hj (List.mem_append_left _ z)) (fun j z => hE2 j (List.mem_append_left _ z)) (fun h hh j hj z => d h hh j hj (List.mem_append_right _ (List.mem_append_left _ z))) R1 (l2.imp fun acc Ta q => ?_) fun b H3 l3 => ?_
  · obtain ⟨b, Tb, q1, q2⟩ := q
    exact ⟨b, Tb, q1, fun b' Tb' q1' => by rw [q1] at q1'; injection q1' with q1'; injection q1' with w1 w2; subst w1; subst w2; exact q2⟩
  cases b with
  | false =>
    refine iteF (LI.wiped ew hv hE (l3.imp fun acc Tb q => ?_))
    obtain ⟨Ta, q1, q2⟩ := q
    exact q2 false Tb q1
  | true =>
    refine iteT (LI.elt (P := fun acc Ti => lcM m tt te vs ts acc (wipeT Ti vs) = some F) R p1 hDa (fun j hj z => dh j hj (List.mem_append_right _ z)) (fun j z => hE2 j (List.mem_append_right _ z)) (fun h hh j hj z => d h hh j hj (List.mem_append_right _ (List.mem_append_right _ z))) R1 (l3.imp fun acc Tb q => ?_) fun H4 l4 => LI.wiped ew hv hE l4)
    obtain ⟨Ta, q1, q2⟩ := q
    have q3 := q2 true Tb q1
    obtain ⟨r, Tc, q4, q5⟩ := bnd_some q3
    split at q5
    · rename_i hz
      exact ⟨r, Tc, q4, hz, q5⟩
    · cases q5
def lc2M (m : T → M Unit) (mi1 : M (List T)) (m1 : T → M Unit) (tt1 : M Bool) (te : M T) (vs vs1 : List Nat) : List T → List T → M (List T)
  | [], acc => ret acc
  | t :: ts, acc => bnd (m t) fun _ => bnd mi1 fun items => fun Ts => match lcM m1 tt1 te vs1 items acc (wipeT Ts vs1) with
    | some (acc', Ts') => lc2M m mi1 m1 tt1 te vs vs1 ts acc' (wipeT Ts' vs)
    | none => none
def mLc2 (mi : M (List T)) (m : T → M Unit) (mi1 : M (List T)) (m1 : T → M Unit) (tt1 : M Bool) (te : M T) (vs vs1 : List Nat) : M T := bnd mi fun items => fun Ts => if vs.all (fun i => hidOk (slot Ts i)) then (match lc2M m mi1 m1 tt1 te vs vs1 items [] (wipeT Ts vs) with
  | some (acc, Ts2) => some (.nd (.lst true) acc, rest Ts Ts2 vs)
  | none => none) else none
theorem LI.open1 {P : List T → List T → Prop} {Q : It → Hp → Prop} {H2 : Hp} {σ2 : L2.St} (R : SR g S H σ0 Ts A) (p1 : Po S H A S1 H1 A1) (dh : ∀ j ∈ hid, j ∉ e2) (hE : ∀ j ∈ e2, j ∈ E) (d : ∀ h ∈ hs, ∀ j ∈ h.bo, j ∉ e2) (R1 : SR g S1 H1 σ0 Ts1 A1)
    (h : LI g H A S1 H1 A1 Ts1 E hs Da hid σ2 (fun acc Ti => ∃ items Ta, mi1 Ti = some (items, Ta) ∧ P acc Ti) H2) (hDm : ∀ H' S' (acc : List T) Aa, Rp g S' H' (.nd (.lst true) acc) (.ref Da) Aa → H' Da ≠ none)
    (k : ∀ J H3 items (cs1 : List T) (cx1 : List V) (Ax1 : List Addr), Walk J items.length (fun H2 => ∃ S2, RpL g S2 H2 cs1 cx1 Ax1) (fun i H2 x H3 => Ext H2 H3 ∧ ∀ S2, RpL g S2 H2 cs1 cx1 Ax1 → ∃ t, items[i]? = some t ∧ Rp g S2 H3 t x []) →
      LI g H A S1 H1 A1 Ts1 E (⟨cs1, cx1, Ax1, b2⟩ :: hs) Da hid σ2 (fun acc Ta => ∃ Ti, mi1 Ti = some (items, Ta) ∧ P acc Ti) H3 → Q J H3) : TIm g mi1 e2 b2 σ2 H2 Q := by
  obtain ⟨S', Tsi, A', acc, Aa, Ri, hA, ⟨items, Ta, qa, qP⟩, pi, si, hd, ra, oa⟩ := h
  refine ⟨S', Tsi, A', items, Ta, Ri, qa, fun J H3 S3 A3 R3 it p3 s3 => ?_⟩
  obtain ⟨cs1, cx1, Ax1, rc, oc, wk⟩ := it
  have hca := Rp.cells _ _ _ ra
  have oa3 := oa.held Ri R3 hca p3 s3 (fun _ z => nomatch z)
  have DA : Da ∈ Aa := by
    obtain ⟨a, xs, B, e, at_, eA, _, _⟩ := ra
    injection e with e
    subst e
    rw [eA, if_pos (show (Kd.lst true).own = true from rfl)]; exact List.mem_cons_self
  refine k J H3 items cs1 cx1 Ax1 wk ⟨S3, Ta, A3, acc, Aa, R3, fun j hj => ((s3 j (dh j hj)).2.1).trans (hA j hj), ⟨Tsi, qa, qP⟩, pi.trans R1 p3, fun j hj => ?_, fun h hh => ?_, ra.held Ri oa p3 s3 (fun _ z => nomatch z), oa3⟩
  · obtain ⟨x1, x2, x3⟩ := si j hj
    obtain ⟨z1, z2, z3⟩ := s3 j fun z => hj (hE j z)
    exact ⟨z1.trans x1, z2.trans x2, fun a ha o eo => z3 a (by rw [x2]; exact ha) o (x3 a ha o eo)⟩
  · rcases List.mem_cons.mp hh with rfl | hh
    · refine ⟨rc, oc.rebase (p1.trans R pi), fun a ha e => ?_⟩
      subst e
      rcases oc.new a ha with ⟨j, hj⟩ | h
      · exact oa.dj j (fun z => nomatch z) a DA hj
      · exact mut_ne (hca a DA) h
    · exact ⟨RpL.held Ri (hd h hh).1 (hd h hh).2.1 p3 s3 (d h hh), (hd h hh).2.1.held Ri R3 (RpL.cells _ _ _ (hd h hh).1) p3 s3 (d h hh), (hd h hh).2.2⟩
theorem yes_of {σ : L2.St} {H : Hp} {Q : Bool → Hp → Prop} (h : Q true H) : tYes σ H Q := h
theorem drop_at {α : Type} {l : List α} {i : Nat} {t : α} (h : l[i]? = some t) : l.drop i = t :: l.drop (i + 1) := by
  obtain ⟨h1, h2⟩ := List.getElem?_eq_some_iff.mp h
  rw [← h2]; exact List.drop_eq_getElem_cons h1
theorem wipe_wipe {σ2 σ : L2.St} {vs vs1 : List Nat} (hv : ∀ j ∈ vs1, j ∈ vs) (e : wipe σ2 vs = wipe σ vs) : wipe (wipe σ2 vs1) vs = wipe σ vs := by
  have hl : σ2.length = σ.length := by rw [← wipe_length σ2 vs, e, wipe_length]
  refine List.ext_getElem? fun j => ?_
  by_cases hj : j ∈ vs
  · by_cases hl2 : j < σ.length
    · rw [wipe_in (by rw [wipe_length]; omega) hj, wipe_in hl2 hj]
    · rw [List.getElem?_eq_none_iff.mpr (by rw [wipe_length, wipe_length]; omega), List.getElem?_eq_none_iff.mpr (by rw [wipe_length]; omega)]
  · rw [wipe_out hj, wipe_out (fun z => hj (hv j z)), ← e, wipe_out hj]
theorem lc2_r {tt1 : M Bool} {e4 : List Nat} (dv : ∀ j ∈ a1, j ∈ vs) (dv1 : ∀ j ∈ a2, j ∈ vs1) (hv1 : ∀ j ∈ vs1, j ∈ vs) (d : ∀ j ∈ b1, j ∉ a1 ++ (e2 ++ (a2 ++ (e3 ++ e4)))) (d2 : ∀ j ∈ b2, j ∉ a2 ++ (e3 ++ e4)) (dh : ∀ j ∈ vs, j ∉ e2 ++ (e3 ++ e4))
    (σ : L2.St) (H : Hp) (Q : VK) (h : TM g (mLc2 mi m mi1 m1 tt1 te vs vs1) (e1 ++ (e2 ++ (e3 ++ e4))) [] σ H Q) : tLc2 (TIm g mi e1 b1) (TGm g m a1) tYes (TIm g mi1 e2 b2) (TGm g m1 a2) (TMt g tt1 e3) (TM g te e4 []) vs vs1 σ H Q := by
  obtain ⟨S, Ts, A, t, Ts', R, q, k⟩ := h
  obtain ⟨items, Ts1, q1, q2⟩ := bnd_some q
  split at q2
  · rename_i hh
    have hh : ∀ i ∈ vs, hidOk (slot Ts1 i) = true := fun i hi => List.all_eq_true.mp hh i hi
    cases q3 : lc2M m mi1 m1 tt1 te vs vs1 items [] (wipeT Ts1 vs) with
    | none => rw [q3] at q2; cases q2
    | some pr =>
      obtain ⟨accF, TsF⟩ := pr
      rw [q3] at q2
      have q2 : some (T.nd (.lst true) accF, rest Ts1 TsF vs) = some (t, Ts') := q2
      injection q2 with q2
      injection q2 with h1 h2
      subst h1; subst h2
      refine ⟨S, Ts, A, items, Ts1, R, q1, fun J H1 S1 A1 R1 it p1 s1 Da hDa => ?_⟩
      obtain ⟨cs, cx, Ax, rc, oc, wk⟩ := it
      have ex0 := upd_ext (o := .lst []) hDa
      have fr := R1.fresh hDa
      have bkD : (∃ j, Da ∈ A j) ∨ noT (H Da) = none := by
        cases e : H Da with
        | none => exact .inr rfl
        | some ob =>
          by_cases hj : ∃ j, Da ∈ A j
          · exact .inl hj
          · exact .inr (e ▸ fix_back hDa e (p1.keep Da ob e fun i hi => hj ⟨i, hi⟩))
      have hE : ∀ j ∈ vs, j ∈ vs ++ (e2 ++ (e3 ++ e4)) := fun j hj => List.mem_append_left _ hj
      refine ⟨fun i n H' => n = items.length - i ∧ i ≤ items.length ∧ LI g H A S1 H1 A1 Ts1 (vs ++ (e2 ++ (e3 ++ e4))) [⟨cs, cx, Ax, b1⟩] Da vs (wipe σ vs) (fun acc Ti => lc2M m mi1 m1 tt1 te vs vs1 (items.drop i) acc Ti = some (accF, TsF)) H', ⟨items.length, rfl, Nat.zero_le _, S1, wipeT Ts1 vs, A1, [], [Da], (R1.ext ex0).wiped vs hh, fun j hj => hid_nil R1 (hh j hj), q3, Po.ext ex0, ?_, ?_, ⟨Da, [], [], rfl, upd_same, rfl, .inl rfl, rfl, rfl⟩, ⟨?_, ?_, fun _ => List.nodup_cons.mpr ⟨(fun z => nomatch z), List.nodup_nil⟩, ?_⟩⟩, ?_⟩
      · exact fun j hj => ⟨wipeT_out vs Ts1 j fun z => hj (List.mem_append_left _ z), rfl, fun a _ o eo => ex0 a o eo⟩
      · intro h hh2
        rw [List.mem_singleton.mp hh2]
        refine ⟨rc.ext ex0, oc, fun a ha e => ?_⟩
        subst e
        exact mut_ne (RpL.cells _ _ _ rc a ha) hDa
      · intro a ha
        rw [List.mem_singleton.mp ha]; exact fr.1
      · intro i _ a ha
        rw [List.mem_singleton.mp ha]; exact fr.2 i
      · intro a ha
        rw [List.mem_singleton.mp ha]; exact bkD
      · rintro i n H' ⟨rfl, hi, li⟩
        have hG : ∃ S2, RpL g S2 H' cs cx Ax := by
          obtain ⟨S', _, _, _, _, _, _, _, _, _, hd, _⟩ := id li
          exact ⟨S', (hd _ (List.mem_singleton.mpr rfl)).1⟩
        by_cases hlt : i < items.length
        · refine .inr ⟨wk.goes i H' hlt hG, fun H2 => LI g H A S1 H1 A1 Ts1 (vs ++ (e2 ++ (e3 ++ e4))) [⟨cs, cx, Ax, b1⟩] Da vs (wipe σ vs) (fun acc Ti => lc2M m mi1 m1 tt1 te vs vs1 (items.drop (i + 1)) acc Ti = some (accF, TsF)) H2, fun H2 l2 => ⟨_, by omega, rfl, hlt, l2⟩, fun x H2 yl => ?_⟩
          obtain ⟨ex, hy⟩ := wk.yields i H' x H2 hlt hG yl
          have ti : ∃ t, items[i]? = some t := ⟨items[i], by simp [hlt]⟩
          obtain ⟨t, ht⟩ := ti
          refine LI.put (t := t) (P := fun acc Ta => ∃ its Tb, mi1 Ta = some (its, Tb) ∧ ∃ a' T', lcM m1 tt1 te vs1 its acc (wipeT Tb vs1) = some (a', T') ∧ lc2M m mi1 m1 tt1 te vs vs1 (items.drop (i + 1)) a' (wipeT T' vs) = some (accF, TsF)) R dv (fun j hj => hj) hE (fun h hh2 j hj z => ?_) R1 (li.imp fun acc Ti qq => ?_) ex (fun S2 hS2 => ?_) fun σ2 ew l2 => ⟨ew, yes_of (iteT ?_)⟩
          · rw [List.mem_singleton.mp hh2] at hj
            exact d j hj (List.mem_append_left _ z)
          · rw [drop_at ht] at qq
            obtain ⟨_, Ta, qa, qb⟩ := bnd_some qq
            obtain ⟨its, Tb, qc, qd⟩ := bnd_some qb
            cases ql : lcM m1 tt1 te vs1 its acc (wipeT Tb vs1) with
            | none => rw [ql] at qd; cases qd
            | some pr =>
              obtain ⟨a', T'⟩ := pr
              rw [ql] at qd
              exact ⟨Ta, qa, its, Tb, qc, a', T', ql, qd⟩
          · obtain ⟨t', ht', rt⟩ := hy S2 (hS2 _ (List.mem_singleton.mpr rfl))
            rw [ht] at ht'
            injection ht' with ht'
            subst ht'
            exact rt
          refine LI.open1 (P := fun acc Ta => ∀ its Tb, mi1 Ta = some (its, Tb) → ∃ a' T', lcM m1 tt1 te vs1 its acc (wipeT Tb vs1) = some (a', T') ∧ lc2M m mi1 m1 tt1 te vs vs1 (items.drop (i + 1)) a' (wipeT T' vs) = some (accF, TsF)) R p1 (fun j hj z => dh j hj (List.mem_append_left _ z)) (fun j hj => List.mem_append_right _ (List.mem_append_left _ hj)) (fun h hh2 j hj z => ?_) R1 (l2.imp fun acc Ta qq => ?_) (fun H' S' acc Aa r z => ?_) fun J1 H3 its cs1 cx1 Ax1 wk1 l3 => ?_
          · rw [List.mem_singleton.mp hh2] at hj
            exact d j hj (List.mem_append_right _ (List.mem_append_left _ z))
          · obtain ⟨its, Tb, w1, w2⟩ := qq
            exact ⟨its, Tb, w1, fun its' Tb' w1' => by rw [w1] at w1'; injection w1' with w1'; injection w1' with u1 u2; subst u1; subst u2; exact w2⟩
          · obtain ⟨a, xs, B, e, at_, _⟩ := r
            injection e with e
            subst e
            have at_ : H' Da = some (.lst xs) := at_
            rw [at_] at z; cases z
          have key : ∃ F : List T × List T, LI g H A S1 H1 A1 Ts1 (vs ++ (e2 ++ (e3 ++ e4))) (⟨cs1, cx1, Ax1, b2⟩ :: [⟨cs, cx, Ax, b1⟩]) Da vs σ2 (fun acc Ta => lcM m1 tt1 te vs1 its acc (wipeT Ta vs1) = some F) H3 ∧ lc2M m mi1 m1 tt1 te vs vs1 (items.drop (i + 1)) F.1 (wipeT F.2 vs) = some (accF, TsF) := by
            obtain ⟨S', Tsi, A', acc, Aa, Ri, hA, ⟨Ti, qa, qP⟩, w⟩ := l3
            obtain ⟨a', T', qb, qc⟩ := qP its Tsi qa
            exact ⟨(a', T'), ⟨S', Tsi, A', acc, Aa, Ri, hA, qb, w⟩, qc⟩
          obtain ⟨F, l4, qF⟩ := key
          have l5 := LI.wiped (vs := vs1) (σ := σ2) (P := fun acc Ti => lcM m1 tt1 te vs1 its acc Ti = some F) rfl hv1 hE l4
          refine ⟨fun j n H' => n = its.length - j ∧ j ≤ its.length ∧ LI g H A S1 H1 A1 Ts1 (vs ++ (e2 ++ (e3 ++ e4))) (⟨cs1, cx1, Ax1, b2⟩ :: [⟨cs, cx, Ax, b1⟩]) Da vs (wipe σ2 vs1) (fun acc Ti => lcM m1 tt1 te vs1 (its.drop j) acc Ti = some F) H', ⟨its.length, rfl, Nat.zero_le _, l5⟩, ?_⟩
          rintro j n H4 ⟨rfl, hj, lj⟩
          have hG1 : ∃ S2, RpL g S2 H4 cs1 cx1 Ax1 := by
            obtain ⟨S', _, _, _, _, _, _, _, _, _, hd, _⟩ := id lj
            exact ⟨S', (hd _ List.mem_cons_self).1⟩
          by_cases hjl : j < its.length
          · refine .inr ⟨wk1.goes j H4 hjl hG1, fun H5 => LI g H A S1 H1 A1 Ts1 (vs ++ (e2 ++ (e3 ++ e4))) (⟨cs1, cx1, Ax1, b2⟩ :: [⟨cs, cx, Ax, b1⟩]) Da vs (wipe σ2 vs1) (fun acc Ti => lcM m1 tt1 te vs1 (its.drop (j + 1)) acc Ti = some F) H5, fun H5 l6 => ⟨_, by omega, rfl, hjl, l6⟩, fun y H5 yl1 => ?_⟩
            obtain ⟨ex1, hy1⟩ := wk1.yields j H4 y H5 hjl hG1 yl1
            have tj : ∃ t, its[j]? = some t := ⟨its[j], by simp [hjl]⟩
            obtain ⟨u, hu⟩ := tj
            rw [drop_at hu] at lj
            refine LI.step (a1 := a2) (e2 := e3) (e3 := e4) (m := m1) (tt := tt1) R p1 hDa dv1 hv1 hE (fun j hj => List.mem_append_right _ (List.mem_append_right _ hj)) (fun h hh2 j hj z => ?_) (fun j hj z => dh j hj (List.mem_append_right _ z)) R1 lj ex1 fun S2 hS2 => ?_
            · rcases List.mem_cons.mp hh2 with rfl | hh2
              · exact d2 j hj z
              · rw [List.mem_singleton.mp hh2] at hj
                exact d j hj (List.mem_append_right _ (List.mem_append_right _ z))
            · obtain ⟨t', ht', rt⟩ := hy1 S2 (hS2 _ List.mem_cons_self)
              rw [hu] at ht'
              injection ht' with ht'
              subst ht'
              exact rt
          · have ej : j = its.length := by omega
            subst ej
            refine .inl ⟨wk1.stops H4 hG1, ?_⟩
            obtain ⟨S', Tsi, A', acc, Aa, Ri, hA, qP, pi, si, hd, ra, oa⟩ := lj
            rw [List.drop_length] at qP
            have qP : some (acc, Tsi) = some F := qP
            injection qP with qP
            subst qP
            refine LI.wiped (wipe_wipe hv1 ew) (fun j hj => hj) hE ⟨S', Tsi, A', acc, Aa, Ri, hA, qF, pi, si, fun h hh2 => hd h (List.mem_cons_of_mem _ hh2), ra, oa⟩
        · have ei : i = items.length := by omega
          subst ei
          refine .inl ⟨wk.stops H' hG, ?_⟩
          obtain ⟨S', Tsi, A', acc, Aa, Ri, hv, qi, pi, si, hd, ra, oa⟩ := li
          rw [List.drop_length] at qi
          have qi : some (acc, Tsi) = some (accF, TsF) := qi
          injection qi with qi
          injection qi with h1 h2
          subst h1; subst h2
          refine k (.ref Da) H' S' A' Aa (R1.rested pi Ri hh hv) ra oa (p1.trans R pi) fun j hj => ?_
          obtain ⟨x1, x2, x3⟩ := s1 j fun z => hj (List.mem_append_left _ z)
          by_cases hjv : j ∈ vs
          · have hl : Ts1.length = Tsi.length := by rw [R1.len, Ri.len, wipe_length]
            refine ⟨(rest_in vs Tsi j hjv hl).trans x1, ?_, fun a ha o eo => ?_⟩
            · rw [hv j hjv, ← x2, hid_nil R1 (hh j hjv)]
            · rw [← x2, hid_nil R1 (hh j hjv)] at ha
              exact nomatch ha
          · obtain ⟨y1, y2, y3⟩ := si j fun z => (List.mem_append.mp z).elim hjv fun z => hj (List.mem_append_right _ z)
            exact ⟨(rest_out vs Tsi j hjv).trans (y1.trans x1), y2.trans x2, fun a ha o eo => y3 a (by rw [x2]; exact ha) o (x3 a ha o eo)⟩
  · cases q2
end
end MI
namespace MI
open PySem PySem.Spec PyProof.Rows L2
section
variable {g : Gc} {X : Cx} {e e' tg iter tg1 iter1 elt : Expr} {ifs1 : List Expr} {fs : M (List T)} {m m1 : T → M Unit} {tt : M Bool} {te : M T} {mi mi1 : M (List T)} {a1 a2 e1 e2 e3 e4 b1 b2 : List Nat} {pos p2 tpos spos py : Pos} {elts : List Expr} {kk : Nat}
def zipT (xs ys : List T) : List T := (xs.zip ys).map fun p => .nd .tup [p.1, p.2]
theorem tm_lc2 {scope : Scope} {own : List (Str × Nat)} {vs1 : List Nat} (hc : X.calm = true) (hN : X.N.Nodup) (hi : PIm g X tg iter mi e1 b1) (ok : BlkOk X.N X.env.scope scope own)
    (hg : ∀ (s : Shared) (H : Hp) (C : Addr) (cl : List (Str × Addr)) (fp : List Addr), PGm g (X.blk s H scope (compEnvC scope cl C X.env) fp) tg m a1)
    (hi1 : ∀ (s : Shared) (H : Hp) (C : Addr) (cl : List (Str × Addr)) (fp : List Addr), PIm g (X.blk s H scope (compEnvC scope cl C X.env) fp) tg1 iter1 mi1 e2 b2)
    (hg1 : ∀ (s : Shared) (H : Hp) (C : Addr) (cl : List (Str × Addr)) (fp : List Addr), PGm g (X.blk s H scope (compEnvC scope cl C X.env) fp) tg1 m1 a2) (ht1 : ∀ (s : Shared) (H : Hp) (C : Addr) (cl : List (Str × Addr)) (fp : List Addr), PTsm g (X.blk s H scope (compEnvC scope cl C X.env) fp) ifs1 tt e3)
    (he : ∀ (s : Shared) (H : Hp) (C : Addr) (cl : List (Str × Addr)) (fp : List Addr), PEm g (X.blk s H scope (compEnvC scope cl C X.env) fp) elt te e4 [])
    (dv : ∀ j ∈ a1, j ∈ own.map (·.2) := by decide) (dv1 : ∀ j ∈ a2, j ∈ vs1 := by decide) (hv1 : ∀ j ∈ vs1, j ∈ own.map (·.2) := by decide) (d : ∀ j ∈ b1, j ∉ a1 ++ (e2 ++ (a2 ++ (e3 ++ e4))) := by decide) (d2 : ∀ j ∈ b2, j ∉ a2 ++ (e3 ++ e4) := by decide) (dh : ∀ j ∈ own.map (·.2), j ∉ e2 ++ (e3 ++ e4) := by decide)
    (hs : ∀ x, foldedSetIterable iter X.env x = pure x := by intro _; rfl) (hs1 : ∀ env x, foldedSetIterable iter1 env x = pure x := by intro _ _; rfl) :
    PEm g X (.ListComp elt [⟨tg, iter, [], 0⟩, ⟨tg1, iter1, ifs1, 0⟩] scope pos) (mLc2 mi m mi1 m1 tt te (own.map (·.2)) vs1) (e1 ++ (e2 ++ (e3 ++ e4))) [] :=
  PE.imp (pe_lc2 hc hN hi ok hv1 hg (fun _ _ _ _ _ => pts_nil) hi1 hg1 ht1 he hs hs1) (lc2_r dv dv1 hv1 d d2 dh)
end
end MI
namespace MI
open PySem PySem.Spec PyProof.Rows L2
def cN (xs : List Str) : Nat → Nat
  | 0 => 0
  | i + 1 => if (xs.take i).any (· == xs.getD i Str.empty) then cN xs i else cN xs i + 1
theorem cN_le (xs : List Str) : ∀ i, cN xs i ≤ i
  | 0 => Nat.le_refl _
  | i + 1 => by
    have := cN_le xs i
    unfold cN
    split <;> omega
section
variable {K : Type} [DecidableEq K]
def addK (p : (K → Bool) × Nat) (k : K) : (K → Bool) × Nat := (fun j => p.1 j || decide (j = k), if p.1 k then p.2 else p.2 + 1)
theorem addK_le (p : (K → Bool) × Nat) (k : K) : (addK p k).2 ≤ p.2 + 1 := by
  show (if p.1 k then p.2 else p.2 + 1) ≤ p.2 + 1
  split <;> omega
end
def noneK {K : Type} : (K → Bool) × Nat := (fun _ => false, 0)
theorem addK_cN (xs : List Str) : ∀ i, i ≤ xs.length → (xs.take i).foldl addK noneK = (fun j => (xs.take i).any (· == j), cN xs i)
  | 0, _ => rfl
  | i + 1, h => by
    have lt : i < xs.length := h
    have here : xs.getD i Str.empty = xs[i] := by rw [List.getD_eq_getElem?_getD, List.getElem?_eq_getElem lt]; rfl
    have split : xs.take (i + 1) = xs.take i ++ [xs[i]] := by rw [List.take_add_one, List.getElem?_eq_getElem lt]; rfl
    rw [split, List.foldl_append, addK_cN xs i (Nat.le_of_lt lt)]
    show addK _ xs[i] = _
    unfold addK
    refine Prod.ext (funext fun j => ?_) ?_
    · show ((xs.take i).any (· == j) || decide (j = xs[i])) = (xs.take i ++ [xs[i]]).any (· == j)
      rw [List.any_append]
      congr 1
      by_cases e : j = xs[i]
      · simp [e]
      · have e2 : ¬ xs[i] = j := fun z => e z.symm
        simp [e, e2]
    · show (if (xs.take i).any (· == xs[i]) then cN xs i else cN xs i + 1) = cN xs (i + 1)
      rw [cN, here]
section
variable {prog : Program} {w : World} {A : Around} {R : Result → Shared → Prop} {I S : Addr} {fp wr : List Addr} {G : Array GenState → Array GenState → Prop} {n : Nat} {P : Nat → Value → Prop} {St : Nat → Shared → Prop} {K : Type} [DecidableEq K]
theorem set_stays {knd : KeyKind prog w K} {h h' : Heap} {mem : K → Bool} {c : Nat} (x : h.SetOf knd S mem c) (k : ∀ o, h.get? S = some o → h'.get? S = some o) : h'.SetOf knd S mem c :=
  x.elim fun o r => r.elim fun es r => r.elim fun ep r => r.elim fun t r => ⟨o, es, ep, t, k o r.1, r.2⟩
theorem fillK (knd : KeyKind prog w K) (W : WalksS prog w A.in1 I fp wr G n P St) (out : S ∉ fp) : ∀ (ks : List K) (i : Nat) (p : (K → Bool) × Nat) (z : Shared), i + ks.length = n → (∀ j v, P (i + j) v → ∃ k, ks[j]? = some k ∧ knd.is k v = true ∧ v.scannable = true) →
    p.2 + ks.length + 1 < scanBound → St i z → z.heap.SetOf knd S p.1 p.2 → (∀ z', Moved (S :: wr) G z z' → z'.heap.SetOf knd S (ks.foldl addK p).1 (ks.foldl addK p).2 → R (.ok (.ret .none)) z') →
    codeAny (model prog w) A (.builtin "set.update.loop" ⟨[.ref S, .ref I], []⟩) R z := by
  have outW : S ∉ wr := fun m => out (W.sub S m)
  have wide : ∀ {z z' : Shared}, Moved wr G z z' → Moved (S :: wr) G z z' := fun m => m.mono fun _ => List.mem_cons_of_mem S
  intro ks
  induction ks with
  | nil =>
    intro i p z len _ _ st set fin
    have at_ : i = n := by simpa using len
    subst at_
    refine codeAny_builtin PyProof.Rows.F.entry_set_update_loop (Around.under_plainId PyProof.Rows.F.plain_set_update_loop _ ▸ wpAny_bind (W.done z _ _ st fun z' mv => wpAny_pure (fin z' (wide mv) ?_)))
    exact set_stays set fun o e => mv.heap S o outW e
  | cons k ks ih =>
    intro i p z len key few st set fin
    rw [List.length_cons] at len few
    refine codeAny_builtin PyProof.Rows.F.entry_set_update_loop (Around.under_plainId PyProof.Rows.F.plain_set_update_loop _ ▸ wpAny_bind (W.item i z _ _ (by omega) st fun v z1 pv st1 mv => ?_))
    obtain ⟨k', e, isK, flat⟩ := key 0 v pv
    have ek : k' = k := (Option.some.inj e).symm
    subst ek
    have set1 := set_stays set fun o e => mv.heap S o outW e
    refine wpAny_bind (wpAny_holding (wpAny_holding (wpAny_bind (knd.pyHash isK (wpAny_setAddHashed_of (s := { z1 with toks := z1.toks + 1 }) isK flat set1 (by omega) fun h2 same set2 => ?_)))))
    refine wpAny_pure ⟨plainId_quiet PyProof.Rows.F.plain_set_update_loop _, ih (i + 1) (addK p k') _ (by omega) (fun j v pv => ?_) (by have := addK_le p k'; omega) (W.frame _ z1 _ _ st1 (Nat.le_add_right _ 1) fun b m o e => ?_) set2 fun z3 mv3 set3 => fin z3 ?_ set3⟩
    · have := key (j + 1) v (by rw [show i + (j + 1) = i + 1 + j by omega]; exact pv)
      simpa using this
    · exact (same.2 b fun e => out (e ▸ m)).trans e
    · refine Moved.trans W.gtrans ((wide mv).then_heap (Nat.le_add_right _ 1) fun b o m e => ?_) mv3
      exact (same.2 b fun e => m (e ▸ List.mem_cons_self)).trans e
end
section
variable {prog : Program} {w : World} {A : Around} {E : Value → Shared → Prop} {s : Shared}
abbrev newSet (led : Bool) : Obj := { cls := .type "set", dict := none, data := .set #[] 0 (.fresh 0 0 led) }
theorem set_init_tup {R : Result → Shared → Prop} {S l : Addr} {items : Array Value} {xs : List Str} {led : Bool} (calm : A.handled = none) (new : s.heap.get? S = some (newSet led)) (tup : s.heap.IsTuple l items) (apart : S ≠ l) (txt : StrsAre items.toList xs) (few : xs.length + 1 < scanBound)
    (fin : ∀ h' tk, h'.SetOf (PySem.strKind prog w) S (xs.foldl addK noneK).1 (xs.foldl addK noneK).2 → (∀ b o, b ≠ S → s.heap.get? b = some o → h'.get? b = some o) → R (.ok (.ret .none)) { s with heap := h', toks := tk }) :
    wpAny (model prog w) A.in1 (Builtin.«set.__init__» ⟨[.ref S, .ref l], []⟩) (fun f s' => match f with
      | .done f => R (.ok f) s'
      | .again c => c.quiet = true ∧ codeAny (model prog w) A c R s') (fun e s' => R (.error e) s') s := by
  obtain ⟨hp, gs, dr, tk, os⟩ := s
  have isS : Shared.TypeIs ⟨hp, gs, dr, tk, os⟩ (.ref S) "set" := ⟨_, new, rfl⟩
  have isT : Shared.TypeIs ⟨hp, gs, dr, tk, os⟩ (.ref l) "tuple" := tup.typeIs
  have noSet := PySem.F.sub_tuple_set
  have noFro := PySem.F.sub_tuple_frozenset
  have noDct : (Value.type "tuple" == Value.type "dict") = false := by decide
  unfold Builtin.«set.__init__» noKeywords Builtin.Frozenset.updateFrom
  generalize ei : pyIter = iter
  wp_walk
  subst ei
  have lS : S < hp.objs.size := Heap.lt_size new
  have lL : l < hp.objs.size := tup.elim fun _ r => Heap.lt_size r.1
  have size : xs.length = items.size := by rw [← StrsAre.len_eq txt, Array.length_toList]
  refine wpAny_pyIter_tuple tup (wpAny_bind (wpAny_runValue (fillK (PySem.strKind prog w) (Walks.tuple (by simp [calm]) hp.objs.size l (Nat.ne_of_lt lL) items).toS ?out xs 0 noneK _ (by omega) (fun j v e => ?key) (by show 0 + xs.length + 1 < _; omega) ⟨⟨_, Heap.get?_push_size _ rfl, rfl, rfl⟩, tup.push _⟩ ?set fun z' mv set' => ?fin)))
  case out => simp only [List.mem_cons, List.not_mem_nil, or_false, not_or]; exact ⟨Nat.ne_of_lt lS, apart⟩
  case key =>
    obtain ⟨u, rfl⟩ := SS.strs_at txt j v (by rw [Array.getElem?_toList]; simpa using e)
    have lt : j < xs.length := by rw [size]; exact (Array.getElem?_eq_some_iff.mp (by simpa using e)).1
    exact ⟨xs[j], List.getElem?_eq_getElem lt, by rw [List.getD_eq_getElem?_getD, List.getElem?_eq_getElem lt]; exact strKind_is _ _ _ _, rfl⟩
  case set => exact (PyProof.Rows.SetOf_congr ((PyProof.Rows.setObjOf_fresh (knd := PySem.strKind prog w) led).setOf (Heap.get?_push_of_some _ new) (by unfold scanBound; omega)) (fun _ => rfl) rfl)
  case fin =>
    obtain ⟨h', gs', dr', tk', os'⟩ := z'
    have e1 : gs' = gs := mv.gens
    have e2 : dr' = dr := mv.drawn
    have e3 : os' = os := mv.os
    subst e1; subst e2; subst e3
    refine wpAny_pure (wpAny_pure (fin h' tk' set' fun b o ne e => mv.heap b o ?_ (Heap.get?_push_of_some _ e)))
    simp only [List.mem_cons, List.not_mem_nil, or_false, not_or]
    exact ⟨ne, Nat.ne_of_lt (Heap.lt_size e)⟩
theorem set_of_tupS {l : Addr} {items : Array Value} {xs : List Str} {Q : Value → Shared → Prop} (calm : A.handled = none) (tup : s.heap.IsTuple l items) (txt : StrsAre items.toList xs) (few : xs.length + 1 < scanBound)
    (fin : ∀ h' tk, h'.SetOf (PySem.strKind prog w) s.heap.objs.size (xs.foldl addK noneK).1 (xs.foldl addK noneK).2 → (∀ b o, s.heap.get? b = some o → h'.get? b = some o) → Q (.ref s.heap.objs.size) { s with heap := h', toks := tk }) :
    wpAny (model prog w) A (call (.type "set") [.ref l]) Q E s := by
  have T := PySem.F.called_set
  obtain ⟨c, tl, mro⟩ := T.mro
  have made := T.made
  have sub := T.sub
  have notType := T.notType
  have can := T.canCreate
  have chk := PySem.F.typeCall_set_1 (.ref l)
  have lL : l < s.heap.objs.size := tup.elim fun _ r => Heap.lt_size r.1
  refine wpAny_call (codeAny_of_tree (wpAny_pure ⟨Code.quiet_builtin _ (by decide +kernel), codeAny_builtin PySem.F.entry_type_call ?_⟩))
  rw [Around.under_plain (weight_type_call_type "set" [.ref l] []) rfl]
  repeat (any_goals (first | assumption | wp_step))
  refine codeAny_mono (code_set_new_1 (.ref l) (E := E) (Q₁ := fun obj z => ∃ led, obj = .ref s.heap.objs.size ∧ z = { s with heap := s.heap.push (newSet led) }) fun led => ⟨led, rfl, rfl⟩) fun r z hr => ?_
  cases r with
  | error e => exact hr
  | ok fl =>
    cases fl with
    | next => exact hr.elim
    | brk => exact hr.elim
    | cont => exact hr.elim
    | ret obj =>
      obtain ⟨led, eo, ez⟩ := hr
      subst eo; subst ez
      have here : (s.heap.push (newSet led)).get? s.heap.objs.size = some (newSet led) := Heap.get?_push_size _ rfl
      have isS : Shared.TypeIs { s with heap := s.heap.push (newSet led) } (.ref s.heap.objs.size) "set" := ⟨_, here, rfl⟩
      have look := T.init.lookup
      have bind := T.init.bind (.ref s.heap.objs.size)
      repeat (any_goals (first | assumption | wp_step))
      refine codeAny_mono (codeAny_call_builtin (R := wants (fun r z => r = .none ∧ Q (.ref s.heap.objs.size) z) E) T.init.plain PySem.F.entry_set_init (check_set_init_1 isS
        (set_init_tup (by simp [calm]) here (tup.push _) (Nat.ne_of_gt lL) txt few fun h' tk set keep => ⟨rfl, fin h' tk set fun b o e => keep b o (Nat.ne_of_lt (Heap.lt_size e)) (Heap.get?_push_of_some _ e)⟩))) fun r2 z2 hr2 => ?_
      cases r2 with
      | error e => exact hr2
      | ok fl2 =>
        cases fl2 with
        | next => exact hr2.elim
        | brk => exact hr2.elim
        | cont => exact hr2.elim
        | ret u =>
          obtain ⟨eu, q⟩ := hr2
          subst eu
          repeat (any_goals (first | assumption | wp_step))
end
section
variable {g : Gc} {X : Cx} {a : Expr} {fa : M T} {e1 b1 : List Nat} {p p2 q pos : Pos}
def tLenS (K : PySem.W.Frag) (ta : TE) : TE := fun σ H Q => ta σ H fun x H1 => ∃ l, ∃ xs : List Str, x = .ref l ∧ SqT K H1 l (xs.map V.str) ∧ xs.length ≤ 4000 ∧ Q (.int (cN xs xs.length)) H1
theorem pe_lenS (hc : X.calm = true) (hg : Gl X "len") (hm : X.mg "len" = none) (hg2 : Gl X "set") (hm2 : X.mg "set" = none) {ta : TE} (ha : PE X a ta)
    (na : starEach [a] X.env = (false, eval a X.env) :: starEach [] X.env := by rfl) : PE X (.Call (.Name "len" p) [.Call (.Name "set" p2) [a] [] q] [] pos) (tLenS X.K ta) := ⟨fun pins s σ H Q I h => by
  refine Call_ (ld_blt I hg hm boot_len ?_)
  refine PyProof.Rows.callWith_builtin1 (PyProof.Rows.args_cons ?_ rfl) rfl rfl
  refine Call_ (ld_blt I hg2 hm2 boot_set ?_)
  refine PyProof.Rows.callWith_type1 (PyProof.Rows.args_cons (thn (ha.run pins s σ H _ I h) fun v z1 ⟨x, G1, J1, r1, q1⟩ => PyProof.Rows.args_nil ?_) na) na rfl
  obtain ⟨l, xs, rfl, hq, h1, q1⟩ := q1
  cases r1
  obtain ⟨its, r, pl, hz⟩ := J1.tuple hq
  refine set_of_tupS (J1.ok.hd hc) pl (by simpa using strsAre_of r) (by unfold scanBound; omega) fun h' tk hS hk => ?_
  refine PyProof.Rows.args_nil ?_
  have all := addK_cN xs xs.length (Nat.le_refl _)
  rw [List.take_length] at all
  rw [all] at hS
  obtain ⟨o, es, ep, tb, at_, exact_, data, _, _, _, full, count⟩ := hS
  have J2 : Inv X pins σ G1 { z1 with heap := h', toks := tk } := J1.kept fun b o e => hk b o e
  have few := cN_le xs xs.length
  exact call_len_set at_ exact_ data full (by rw [count]; show ((cN xs xs.length : Nat) : Int) < 2 ^ 63; omega) ⟨.int (cN xs xs.length), G1, J2.tok _, ⟨_, by rw [count]⟩, q1⟩⟩
def fLenS (t : T) : Option T := match t with
  | .nd .tup ts => (strsOf ts).bind fun xs => if xs.length ≤ 4000 then some (.int (cN xs xs.length)) else none
  | _ => none
theorem tm_lenS (hK : g.K = X.K) (hc : X.calm = true) (hg : Gl X "len") (hm : X.mg "len" = none) (hg2 : Gl X "set") (hm2 : X.mg "set" = none) (ha : PEm g X a fa e1 b1)
    (na : starEach [a] X.env = (false, eval a X.env) :: starEach [] X.env := by rfl) : PEm g X (.Call (.Name "len" p) [.Call (.Name "set" p2) [a] [] q] [] pos) (m1 fLenS fa) e1 [] :=
  PE.imp (pe_lenS hc hg hm hg2 hm2 ha na) fun σ H Q h => by
    obtain ⟨S, Ts, A, t, Ts', R, q, k⟩ := h
    obtain ⟨ta, Ts1, ea, q1⟩ := bnd_some q
    obtain ⟨ef, eT⟩ := lft_some q1
    subst eT
    refine ⟨S, Ts, A, ta, _, R, ea, fun x H' S' A' Ax R' rx o1 p s => ?_⟩
    unfold fLenS at ef
    split at ef
    · obtain ⟨xs, h1, h2⟩ := Option.bind_eq_some_iff.mp ef
      split at h2
      · rename_i hz
        injection h2 with h2
        subst h2
        obtain ⟨l, ys, B, ex, at_, eA, c, rl⟩ := rx
        have := strsOf_ok _ _ _ _ h1 rl
        subst this
        exact ⟨l, xs, ex, hK ▸ At.sqT at_, hz, k _ H' S' A' [] R' ⟨rfl, rfl⟩ Ow.nil p s⟩
      · cases h2
    · cases ef
end
end MI
namespace MI
open PySem PySem.Spec PyProof.Rows L2
def KwB (K : PySem.W.Frag) (fd : FuncData) (ps : List Str) (n : Nat) : Prop := ∀ (s : Shared) (us ws : List Value), K.In s.heap → us.length = n → (us ++ ws).length = ps.length → BindsTo s fd ⟨us, (ps.drop n).zip ws⟩ (ps.zip (us ++ ws))
theorem FunD.kwb {K : PySem.W.Frag} {x qual : Str} {params : Arguments} {body : List Stmt} {scope : Scope} {kws : List (Str × V)} {f : Addr} {fd : FuncData} {ps : List Str} {n : Nat} (F : FunD K x qual params body scope [] kws f fd)
    (h : ∀ (kV doc pm : Value) (an : Option Addr) (cdv ct : Value) (us ws : List Value), us.length = n → (us ++ ws).length = ps.length → bindArgs (PySem.W.fnOf x qual params body scope .none kV doc pm an cdv ct) ⟨us, (ps.drop n).zip ws⟩ = pure (ps.zip (us ++ ws))) : KwB K fd ps n := by
  obtain ⟨oc, od, dV, kV, doc, pm, an, cdv, ct, osl, rfl, lk, hcd, hD, hK⟩ := F.ex
  rcases hD with ⟨_, rfl⟩ | ⟨e, _⟩
  · exact fun s us ws _ h1 h2 => .of_eq (h kV doc pm an cdv ct us ws h1 h2)
  · exact absurd rfl e
section
variable {X : Cx} {CX : CXT} {k : Nat} {f C : Addr} {fd : FuncData} {ps ks : List Str} {sp : Sp} {E : XK} {x m : Str} {p pos apos : Pos} {o : Expr} {kws : List Keyword} {ta : TE} {tk : TA}
end
section
variable {g : Gc} {X : Cx} {k : Nat} {f : Str} {fd : FuncData} {fad : Addr} {ps : List Str} {x m cls : Str} {p pos apos kpos : Pos} {e o : Expr} {kws : List Keyword} {fs : M (List T)} {fa : M T} {e1 e2 b1 b2 : List Nat} {io : List Nat} {c : Cal} {ln : List (Option Nat)} {nm : Option Str}
def PKc (g : Gc) (X : Cx) (ks : List Keyword) (f : M (List T)) (eff bo : List Nat) (ln : List (Option Nat)) : Prop := PK X ks (TMc g f eff bo ln)
theorem PK.imp {X : Cx} {ks : List Keyword} {t t' : TA} (h : PK X ks t) (i : ∀ σ H Q, t' σ H Q → t σ H Q) : PK X ks t' := ⟨fun pos pins s σ H Q I q => h.run pos pins s σ H Q I (i σ H Q q)⟩
theorem tkc_nil : PKc g X [] mNil [] [] [] := PK.imp pk_nil fun σ H Q h => TMc.nil h
theorem tkc_arg (ha : PEm g X e fa e1 b1) (hs : PKc g X kws fs e2 b2 ln) (d : ∀ j ∈ b1, j ∉ e2 := by decide) : PKc g X (⟨nm, e, kpos⟩ :: kws) (mCons fa fs) (e1 ++ e2) (b1 ++ b2) (none :: ln) :=
  PK.imp (pk_cons ha hs) fun σ H Q ⟨S, Ts, A, ts, Ts', R, q, k⟩ => by
    obtain ⟨ta, Ts1, ea, q1⟩ := bnd_some q
    obtain ⟨tb, Ts2, eb, q2⟩ := bnd_some q1
    obtain ⟨h1, h2⟩ := ret_some q2
    subst h1; subst h2
    refine ⟨S, Ts, A, ta, Ts1, R, ea, fun x H1 S1 A1 Ax R1 r1 o1 p1 s1 => ⟨S1, Ts1, A1, tb, Ts2, R1, eb, fun ys H2 S2 A2 Al Ab R2 r2 ol ob dj p2 s2 => ?_⟩⟩
    have hc := Rp.cells _ _ _ r1
    have o1' := o1.held R1 R2 hc p2 s2 d
    refine k (x :: ys) H2 S2 A2 Al (Ax ++ Ab) R2 ⟨ta, tb, x, ys, Ax, Ab, rfl, rfl, rfl, r1.held R1 o1 p2 s2 d, r2⟩ (ol.rebase p1) (Ow.app p1 hc o1 o1' ob) (fun a hl hx => ?_) (p1.trans R p2) (s1.trans s2)
    rcases List.mem_append.mp hx with hx | hx
    · rcases ol.new a hl with ⟨j, hj⟩ | hn
      · have hb : j ∈ b1 := Classical.byContradiction fun z => o1.dj j z a hx hj
        have e := (s2 j (d j hb)).2.1
        exact ol.dj j (fun z => nomatch z) a hl (by rw [e]; exact hj)
      · exact mut_ne (hc a hx) hn
    · exact dj a hl hx
end
end MI
namespace MI
open PySem PySem.Spec PyProof.Rows L2
section
end
section
variable {g : Gc} {X : Cx}
theorem reps_str {S : Addr → Prop} {H : Hp} : ∀ ns : List Str, RpL g S H (ns.map T.str) (ns.map V.str) []
  | [] => ⟨rfl, rfl⟩
  | n :: ns => ⟨_, _, [], [], rfl, rfl, ⟨rfl, rfl⟩, reps_str ns⟩
end
end MI
namespace MI
open PySem PySem.Spec PyProof.Rows L2
section
variable {g : Gc} {X : Cx} {a b e o : Expr} {fa fb fc : M T} {e1 e2 e3 b1 b2 b3 : List Nat} {pos p2 p3 : Pos} {k : Nat} {x : Str}
structure IsiC (K : PySem.W.Frag) (cl : Str → Addr) (c : Str) (own : List Str) : Prop where
  ty : ∀ n ∈ (["NoneType", "bool", "int", "str", "tuple", "list", "dict"] : List String), PySem.W.kitOne K (.type n) (.ref (cl c)) = some false
  ow : ∀ d ∈ own, PySem.W.kitOne K (.ref (cl d)) (.ref (cl c)) = some (decide (d = c))
  cls : ∀ d ∈ own, Cls K (cl d) ∧ PySem.W.findIn K (.ref (cl d)) "__class__" = some (some (.builtin "object.__class__")) ∧ PySem.W.mroIn K (cl d) (.type "object") = some true
  hn : PySem.W.specialIn K (.builtin "object.__class__") "__get__" = some (some (.builtin "getset_descriptor.__get__"))
  htk : PySem.W.takesIn K (.builtin "object.__class__") = some true
def isC (c : Str) (own : List Str) (t : T) : Option T := match t with
  | .nd (.ins _ d _) _ => if own.any (fun z => decide (z = d)) then some (.bl (decide (d = c))) else none
  | t => match tyN t with
    | some _ => some (.bl false)
    | none => none
theorem tyN_mem {t : T} {n : String} (h : tyN t = some n) : n ∈ (["NoneType", "bool", "int", "str", "tuple", "list", "dict"] : List String) := by
  unfold tyN at h
  split at h <;> first | (cases h; done) | (injection h with h; subst h; simp)
theorem x_isC {c : Str} {own : List Str} (hm : X.mg "isinstance" = none) (hmc : X.mg c = some (.ref (g.cl c))) (F : IsiC X.K g.cl c own) (ha : PEm g X a fa e1 b1) (hK : g.K = X.K := by rfl) (hg : Gl X "isinstance" := by rfl) (hgc : Gl X c := by rfl) (hdb : (c == ("__debug__" : Str)) = false := by decide)
    (he : starEach [a, .Name c p3] X.env = (false, eval a X.env) :: starEach [.Name c p3] X.env := by rfl) (he2 : starEach [.Name c p3] X.env = (false, eval (.Name c p3) X.env) :: starEach [] X.env := by rfl) (hpl : (backTo pos (starEach [.Name c p3] X.env)).any (·.1) = false := by rfl) : PEm g X (.Call (.Name "isinstance" p2) [a, .Name c p3] [] pos) (m1 (isC c own) fa) e1 [] := by
  have h1 : PE X (.Name c p3) (tC (.ref (g.cl c))) := pe_glob hgc hmc rfl hdb
  refine PE.imp (pe_callB call_isi hg hm PyProof.Rows.boot_isinstance (pa_cons ha (pa_cons h1 pa_nil he2) he) (by decide) (by decide) he hpl) fun σ H Q h => ?_
  obtain ⟨S, Ts, A, t, Ts', R, e, kk⟩ := h
  obtain ⟨ta, Ts1, ea, e⟩ := bnd_some e
  obtain ⟨ef, rfl⟩ := lft_some e
  refine ⟨S, Ts, A, ta, Ts', R, ea, fun x' H' S' A' Ax R' rx o1 p s => ?_⟩
  have fin : ∀ b, t = .bl b → ∀ u, TyX X.K H' x' u → PySem.W.kitOne X.K u (.ref (g.cl c)) = some b → rIsi X.K ([x', V.ref (g.cl c)]) H' Q := fun b hb u hu hk => by
    subst hb
    exact ⟨x', _, u, _, b, rfl, .own _, hu, hk, kk _ H' S' A' [] R' ⟨rfl, rfl⟩ Ow.nil p s⟩
  have base : ∀ n, tyN ta = some n → t = .bl false → rIsi X.K ([x', V.ref (g.cl c)]) H' Q := fun n hn ht => fin false ht _ (hK ▸ tyN_ok rx hn) (F.ty n (tyN_mem hn))
  unfold isC at ef
  split at ef
  · rename_i o d fs ts
    split at ef
    · rename_i hd
      injection ef with ef
      obtain ⟨z, hz, ez⟩ := List.any_eq_true.mp hd
      have ez : z = d := of_decide_eq_true ez
      subst ez
      obtain ⟨a', xs, B, ex, at_, eA, cc, r⟩ := rx
      obtain ⟨⟨dx, hH⟩, _⟩ := at_
      obtain ⟨f1, f2, f3⟩ := F.cls z hz
      rw [ex]
      subst ex
      exact fin _ ef.symm _ (.base (.ins hH f1 f2 F.hn F.htk f3)) (F.ow z hz)
    · cases ef
  · split at ef
    · rename_i n hn
      injection ef with ef
      exact base n hn ef.symm
    · cases ef
def keyOf (t : T) : Option Key := match t with
  | .int i => some (.inl i)
  | .str s => some (.inr s)
  | _ => none
def kT' : Key → T
  | .inl i => .int i
  | .inr s => .str s
theorem keyOf_rep {S : Addr → Prop} {H : Hp} {t : T} {q : Key} {y : V} {A : List Addr} (h : keyOf t = some q) (r : Rp g S H t y A) : y = kV q ∧ A = [] := by
  unfold keyOf at h
  split at h
  · injection h with h; subst h; exact r
  · injection h with h; subst h; exact r
  · cases h
def kIx (ks : List Key) (q : Key) : Option Nat := ks.findIdx? fun z => decide (z = q)
theorem valV_ix {q : Key} : ∀ {ks : List Key} {xs : List V}, ks.length = xs.length → valV (ks.zip xs) q = (kIx ks q).bind fun j => xs[j]?
  | [], [], _ => rfl
  | [], _ :: _, h => by simp at h
  | _ :: _, [], h => by simp at h
  | z :: ks, x :: xs, h => by
    have ih := valV_ix (q := q) (ks := ks) (xs := xs) (by simpa using h)
    unfold kIx at ih ⊢
    by_cases e : z = q
    · rw [List.zip_cons_cons, valV_pos e]
      simp [List.findIdx?_cons, e]
    · have e1 : valV ((z, x) :: ks.zip xs) q = valV (ks.zip xs) q := by simp [valV, List.find?_cons, e]
      rw [List.zip_cons_cons, e1, ih]
      simp only [List.findIdx?_cons, e, decide_false, Bool.false_eq_true, if_false, Option.bind_map]
      cases ks.findIdx? (fun z => decide (z = q)) <;> simp
def fIxK (a b : T) : Option T := match a with
  | .nd (.dK _ ks) ts => (keyOf b).bind fun q => (kIx ks q).bind fun j => ts[j]?
  | _ => none
theorem ix_dct (hu : X.A.units + 1 < cLine) : IxR X (fun x y H Q => ∃ a v, x = .ref a ∧ DGet H a y (some v) ∧ Q v H) := by
  intro value slice pins s σ H x y v u Q I rx ry h hs
  obtain ⟨a, w, ex, g, q⟩ := h
  subst ex
  obtain rfl : v = Value.ref a := rx
  have hT := dict_typeIs I g
  unfold subscriptTail
  refine wpAny_bind ?_
  rw [getitemInPython_of_ne hT.not_modules]
  refine wpAny_bind (wpAny_specialOf hT PySem.F.slot_dict_getitem.lookup ?_)
  have fin : wpAny (model X.prog X.w) X.A (subscripted slice false (.ref a) u) (fun r s₃ => wpAny (model X.prog X.w) X.A (letTemporaryGo value (.ref a) r >>= fun _ => pure r) (EP X pins σ Q) X.xe s₃) X.xe s := by
    rw [hs]
    exact wpAny_operating (wpAny_mono (d_getItem (Q := EP X pins σ Q) hu I g ry fun w' s' I' rw' => ⟨w, H, I', rw', q⟩) (fun r s₃ h₃ => wpAny_bind (wpAny_letTemporaryGo (wpAny_pure h₃))) fun _ _ x => x)
  first
    | exact wpAny_pure (wpAny_bind fin)
    | exact wpAny_bind (wpAny_pure (wpAny_bind fin))
    | exact wpAny_bind fin
theorem RpL.part {S : Addr → Prop} {H : Hp} : ∀ (ts : List T) (xs : List V) (A : List Addr), RpL g S H ts xs A → ∀ (j : Nat) (t : T), ts[j]? = some t → ∃ x B, xs[j]? = some x ∧ Rp g S H t x B ∧ B.Sublist A
  | [], _, _, h, j, t, e => by simp at e
  | t0 :: ts, xs, A, h, j, t, e => by
    obtain ⟨y, ys, A1, A2, e1, e2, r1, r2⟩ := h
    subst e1; subst e2
    cases j with
    | zero => simp at e; subst e; exact ⟨y, A1, rfl, r1, List.sublist_append_left _ _⟩
    | succ j =>
      obtain ⟨x, B, h1, h2, h3⟩ := RpL.part ts ys A2 r2 j t (by simpa using e)
      exact ⟨x, B, by simpa using h1, h2, h3.trans (List.sublist_append_right _ _)⟩
theorem opp_ixK : OpP g (fun x y H Q => ∃ a v, x = .ref a ∧ DGet H a y (some v) ∧ Q v H) fIxK := fun S H a b x y Ax Ay t Q ra rb e q => by
  unfold fIxK at e
  split at e
  · rename_i o ks ts
    obtain ⟨qk, e1, e2⟩ := Option.bind_eq_some_iff.mp e
    obtain ⟨j, e3, e4⟩ := Option.bind_eq_some_iff.mp e2
    obtain ⟨p, xs, B, ex, at_, eA, c, r⟩ := ra
    obtain ⟨z, C, h1, h2, h3⟩ := RpL.part _ _ _ r j t e4
    obtain ⟨ey, _⟩ := keyOf_rep e1 rb
    subst ey
    have hg : DGet H p (kV qk) (some z) := by
      have := DGet.k (k := qk) at_.1
      rw [valV_ix at_.2.1, e3] at this
      simpa [h1] using this
    exact ⟨p, z, ex, hg, q z C h2 (h3.trans (by rw [eA]; split <;> first | exact List.sublist_cons_self _ _ | exact List.Sublist.refl _))⟩
  · cases e
def fInK (neg : Bool) (a b : T) : Option T := match b with
  | .nd (.dK _ ks) _ => (keyOf a).map fun q => .bl (if neg then !(kIx ks q).isSome else (kIx ks q).isSome)
  | _ => none
def rInK (neg : Bool) : R2 := fun y x H Q => ∃ a o, x = .ref a ∧ DGet H a y o ∧ Q (.bl (if neg then !o.isSome else o.isSome)) H
theorem op_inK (hu : X.A.units + 1 < cLine) : OpR X (compareOp .In) (rInK false) := by
  intro pins s σ H x y v u Q I rx ry h
  obtain ⟨a, o, ex, g, q⟩ := h
  subst ex
  obtain rfl : u = Value.ref a := ry
  exact d_in hu I g rx fun s3 I3 => ⟨.bl o.isSome, H, I3, rfl, q⟩
theorem op_notInK (hu : X.A.units + 1 < cLine) : OpR X (compareOp .NotIn) (rInK true) := by
  intro pins s σ H x y v u Q I rx ry h
  obtain ⟨a, o, ex, g, q⟩ := h
  subst ex
  obtain rfl : u = Value.ref a := ry
  exact d_notIn hu I g rx fun s3 I3 => ⟨.bl (!o.isSome), H, I3, rfl, q⟩
theorem opt_inK {neg : Bool} : OpT g (rInK neg) (fInK neg) := fun S H a b x y Ax Ay t Q ra rb e q => by
  unfold fInK at e
  split at e
  · rename_i o ks ts
    obtain ⟨qk, e1, e2⟩ := Option.map_eq_some_iff.mp e
    subst e2
    obtain ⟨p, xs, B, ex, at_, eA, c, r⟩ := rb
    obtain ⟨ey, _⟩ := keyOf_rep e1 ra
    subst ey
    have hl := RpL.length _ _ _ r
    have hg := DGet.k (k := qk) at_.1
    rw [valV_ix at_.2.1] at hg
    have hs : ((kIx ks qk).bind fun j => xs[j]?).isSome = (kIx ks qk).isSome := by
      cases hk : kIx ks qk with
      | none => rfl
      | some j =>
        have hj : j < ks.length := by
          unfold kIx at hk
          exact (List.findIdx?_eq_some_iff_getElem.mp hk).1
        have : j < xs.length := by rw [← at_.2.1]; exact hj
        simp [this]
    refine ⟨p, _, ex, hg, ?_⟩
    rw [hs]
    exact q _ H [] (New.atom ⟨rfl, rfl⟩)
  · cases e
def fGet2 (a b c : T) : Option T := match a with
  | .nd (.dK _ ks) ts => (keyOf b).bind fun q => match kIx ks q with
    | some j => (ts[j]?).bind fun t => if t.imm then some t else none
    | none => if c.imm then some c else none
  | _ => none
def m3 (f : T → T → T → Option T) (fa fb fc : M T) : M T := bnd fa fun a => bnd fb fun b => bnd fc fun c => lft (f a b c)
def isDct : T → Bool
  | .nd (.dK _ _) _ => true
  | _ => false
def mGet2 (fa fb fc : M T) : M T := bnd fa fun a => if isDct a then bnd fb fun b => bnd fc fun c => lft (fGet2 a b c) else fun _ => none
end
end MI
namespace MI
open PySem PySem.Spec PyProof.Rows L2
section
variable {g : Gc} {X : Cx} {o b : Expr} {fa fk : M T} {mp : M (List Nat)} {e1 e2 e3 b1 b3 : List Nat} {pos p2 : Pos} {i k : Nat}
def fStD (n : T) (args : List T) : Option (T × T) := match n, args with
  | .nd (.dK true ks) ts, [kt, v] => (keyOf kt).bind fun q => match kIx ks q with
    | some j => if ts.length < sizeLine && (ks.drop (j + 1)).all (fun z => !decide (z = q)) then some (.non, .nd (.dK true ks) (ts.set j v)) else none
    | none => if ts.length < sizeLine then some (.non, .nd (.dK true (ks ++ [q])) (ts ++ [v])) else none
  | _, _ => none
def wrD (i : Nat) (p : List Nat) (k v : T) : M Fl := fun Ts => match subT p (slot Ts i) with
  | some n => if n.ownNd then (match fStD n [k, v] with
    | some (_, n') => some (.nx, Ts.set i (setT p (slot Ts i) n'))
    | none => none) else none
  | none => none
def mSetD (i : Nat) (mp : M (List Nat)) (fk fa : M T) : M Fl := bnd fa fun v => bnd mp fun p => bnd fk fun k => wrD i p k v
end
end MI
namespace MI
open PySem PySem.Spec PyProof.Rows L2
section
variable {g : Gc} {X : Cx} {tg iter : Expr} {mi : M (List T)} {m : T → M Unit} {tt : M Bool} {tk tv : M T} {a1 e1 e2 e3 e4 b1 : List Nat} {vs : List Nat} {pos : Pos}
end
end MI
namespace MI
open PySem PySem.Spec PyProof.Rows L2
section
variable {g : Gc} {S S' : Addr → Prop} {H H' : Hp} {M : Addr → Prop}
end
section
variable {g : Gc} {S : Addr → Prop} {H : Hp} {σ : L2.St} {Ts : List T} {A : Nat → List Addr} {i : Nat} {d : Addr} {od : Obj} {u : HO}
def A0 (A : Nat → List Addr) (i : Nat) : Nat → List Addr := fun j => if j = i then [] else A j
theorem A0_ne {j : Nat} (h : j ≠ i) : A0 A i j = A j := if_neg h
theorem A0_eq : A0 A i i = [] := if_pos rfl
theorem A0_mem {j : Nat} {a : Addr} (h : a ∈ A0 A i j) : j ≠ i ∧ a ∈ A j := by
  by_cases e : j = i
  · subst e; rw [A0_eq] at h; exact nomatch h
  · rw [A0_ne e] at h; exact ⟨e, h⟩
theorem SR.lock (R : SR g S H σ Ts A) (hd : d ∈ A i) (hH : H d = some u) (mu : Mut (some u)) (hx : ∀ P, u ≠ .ext P := by intro _ z; cases z) : SR g S (upd H d (.frz od u)) σ (Ts.set i .dead) (A0 A i) where
  rep := fun j => by
    by_cases hj : j = i
    · subst hj
      refine .inl ⟨?_, A0_eq⟩
      by_cases hl : j < Ts.length
      · exact slot_set_eq hl
      · unfold slot
        rw [List.getD_eq_getElem?_getD, List.getElem?_eq_none_iff.mpr (by rw [List.length_set]; omega)]; rfl
    · rw [slot_set_ne hj, A0_ne hj]
      rcases R.rep j with h | ⟨x, h1, h2⟩
      · exact .inl h
      · exact .inr ⟨x, h1, Rp.keep (M := fun a => a = d) (fun a o e n => by rw [upd_ne n]; exact e) (fun a e => by rw [e, hH]; exact mu) (fun a hs e => R.ns i d hd (e ▸ hs)) (fun _ h => h) _ _ _ h2 fun a ha e => R.dj j i hj a ha (e ▸ hd)⟩
  nd := fun j => by
    by_cases hj : j = i
    · subst hj; rw [A0_eq]; exact List.nodup_nil
    · rw [A0_ne hj]; exact R.nd j
  dj := fun j k hjk a ha hb => R.dj j k hjk a (A0_mem ha).2 (A0_mem hb).2
  ns := fun j a ha => R.ns j a (A0_mem ha).2
  len := by rw [List.length_set]; exact R.len
  st := ⟨fun a h => by
    have ne : a ≠ d := fun e => R.ns i d hd (e ▸ h)
    rw [upd_ne ne]; exact R.st.st a h, tabs_upd R.tb hH (mut_tbl mu) hx (fun _ z => nomatch z)⟩
end
end MI
namespace MI
open PySem PySem.Spec PyProof.Rows L2
inductive Wd where
  | keys | vals | items
def Jt (w : Wd) (d : Addr) (od : Obj) (kvs : List (Key × V)) : It := match w with
  | .keys => Itk d od kvs
  | .vals => Itd d od kvs
  | .items => Iti d od kvs
section
variable {g : Gc}
end
section
variable {g : Gc} {X : Cx} {tg iter : Expr} {m : T → M Unit} {tt : M Bool} {tk tv : M T} {a1 e2 e3 e4 : List Nat} {vs : List Nat} {pos : Pos} {i : Nat} {fld : Option (Str × Str)} {w : Wd}
end
end MI
namespace MI
open PySem PySem.Spec PyProof.Rows L2
section
variable {g : Gc} {X : Cx} {tg iter e o a : Expr} {m : T → M Unit} {tt : M Bool} {tk tv fa fb : M T} {a1 e1 e2 e3 e4 b1 b2 : List Nat} {vs : List Nat} {pos p2 p3 apos cpos : Pos} {i k : Nat} {fld : Option (Str × Str)} {w : Wd} {x : Str}
def mDisp1 (fk fv : M T) : M T := bnd fk fun k => bnd fv fun v => lft ((keyOf k).bind fun q => if v.imm then some (.nd (.dK true [q]) [v]) else none)
def fListK (t : T) : Option T := match t with
  | .nd (.dK _ ks) _ => some (.nd (.lst true) (ks.map kT'))
  | _ => none
def fDictK (t : T) : Option T := match t with
  | .nd (.dK _ ks) ts => if immL ts then some (.nd (.dK true ks) ts) else none
  | _ => none
def mFzS {α : Type} (i : Nat) (f : M α) : M α := fun Ts => match slot Ts i with
  | .dead => none
  | t => f (Ts.set i t.fz)
end
end MI
namespace MI
open PySem PySem.Spec PyProof.Rows L2
section
variable {g : Gc} {X : Cx}
def fInE (neg : Bool) (a b : T) : Option T := match b with
  | .nd .tup ts => if okD 50 a && okDL 50 ts then some (.bl (if neg then !(ts.any fun t => eqT t a) else ts.any fun t => eqT t a)) else none
  | _ => none
def rInE (K : PySem.W.Frag) (neg : Bool) : R2 := fun x y H Q => ∃ d ds, Dp K H x d ∧ Dp K H y (.tuple ds) ∧ SeqAt.shaped d = true ∧ SeqAt.shaped (.tuple ds) = true ∧ Q (.bl (if neg then !(ds.any fun z => PyData.eqv z d) else ds.any fun z => PyData.eqv z d)) H
theorem op_inE (hu : X.A.units + 65 < cLine) : OpR X (compareOp .In) (rInE X.K false) := by
  intro pins s σ H x y v u Q I rx ry h
  obtain ⟨d, ds, hd, he, sd, se, q⟩ := h
  obtain ⟨as, r1⟩ := Dp.reads I d x v hd rx
  obtain ⟨bs, r2⟩ := Dp.reads I (.tuple ds) y u he ry
  exact SeqAt.in_tuple_reads r2 r1 (SeqAt.canLay_of_shaped se) (SeqAt.canLay_of_shaped sd) (room_in_shaped sd hu) ⟨.bl _, H, I, rfl, q⟩
theorem op_notInE (hu : X.A.units + 65 < cLine) : OpR X (compareOp .NotIn) (rInE X.K true) := by
  intro pins s σ H x y v u Q I rx ry h
  obtain ⟨d, ds, hd, he, sd, se, q⟩ := h
  obtain ⟨as, r1⟩ := Dp.reads I d x v hd rx
  obtain ⟨bs, r2⟩ := Dp.reads I (.tuple ds) y u he ry
  exact SeqAt.notIn_tuple_reads r2 r1 (SeqAt.canLay_of_shaped se) (SeqAt.canLay_of_shaped sd) (room_in_shaped sd hu) ⟨.bl _, H, I, rfl, q⟩
theorem opt_inE {neg : Bool} : OpT g (rInE g.K neg) (fInE neg) := fun S H a b x y Ax Ay t Q ra rb e q => by
  unfold fInE at e
  split at e
  · rename_i ts
    split at e
    · rename_i h
      obtain ⟨h1, h2⟩ := Bool.and_eq_true_iff.mp h
      injection e with e; subst e
      obtain ⟨p, xs, B, e1, at_, eA, c, r⟩ := rb
      obtain ⟨a1, a2, a3⟩ := okD_ok a 50 x Ax h1 ra
      obtain ⟨b1, b2, b3⟩ := okDL_ok ts 50 xs B h2 r
      refine ⟨toD a, toDL ts, a1, e1 ▸ Dp.tup (At.sqT at_) b1, by unfold SeqAt.shaped; rw [a2, decide_eq_true (by omega)]; rfl, by unfold SeqAt.shaped PyData.canLay0 PyData.depth; rw [b2, decide_eq_true (by omega)]; rfl, ?_⟩
      rw [toDL_eq, List.any_map]
      exact q _ H [] (New.atom ⟨rfl, rfl⟩)
    · cases e
  · cases e
end
end MI
namespace MI
open PySem PySem.Spec PyProof.Rows L2
def fewTimes (l : Addr) (k : Int) (s : Shared) (R : Value → Shared → Prop) : Prop := if k = 1 then R (.ref l) s else R (.ref s.heap.objs.size) { s with heap := s.heap.push { cls := .type "tuple", data := .seq #[] } }
theorem few_times {l : Addr} {its : Array Value} {n : Nat} {dd : Option Addr} {sl : Array (Option Value)} {k : Int} {u : Tok} (some_ : its.isEmpty = false) (low : -1000 ≤ k) (high : k ≤ 1) :
    Meets (Builtin.«tuple.__mul__» ⟨[.ref l, .int k u], []⟩) (fun _ R s => s.heap.get? l = some { cls := .type "tuple", dict := dd, data := .seq its n, slots := sl } ∧ fewTimes l k s fun v z => R (.ok (.ret v)) z) :=
  .of_wp fun prog w A R s ⟨at_, r⟩ => by
    obtain ⟨hp, gs, dr, tk, os⟩ := s
    have index := AutoSeq1.idx_int
    have fits : (decide (k < -(2 ^ 63)) || decide (k ≥ 2 ^ 63)) = false := by simp; omega
    by_cases one : k = 1
    · subst one
      have same : (its.isEmpty || (1 : Int) == 1) = true := by simp
      rw [fewTimes, if_pos rfl] at r
      wp_walk using wpAny_loadPart' at_
      exact ⟨_, rfl, r⟩
    · have other : (its.isEmpty || k == 1) = false := by simp [some_, one]
      have never : (decide (k ≤ 0) || its.isEmpty) = true := by simp; omega
      rw [fewTimes, if_neg one] at r
      wp_walk using wpAny_loadPart' at_
      simp only [fits, other, never, Bool.false_eq_true, if_false, if_true]
      wp_walk using wpAny_loadPart' at_
      simp only [fits, other, never, Bool.false_eq_true, if_false, if_true]
      wp_walk using wpAny_loadPart' at_
      exact ⟨_, rfl, r⟩
section
variable {g : Gc} {X : Cx}
def rRepU (K : PySem.W.Frag) : R2 := fun x y H Q => ∃ l k xs, x = .ref l ∧ y = .int k ∧ SqT K H l xs ∧ xs ≠ [] ∧ xs.length ≤ 1000 ∧ ((k = 1 ∧ Q (.ref l) H) ∨ (k ≤ 0 ∧ -1000 ≤ k ∧ ∀ p, H p = none → Q (.ref p) (upd H p (.tup []))))
theorem op_repU : OpR X (binaryOp .Mult) (rRepU X.K) := fun pins s σ H x y v u Q I rx ry h => by
  obtain ⟨l, k, xs, rfl, rfl, sq, some_, _, q⟩ := h
  have ev : v = Value.ref l := rx
  subst ev
  obtain ⟨t, rfl⟩ := ry
  obtain ⟨its, rel, tup, _⟩ := I.tuple sq
  obtain ⟨o, at_, cls, n, data⟩ := tup
  obtain ⟨c, dd, dt, sl⟩ := o
  have cls : c = .type "tuple" := cls
  have data : dt = .seq its.toArray n := data
  subst cls; subst data
  have isT : s.TypeIs (.ref l) "tuple" := ⟨_, at_, rfl⟩
  have isI : ∀ z : Shared, z.TypeIs (.int k t) "int" := fun z => typeIs_int z k t
  have full : its.toArray.isEmpty = false := by
    cases its with
    | nil => exact absurd (List.eq_nil_of_length_eq_zero rel.length) some_
    | cons _ _ => rfl
  have bounds : -1000 ≤ k ∧ k ≤ 1 := by rcases q with ⟨e, _⟩ | ⟨a, b, _⟩ <;> omega
  have done : fewTimes l k s (EP X pins σ Q) := by
    unfold fewTimes
    rcases q with ⟨e, q⟩ | ⟨a, _, q⟩
    · rw [if_pos e]; exact ⟨.ref l, H, I, rfl, q⟩
    · rw [if_neg (by omega)]
      exact ⟨.ref _, _, I.laid (t' := s.toks) (o := .tup []) (fun _ _ g => Heap.get?_push_of_some _ g) Nat.le.refl ⟨by simp, [], .nil, IsTup.new _ _⟩, rfl, q _ (I.hok.fresh Nat.le.refl)⟩
  exact wpAny_binaryOp_repeat_ref (by decide) isT isI noFill_tuple_mul F.fills_int_mul F.slot_int_rmul repeat_tuple F.slot_int_index.lookup (call_meets F.slot_int_rmul (isI s) F.entry_int_rmul (F.args_int_rmul_2 _ _) (int_rmul_tuple k t l its.toArray n dd sl)
    ⟨at_, rfl, isT, call_meets F.slot_tuple_mul isT F.entry_tuple_mul (F.args_tuple_mul_2 _ _) (few_times full bounds.1 bounds.2) ⟨at_, done⟩⟩)
def fMulT (a b : T) : Option T := match a, b with
  | .nd .tup ts, .int k => if immL ts && (decide (-1000 ≤ k) && (decide (k ≤ 1000) && (decide (ts.length ≤ 1000) && !ts.isEmpty))) then some (.nd .tup (List.replicate k.toNat ts).flatten) else none
  | _, _ => none
theorem opt_mulT : OpT g (fun x y H Q => rRepT g.K x y H Q ∨ rRepU g.K x y H Q) fMulT := fun S H a b x y Ax Ay t Q ra rb e q => by
  unfold fMulT at e
  split at e
  · rename_i ts k
    split at e
    · rename_i h
      injection e with e; subst e
      simp only [Bool.and_eq_true, decide_eq_true_eq, Bool.not_eq_true', List.isEmpty_eq_false_iff] at h
      obtain ⟨hi, h1, h2, h3, h4⟩ := h
      obtain ⟨p, xs, B, e1, at_, eA, c, r⟩ := ra
      have eB := RpL.imm_nil _ _ _ r hi
      subst eB
      have hl := RpL.length _ _ _ r
      have hne : xs ≠ [] := fun z => h4 (by
        rw [z] at hl
        exact List.eq_nil_of_length_eq_zero hl)
      by_cases hk : 2 ≤ k
      · exact .inl ⟨p, k, xs, e1, rb.1, At.sqT at_, hne, hk, h2, by omega, fun l hl => q _ _ [] (New.tupl hl (r.rep _))⟩
      · refine .inr ⟨p, k, xs, e1, rb.1, At.sqT at_, hne, by omega, ?_⟩
        by_cases hk1 : k = 1
        · subst hk1
          refine .inl ⟨rfl, q _ H [] (New.atom ?_)⟩
          have ef : (List.replicate (1 : Int).toNat ts).flatten = ts := by simp
          rw [ef]
          exact ⟨p, xs, [], rfl, at_, rfl, .inr (.inl rfl), r⟩
        · have ek : k.toNat = 0 := by omega
          refine .inr ⟨by omega, h1, fun l hl => ?_⟩
          have ef : (List.replicate k.toNat ts).flatten = [] := by rw [ek]; rfl
          rw [ef] at q
          exact q _ _ [] (New.tupl hl ⟨rfl, rfl⟩)
    · cases e
  · cases e
end
end MI
namespace MI
open PySem PySem.Spec PyProof.Rows L2
section
variable {g : Gc} {X : Cx} {e e' e'' : Expr} {fs : M (List T)} {e1 b1 : List Nat} {pos p2 tpos : Pos} {elts : List Expr} {kk : Nat}
end
end MI
namespace MI
open PySem PySem.Spec PyProof.Rows L2
def pick {α : Type} (π : List Nat) (xs : List α) : List α := π.filterMap fun i => xs[i]?
theorem Vals.pick {xs : List V} {us : List Value} (r : Vals xs us) : ∀ π : List Nat, Vals (MI.pick π xs) (MI.pick π us)
  | [] => .nil
  | i :: π => by
    have ih := Vals.pick r π
    have hl := r.length
    unfold MI.pick at ih ⊢
    by_cases h : i < xs.length
    · obtain ⟨u, e, rx⟩ := Vals.get r (List.getElem?_eq_getElem h)
      rw [List.filterMap_cons, List.filterMap_cons, List.getElem?_eq_getElem h, e]
      exact .cons rx ih
    · rw [List.filterMap_cons, List.filterMap_cons, List.getElem?_eq_none (by omega), List.getElem?_eq_none (by omega)]
      exact ih
def KwQ (K : PySem.W.Frag) (fd : FuncData) (ps ks : List Str) (π : List Nat) (n : Nat) : Prop := ∀ (s : Shared) (us ws : List Value), K.In s.heap → us.length = n → ws.length = ks.length → BindsTo s fd ⟨us, ks.zip ws⟩ (ps.zip (us ++ pick π ws))
theorem FunD.kwq {K : PySem.W.Frag} {x qual : Str} {params : Arguments} {body : List Stmt} {scope : Scope} {kws : List (Str × V)} {f : Addr} {fd : FuncData} {ps ks : List Str} {π : List Nat} {n : Nat} (F : FunD K x qual params body scope [] kws f fd)
    (h : ∀ (kV doc pm : Value) (an : Option Addr) (cdv ct : Value) (us ws : List Value), us.length = n → ws.length = ks.length → bindArgs (PySem.W.fnOf x qual params body scope .none kV doc pm an cdv ct) ⟨us, ks.zip ws⟩ = pure (ps.zip (us ++ pick π ws))) : KwQ K fd ps ks π n := by
  obtain ⟨oc, od, dV, kV, doc, pm, an, cdv, ct, osl, rfl, lk, hcd, hD, hK⟩ := F.ex
  rcases hD with ⟨_, rfl⟩ | ⟨e, _⟩
  · exact fun s us ws _ h1 h2 => .of_eq (h kV doc pm an cdv ct us ws h1 h2)
  · exact absurd rfl e
def tPick (π : List Nat) (n : Nat) (tk : TA) : TA := fun σ H Q => tk σ H fun zs H1 => zs.length = n ∧ Q (pick π zs) H1
section
variable {X : Cx} {CX : CXT} {k : Nat} {f C : Addr} {fd : FuncData} {ps ks : List Str} {π : List Nat} {sp : Sp} {E : XK} {x m : Str} {p pos apos : Pos} {o : Expr} {kws : List Keyword} {ta : TE} {tk : TA}
theorem pe_makeGQ (M : Mk X.K C f) (F : FnG X.prog X.w X.K X.mg X.base CX k f fd ps sp) (hG : GA X.A) (hr : Room (k + 1) X.A) (hg : Gl X x) (hm : X.mg x = some (.ref C)) (hb : KwQ X.K fd ps ks π 1) (hx : Passes CX X E) (hkw : PK X kws tk)
    (hall : (backToKw pos (keywordEach kws X.env)).all (·.1.isSome) = true := by rfl) (hks : (backToKw pos (keywordEach kws X.env)).filterMap (·.1) = ks := by rfl) (hdb : (x == ("__debug__" : Str)) = false := by decide)
    (hpl : ((backTo pos (starEach [] X.env)).any (·.1) || (backToKw pos (keywordEach kws X.env)).any (·.1.isNone)) = false := by rfl) : PE X (.Call (.Name x p) [] kws pos) (tMake C sp [] E (tPick π ks.length tk)) := ⟨fun pins s σ H Q I h => by
  refine wpAny_Call_Name_kw (ld_glob I hg hm ?_ hdb)
  refine PySem.W.callWith_KW0 (h₀ := X.base) I.ok.mod.kin M.kp hall (thn (hkw.run pos pins s σ H _ I h) fun ws z2 ⟨zs, G2, J2, rz, hzl, q2⟩ => ⟨J2.kIn, ?_⟩) hpl
  rw [hks]
  have rz' : Vals (pick π zs ++ []) (pick π ws) := by rw [List.append_nil]; exact Vals.pick rz π
  exact run_makeG (us := []) M F hG hr (fun z a hz hl => hb z [.ref a] ws hz rfl (by rw [← rz.length]; exact hzl)) hx J2 rz' q2⟩
end
section
variable {g : Gc} {X : Cx} {k : Nat} {f : Str} {fd : FuncData} {fad : Addr} {ps ks : List Str} {π : List Nat} {x m cls : Str} {p pos apos kpos : Pos} {e o : Expr} {kws : List Keyword} {fs : M (List T)} {fa : M T} {e1 e2 b1 b2 : List Nat} {io : List Nat} {c : Cal} {ln : List (Option Nat)} {nm : Option Str}
def mPick (π : List Nat) (n : Nat) (fs : M (List T)) : M (List T) := bnd fs fun ts => lft (if immL ts && decide (ts.length = n) then some (pick π ts) else none)
theorem RpC.imm {S : Addr → Prop} {H : Hp} {σ : L2.St} : ∀ (ln : List (Option Nat)) (ts : List T) (xs : List V) (Al Ab : List Addr), allN ln = true → immL ts = true → RpC g S H σ ln ts xs Al Ab → Al = [] ∧ Ab = [] ∧ RpL g S H ts xs []
  | [], _, _, _, _, _, _, h => by obtain ⟨h1, h2, h3, h4⟩ := h; subst h1 h2 h3 h4; exact ⟨rfl, rfl, rfl, rfl⟩
  | Option.none :: ln, _, _, Al, _, hn, hi, h => by
    obtain ⟨t, ts', x, xs', B, Ab', e1, e2, e3, r, h⟩ := h
    subst e1 e2 e3
    rw [immL, Bool.and_eq_true] at hi
    obtain ⟨h1, h2, h3⟩ := RpC.imm ln ts' xs' Al Ab' hn hi.2 h
    have eB := Rp.imm_nil _ _ _ r hi.1
    subst h1 h2 eB
    exact ⟨rfl, rfl, x, xs', [], [], rfl, rfl, r, h3⟩
  | Option.some s :: ln, _, _, _, _, hn, _, _ => by cases hn
theorem RpC.ofL {S : Addr → Prop} {H : Hp} {σ : L2.St} : ∀ (l : List Unit) (ts : List T) (xs : List V), l.length = ts.length → RpL g S H ts xs [] → RpC g S H σ (l.map fun _ => Option.none) ts xs [] []
  | [], [], _, _, h => ⟨rfl, h.1, rfl, rfl⟩
  | u :: l, t :: ts, xs, hl, h => by
    obtain ⟨x, xs', B, C, e1, e2, r, h⟩ := h
    obtain ⟨hB, hC⟩ := List.append_eq_nil_iff.mp e2.symm
    subst hB hC
    exact ⟨t, ts, x, xs', [], [], rfl, e1, rfl, r, RpC.ofL l ts xs' (by simpa using hl) h⟩
theorem RpL.pick {S : Addr → Prop} {H : Hp} {ts : List T} {xs : List V} (r : RpL g S H ts xs []) : ∀ π : List Nat, RpL g S H (MI.pick π ts) (MI.pick π xs) []
  | [] => ⟨rfl, rfl⟩
  | i :: π => by
    have ih := RpL.pick r π
    have hl := RpL.length _ _ _ r
    unfold MI.pick at ih ⊢
    by_cases h : i < xs.length
    · obtain ⟨t, e, rx⟩ := RpL.atI r (List.getElem?_eq_getElem h)
      rw [List.filterMap_cons, List.filterMap_cons, List.getElem?_eq_getElem h, e]
      exact ⟨_, _, [], [], rfl, rfl, rx, ih⟩
    · rw [List.filterMap_cons, List.filterMap_cons, List.getElem?_eq_none (by omega), List.getElem?_eq_none (by omega)]
      exact ih
theorem pick_len {α : Type} {xs : List α} : ∀ π : List Nat, (∀ i ∈ π, i < xs.length) → (MI.pick π xs).length = π.length
  | [], _ => rfl
  | i :: π, h => by
    have ih := pick_len π fun j hj => h j (List.mem_cons_of_mem _ hj)
    unfold MI.pick at ih ⊢
    rw [List.filterMap_cons, List.getElem?_eq_getElem (h i List.mem_cons_self)]
    show _ + 1 = _
    rw [ih]; rfl
theorem pick_r {n : Nat} (hn : allN ln = true) (hπ : ∀ i ∈ π, i < n) (σ : L2.St) (H : Hp) (Q : List V → Hp → Prop) (h : TMc g (mPick π n fs) e1 [] (π.map fun _ => none) σ H Q) : tPick π n (TMc g fs e1 [] ln) σ H Q := by
  obtain ⟨S, Ts, A, ts, Ts', R, q, k⟩ := h
  obtain ⟨us, Ts1, q1, q2⟩ := bnd_some q
  obtain ⟨q3, q4⟩ := lft_some q2
  subst q4
  split at q3
  · rename_i hc
    injection q3 with q3
    subst q3
    rw [Bool.and_eq_true, decide_eq_true_eq] at hc
    refine ⟨S, Ts, A, us, Ts', R, q1, fun xs H1 S1 A1 Al Ab R1 rc ol ob dj p s => ?_⟩
    obtain ⟨h1, h2, h3⟩ := RpC.imm ln us xs Al Ab hn hc.1 rc
    subst h1 h2
    have hlen := RpL.length _ _ _ h3
    refine ⟨by omega, k (pick π xs) H1 S1 A1 [] [] R1 ?_ ol ob dj p s⟩
    have := RpC.ofL (g := g) (S := S1) (H := H1) (σ := σ) (π.map fun _ => ()) (pick π us) (pick π xs) (by rw [List.length_map, pick_len π (by rw [hc.2]; exact hπ)]) (RpL.pick h3 π)
    rw [List.map_map] at this
    exact this
  · cases q3
theorem tm_makeQ (hC : X.mg f = some (.ref (g.cl cls))) (M : Mk X.K (g.cl cls) fad) (F : FnG X.prog X.w X.K X.mg X.base CX0 k fad fd ps (spT g [0] c)) (hG : GA X.A) (hr : Room (k + 1) X.A) (hg : Gl X f) (hb : KwQ X.K fd ps ks π 1) (ha : PKc g X kws fs e1 [] ln) (hn : allN ln = true := by rfl)
    (hπ : ∀ i ∈ π, i < ks.length := by decide) (hn2 : allN (π.map fun _ => none) = true := by rfl) (hall : (backToKw pos (keywordEach kws X.env)).all (·.1.isSome) = true := by rfl) (hks : (backToKw pos (keywordEach kws X.env)).filterMap (·.1) = ks := by rfl) (hdb : (f == ("__debug__" : Str)) = false := by decide)
    (hpl : ((backTo pos (starEach [] X.env)).any (·.1) || (backToKw pos (keywordEach kws X.env)).any (·.1.isNone)) = false := by rfl) :
    PEm g X (.Call (.Name f p) [] kws pos) (mMake c cls (π.map fun _ => none) (mPick π ks.length fs)) e1 [] := PE.imp (pe_makeGQ M F hG hr hg hC hb (E := E0) pass0 ha hall hks hdb hpl) fun σ H Q h => pick_r hn hπ σ H _ (make_r hn2 σ H Q h)
end
end MI
namespace MI
open PySem PySem.Spec PyProof.Rows L2
section
variable {g : Gc} {S : Addr → Prop} {H : Hp}
end
end MI
namespace MI
open PySem PySem.Spec PyProof.Rows L2
section
variable {g : Gc} {X : Cx} {a b c e o : Expr} {es rest : List Expr} {fa fb fc : M T} {fs : M (List T)} {e1 e2 e3 b1 b2 b3 a1 a2 : List Nat} {pos p2 p3 py : Pos} {x y z : Str} {k : Nat}
theorem nv (i : Nat) (hN : X.N[i]? = some x := by rfl) (hv : Vis X.env.scope x := by first | exact .inl rfl | exact .inr (.inl rfl) | exact .inr (.inr rfl)) (hd : (x == ("__debug__" : Str)) = false := by decide) (hcd : (x == ("__classdict__" : Str)) = false := by decide) : PE X (.Name x pos) (tVar i) := pe_var hN hv hd hcd
theorem v (i : Nat) (hN : X.N[i]? = some x := by rfl) (hv : Vis X.env.scope x := by first | exact .inl rfl | exact .inr (.inl rfl) | exact .inr (.inr rfl)) (hd : (x == ("__debug__" : Str)) = false := by decide) (hcd : (x == ("__classdict__" : Str)) = false := by decide) : PEm g X (.Name x pos) (mRd i) [] [i] := tm_rd (pe_var hN hv hd hcd)
theorem vi (i : Nat) (hN : X.N[i]? = some x := by rfl) (hv : Vis X.env.scope x := by first | exact .inl rfl | exact .inr (.inl rfl) | exact .inr (.inr rfl)) (hd : (x == ("__debug__" : Str)) = false := by decide) (hcd : (x == ("__classdict__" : Str)) = false := by decide) : PEm g X (.Name x pos) (mIm (mRd i)) [] [] := tm_im (tm_rd (pe_var hN hv hd hcd))
theorem vf (i : Nat) (hN : X.N[i]? = some x := by rfl) (hv : Vis X.env.scope x := by first | exact .inl rfl | exact .inr (.inl rfl) | exact .inr (.inr rfl)) (hd : (x == ("__debug__" : Str)) = false := by decide) (hcd : (x == ("__classdict__" : Str)) = false := by decide) : PEm g X (.Name x pos) (mFz i) [i] [] := tm_fz (pe_var hN hv hd hcd)
theorem vm (i : Nat) (hN : X.N[i]? = some x := by rfl) (hv : Vis X.env.scope x := by first | exact .inl rfl | exact .inr (.inl rfl) | exact .inr (.inr rfl)) (hd : (x == ("__debug__" : Str)) = false := by decide) (hcd : (x == ("__classdict__" : Str)) = false := by decide) : PEm g X (.Name x pos) (mMv i) [i] [] := tm_mv (pe_var hN hv hd hcd)
theorem hv (i : Nat) (hN : X.N[i]? = some x := by rfl) (hv : Vis X.env.scope x := by first | exact .inl rfl | exact .inr (.inl rfl) | exact .inr (.inr rfl)) (hd : (x == ("__debug__" : Str)) = false := by decide) (hcd : (x == ("__classdict__" : Str)) = false := by decide) : PLm g X (.Name x pos) (mHere i) [] i := pl_name (pe_var hN hv hd hcd)
theorem gI {i : Int} (h : ∃ t, X.mg x = some (.int i t)) (hg : Gl X x := by rfl) (hd : (x == ("__debug__" : Str)) = false := by decide) : PEm g X (.Name x pos) (mC (.int i)) [] [] := by
  obtain ⟨t, h⟩ := h
  exact tm_glob hg h (v := .int i) ⟨t, rfl⟩ (fun _ _ => ⟨rfl, rfl⟩) hd
theorem gS {i : Str} (h : ∃ t, X.mg x = some (.str i t)) (hg : Gl X x := by rfl) (hd : (x == ("__debug__" : Str)) = false := by decide) : PEm g X (.Name x pos) (mC (.str i)) [] [] := by
  obtain ⟨t, h⟩ := h
  exact tm_glob hg h (v := .str i) ⟨t, rfl⟩ (fun _ _ => ⟨rfl, rfl⟩) hd
def fAdd : T → T → Option T := oe2 (fII iAdd) (oe2 fAddS (oe2 fAddL fAddT))
def fMul : T → T → Option T := oe2 (fII iMul) (oe2 fMulL fMulT)
theorem x_add (ha : PEm g X a fa e1 b1) (hb : PEm g X b fb e2 b2) (hK : g.K = X.K := by rfl) (d : ∀ j ∈ b1, j ∉ e2 := by decide) : PEm g X (.BinOp a .Add b pos) (m2 fAdd fa fb) (e1 ++ e2) [] := tm_bin (op_add.or (op_add_str.or (op_cat.or op_catA))) (opt_iAdd.or (opt_addS.or (opt_addL.or (hK ▸ opt_addT)))) ha hb d
theorem x_mul (ha : PEm g X a fa e1 b1) (hb : PEm g X b fb e2 b2) (hK : g.K = X.K := by rfl) (d : ∀ j ∈ b1, j ∉ e2 := by decide) : PEm g X (.BinOp a .Mult b pos) (m2 fMul fa fb) (e1 ++ e2) [] := tm_bin (op_mulW.or (op_rep.or (op_repT.or op_repU))) (opt_iMul.or (opt_mulL.or (hK ▸ opt_mulT))) ha hb d
theorem x_div (ha : PEm g X a fa e1 b1) (hb : PEm g X b fb e2 b2) (d : ∀ j ∈ b1, j ∉ e2 := by decide) : PEm g X (.BinOp a .FloorDiv b pos) (m2 (fII iDiv) fa fb) (e1 ++ e2) [] := tm_bin op_fdivW opt_iDiv ha hb d
theorem x_mod (ha : PEm g X a fa e1 b1) (hb : PEm g X b fb e2 b2) (d : ∀ j ∈ b1, j ∉ e2 := by decide) : PEm g X (.BinOp a .Mod b pos) (m2 (fII iMod) fa fb) (e1 ++ e2) [] := tm_bin op_mod opt_iMod ha hb d
theorem x_pow (ha : PEm g X a fa e1 b1) (hb : PEm g X b fb e2 b2) (d : ∀ j ∈ b1, j ∉ e2 := by decide) : PEm g X (.BinOp a .Pow b pos) (m2 (fII iPow) fa fb) (e1 ++ e2) [] := tm_bin op_pow opt_iPow ha hb d
def iLt (i j : Int) : Bool := decide (i < j)
def iLe (i j : Int) : Bool := decide (i ≤ j)
def iGt (i j : Int) : Bool := decide (j < i)
def iGe (i j : Int) : Bool := decide (j ≤ i)
def fLt : T → T → Option T := oe2 (fIB iLt) (fSB ltS)
def fLe : T → T → Option T := oe2 (fIB iLe) (fSB fun i j => !ltS j i)
def fGt : T → T → Option T := oe2 (fIB iGt) (fSB fun i j => ltS j i)
def fGe : T → T → Option T := oe2 (fIB iGe) (fSB fun i j => !ltS i j)
def fIn : T → T → Option T := oe2 (fInF false) (oe2 (fInD false) (oe2 (fInS false) (oe2 (fInK false) (fInE false))))
def fNotIn : T → T → Option T := oe2 (fInF true) (oe2 (fInD true) (oe2 (fInS true) (oe2 (fInK true) (fInE true))))
def fIs : T → T → Option T := oe2 (fIsN false) (fIsB false)
def fIsNot : T → T → Option T := oe2 (fIsN true) (fIsB true)
structure Cm (g : Gc) (X : Cx) (op : CmpOp) (f : T → T → Option T) : Prop where
  ex : ∃ r : R2, OpR X (compareOp op) r ∧ OpT g r f
theorem cLt : Cm g X .Lt fLt := ⟨_, op_lt.or op_lt_str, (opt_fIB (h := iLt)).or (opt_fSB (h := ltS))⟩
theorem cLe : Cm g X .LtE fLe := ⟨_, op_le.or op_le_str, (opt_fIB (h := iLe)).or (opt_fSB (h := fun i j => !ltS j i))⟩
theorem cGt : Cm g X .Gt fGt := ⟨_, op_gt.or op_gt_str, (opt_fIB (h := iGt)).or (opt_fSB (h := fun i j => ltS j i))⟩
theorem cGe : Cm g X .GtE fGe := ⟨_, op_ge.or op_ge_str, (opt_fIB (h := iGe)).or (opt_fSB (h := fun i j => !ltS i j))⟩
theorem cEq (hr : Room k X.A) (hK : g.K = X.K := by rfl) : Cm g X .Eq fEq := ⟨_, op_eqD (by have := hr.un; omega), hK ▸ opt_eq⟩
theorem cNe (hr : Room k X.A) (hK : g.K = X.K := by rfl) : Cm g X .NotEq fNe := ⟨_, op_neD (by have := hr.un; omega), hK ▸ opt_ne⟩
theorem cIn (hr : Room k X.A) (hK : g.K = X.K := by rfl) : Cm g X .In fIn := ⟨_, op_in_seq.or ((op_inD (by have := hr.un; omega)).or (op_inS.or ((op_inK (by have := hr.un; omega)).or (op_inE (by have := hr.un; omega))))), OpT.or (hK ▸ opt_inF) (OpT.or (hK ▸ opt_inD) (OpT.or opt_inS (OpT.or opt_inK (hK ▸ opt_inE))))⟩
theorem cNotIn (hr : Room k X.A) (hK : g.K = X.K := by rfl) : Cm g X .NotIn fNotIn := ⟨_, op_notIn_seq.or ((op_notInD (by have := hr.un; omega)).or (op_notInS.or ((op_notInK (by have := hr.un; omega)).or (op_notInE (by have := hr.un; omega))))), OpT.or (hK ▸ opt_inF) (OpT.or (hK ▸ opt_notInD) (OpT.or opt_notInS (OpT.or opt_inK (hK ▸ opt_inE))))⟩
theorem cIs : Cm g X .Is fIs := ⟨_, op_isN1.or op_isBl, opt_isN.or opt_isB⟩
theorem cIsNot : Cm g X .IsNot fIsNot := ⟨_, op_notN1.or op_notBl, opt_notN.or opt_notB⟩
theorem x_cmp {op : CmpOp} {f : T → T → Option T} (h : Cm g X op f) (ha : PEm g X a fa e1 b1) (hb : PEm g X b fb e2 b2) (d : ∀ j ∈ b1, j ∉ e2 := by decide) (hm : behindInMarks op b = false := by rfl) : PEm g X (.Compare a [op] [b] pos) (m2 f fa fb) (e1 ++ e2) [] := by
  obtain ⟨r, h1, h2⟩ := h.ex
  exact tm_cmp h1 h2 ha hb d hm
theorem t_cmp {op : CmpOp} {f : T → T → Option T} (h : Cm g X op f) (ha : PEm g X a fa e1 b1) (hb : PEm g X b fb e2 b2) (d : ∀ j ∈ b1, j ∉ e2 := by decide) (hm : behindInMarks op b = false := by rfl) : PTm g X (.Compare a [op] [b] pos) (asB (m2 f fa fb)) (e1 ++ e2) := by
  obtain ⟨r, h1, h2⟩ := h.ex
  exact tmt_cmp h1 h2 ha hb d hm
theorem x_chain {op op' : CmpOp} {f f' : T → T → Option T} (h : Cm g X op f) (h' : Cm g X op' f') (ha : PEm g X a fa e1 b1) (hb : PEm g X b fb e2 b2) (hc : PEm g X c fc e3 b3) (d : ∀ j ∈ b1, j ∉ e2 := by decide) (d' : ∀ j ∈ b1 ++ b2, j ∉ e3 := by decide) (hm : lastMarks [op, op'] [b, c] = false := by with_unfolding_all rfl) : PEm g X (.Compare a [op, op'] [b, c] pos) (mChain f f' fa fb fc) (e1 ++ e2 ++ e3) [] := by
  obtain ⟨r, h1, h2⟩ := h.ex
  obtain ⟨r', h1', h2'⟩ := h'.ex
  exact tm_chain h1 h1' h2 h2' ha hb hc d d' hm
theorem b_len (hm : X.mg "len" = none) (ha : PAm g X (e :: es) fs e1 b1) (hK : g.K = X.K := by rfl) (hg : Gl X "len" := by rfl) (he : starEach (e :: es) X.env = (false, eval e X.env) :: starEach es X.env := by rfl) (hpl : (backTo pos (starEach es X.env)).any (·.1) = false := by rfl) : PEm g X (.Call (.Name "len" p2) (e :: es) [] pos) (mF (c1 fLen) fs) e1 [] := tm_callB call_len (hK ▸ ct_len) hg hm boot_len ha (by decide) (by decide) he hpl
theorem b_abs (hm : X.mg "abs" = none) (ha : PAm g X (e :: es) fs e1 b1) (hg : Gl X "abs" := by rfl) (he : starEach (e :: es) X.env = (false, eval e X.env) :: starEach es X.env := by rfl) (hpl : (backTo pos (starEach es X.env)).any (·.1) = false := by rfl) : PEm g X (.Call (.Name "abs" p2) (e :: es) [] pos) (mF (c1 fAbs) fs) e1 [] := tm_callB call_abs ct_abs hg hm boot_abs ha (by decide) (by decide) he hpl
theorem b_min (hc : X.calm = true) (hm : X.mg "min" = none) (ha : PAm g X (e :: es) fs e1 b1) (hg : Gl X "min" := by rfl) (he : starEach (e :: es) X.env = (false, eval e X.env) :: starEach es X.env := by rfl) (hpl : (backTo pos (starEach es X.env)).any (·.1) = false := by rfl) : PEm g X (.Call (.Name "min" p2) (e :: es) [] pos) (mF (c2 fMin) fs) e1 [] := tm_callB ((call_min2 hc).or (call_min2S hc)) ct_min hg hm boot_min ha (by decide) (by decide) he hpl
theorem b_max (hc : X.calm = true) (hm : X.mg "max" = none) (ha : PAm g X (e :: es) fs e1 b1) (hg : Gl X "max" := by rfl) (he : starEach (e :: es) X.env = (false, eval e X.env) :: starEach es X.env := by rfl) (hpl : (backTo pos (starEach es X.env)).any (·.1) = false := by rfl) : PEm g X (.Call (.Name "max" p2) (e :: es) [] pos) (mF (c2 fMax) fs) e1 [] := tm_callB ((call_max2 hc).or (call_max2S hc)) ct_max hg hm boot_max ha (by decide) (by decide) he hpl
theorem b_divmod (hm : X.mg "divmod" = none) (ha : PAm g X (e :: es) fs e1 b1) (hg : Gl X "divmod" := by rfl) (he : starEach (e :: es) X.env = (false, eval e X.env) :: starEach es X.env := by rfl) (hpl : (backTo pos (starEach es X.env)).any (·.1) = false := by rfl) : PEm g X (.Call (.Name "divmod" p2) (e :: es) [] pos) (mF (c2 fDivmod) fs) e1 [] := tm_callB call_divmod ct_divmod hg hm boot_divmod ha (by decide) (by decide) he hpl
theorem b_all (hc : X.calm = true) (hm : X.mg "all" = none) (ha : PAm g X (e :: es) fs e1 b1) (hK : g.K = X.K := by rfl) (hg : Gl X "all" := by rfl) (he : starEach (e :: es) X.env = (false, eval e X.env) :: starEach es X.env := by rfl) (hpl : (backTo pos (starEach es X.env)).any (·.1) = false := by rfl) : PEm g X (.Call (.Name "all" p2) (e :: es) [] pos) (mF (c1 (fBools fun bs => bs.all id)) fs) e1 [] := tm_callB (cr_all hc) (hK ▸ ct_bools) hg hm boot_all ha (by decide) (by decide) he hpl
theorem b_repr (hG : GA X.A) (hr : Room k X.A) (hm : X.mg "repr" = none) (ha : PAm g X (e :: es) fs e1 b1) (hK : g.K = X.K := by rfl) (hg : Gl X "repr" := by rfl) (he : starEach (e :: es) X.env = (false, eval e X.env) :: starEach es X.env := by rfl) (hpl : (backTo pos (starEach es X.env)).any (·.1) = false := by rfl) : PEm g X (.Call (.Name "repr" p2) (e :: es) [] pos) (mF (c1 fRepr) fs) e1 [] := tm_callB (call_reprD hG (by have := hr.un; omega)) (hK ▸ ct_repr) hg hm boot_repr ha (by decide) (by decide) he hpl
theorem b_int (hm : X.mg "int" = none) (ha : PAm g X (e :: es) fs e1 b1) (hg : Gl X "int" := by rfl) (he : starEach (e :: es) X.env = (false, eval e X.env) :: starEach es X.env := by rfl) (hpl : (backTo pos (starEach es X.env)).any (·.1) = false := by rfl) : PEm g X (.Call (.Name "int" p2) (e :: es) [] pos) (mF (c1 fInt) fs) e1 [] := tm_callTy call_int1 ct_int hg hm boot_int ha (by decide) (by decide) he hpl
def fListU (t : T) : Option T := match fList t with
  | some r => some r
  | none => fListK t
theorem b_tuple (hm : X.mg "tuple" = none) (ha : PAm g X (e :: es) fs e1 b1) (hK : g.K = X.K := by rfl) (hg : Gl X "tuple" := by rfl) (he : starEach (e :: es) X.env = (false, eval e X.env) :: starEach es X.env := by rfl) (hpl : (backTo pos (starEach es X.env)).any (·.1) = false := by rfl) : PEm g X (.Call (.Name "tuple" p2) (e :: es) [] pos) (mF (c1 fTuple) fs) e1 [] := tm_callTy call_tuple_of (hK ▸ ct_tuple) hg hm boot_tuple ha (by decide) (by decide) he hpl
theorem b_is (c : Bt) (hm : X.mg "isinstance" = none) (hmc : X.mg x = none) (ha : PEm g X a fa e1 b1) (hv : bootBuiltins x = some (.type c.nm) := by rfl) (hK : g.K = X.K := by rfl) (hg : Gl X "isinstance" := by rfl) (hgc : Gl X x := by rfl) (hn : x ≠ "__name__" := by decide) (hdb : (x == ("__debug__" : Str)) = false := by decide)
    (he : starEach [a, .Name x p3] X.env = (false, eval a X.env) :: starEach [.Name x p3] X.env := by rfl) (he2 : starEach [.Name x p3] X.env = (false, eval (.Name x p3) X.env) :: starEach [] X.env := by rfl) (hpl : (backTo pos (starEach [.Name x p3] X.env)).any (·.1) = false := by rfl) : PEm g X (.Call (.Name "isinstance" p2) [a, .Name x p3] [] pos) (m1 (isB c) fa) e1 [] := tm_isB hg hm hgc hmc hv hK ha hn hdb he he2 hpl
def fIx : T → T → Option T := oe2 fIxS (oe2 fIxT fIxK)
theorem x_ix (hr : Room k X.A) (ha : PEm g X a fa e1 b1) (hb : PEm g X b fb e2 b2) (hK : g.K = X.K := by rfl) (d : ∀ j ∈ b1, j ∉ e2 := by decide) (hs : PlainIx b := by exact fun _ _ => rfl) : PEm g X (.Subscript a b pos) (m2 fIx fa fb) (e1 ++ e2) b1 := tm_ix (ixr_seq.or (ix_str.or (ix_dct (by have := hr.un; omega)))) (OpP.or (hK ▸ opp_ix) (OpP.or opp_ixs opp_ixK)) ha hb d hs
theorem x_cut {lo hi : Option Expr} {fl fh : M (Option Int)} (ha : PEm g X a fa e1 b1) (hl : POm g X lo fl e2) (hh : POm g X hi fh e3) (hK : g.K = X.K := by rfl) (d : ∀ j ∈ b1, j ∉ e2 ++ e3 := by decide) : PEm g X (.Subscript a (.Slice lo hi none p2) pos) (mSl fCut fa fl fh) (e1 ++ (e2 ++ e3)) [] := tm_slice sl_cut (hK ▸ slt_cut) ha hl hh d
theorem gN (i : Nat) (hN : X.N.Nodup) (hi : X.N[i]? = some x := by rfl) (hx : Loc X.env.scope x := by first | exact .inl rfl | exact .inr rfl) (hf : X.fn x = true ∨ X.env.scope.names.lookup x = some .local := by first | exact .inl rfl | exact .inr rfl) : PGm g X (.Name x pos) (mPut i) [i] := tg_name (pg_name hN hi hx hf)
theorem s_set (i : Nat) (ha : PEm g X e fa e1 []) (hN : X.N.Nodup) (hi : X.N[i]? = some x := by rfl) (hx : Loc X.env.scope x := by first | exact .inl rfl | exact .inr rfl) (hf : X.fn x = true ∨ X.env.scope.names.lookup x = some .local := by first | exact .inl rfl | exact .inr rfl)
    (hs : swapsWithSole [.Name x p2] e pos.line X.env = pure false := by rfl) (hw : swappedStores [.Name x p2] e X.env = pure none := by rfl) (h1 : (assignEach [.Name x p2] X.env).map (·.2) = [assign (.Name x p2) X.env] := by rfl) : PSm g X (.Assign [.Name x p2] e pos) (mSet i fa) [i] (e1 ++ [i]) := ts_asg ha (gN i hN hi hx hf) hs hw h1
theorem s_par (i j : Nat) {kt k2 : Nat} {px pt pt2 : Pos} (hc : X.calm = true) (ha : PAm g X [a, b] fs e1 []) (hN : X.N.Nodup) (hi : X.N[i]? = some x := by rfl) (hj : X.N[j]? = some y := by rfl) (hij : i ≠ j := by decide) (hx : X.env.scope.names.lookup x = some .local := by rfl) (hy : X.env.scope.names.lookup y = some .local := by rfl)
    (hw : swappedStores [.Tuple [.Name x px, .Name y py] kt pt] (.Tuple [a, b] k2 pt2) X.env = pure (some [x, y]) := by rfl) (hs : swapsWithSole [.Tuple [.Name x px, .Name y py] kt pt] (.Tuple [a, b] k2 pt2) pos.line X.env = pure false := by rfl) : PSm g X (.Assign [.Tuple [.Name x px, .Name y py] kt pt] (.Tuple [a, b] k2 pt2) pos) (mPar i j fs) [i, j] (e1 ++ [i, j]) := ts_par (ps_par hc hN hi hj hij hx hy ha hw hs)
theorem s_addTo (i : Nat) (ha : PEm g X e fa e1 b1) (hN : X.N.Nodup) (hi : X.N[i]? = some x := by rfl) (hx : Loc X.env.scope x := by first | exact .inl rfl | exact .inr rfl) (hf : X.fn x = true ∨ X.env.scope.names.lookup x = some .local := by first | exact .inl rfl | exact .inr rfl) (d : i ∉ e1 := by decide) : PSm g X (.AugAssign (.Name x p2) .Add e pos) (mAug i (fII iAdd) fa) [i] (e1 ++ [i]) := ts_augAdd (ps_aug hN hi hx ha ip_add hf) d
theorem PG.or {tg : Expr} {t t' : TG} (h : PG X tg t) (h' : PG X tg t') : PG X tg (fun w σ H Q => t w σ H Q ∨ t' w σ H Q) := ⟨fun pins s σ H w u Q I r q => q.elim (h.run pins s σ H w u Q I r) (h'.run pins s σ H w u Q I r)⟩
def mUn (n : Nat) (ms : List T → M Unit) (t : T) : M Unit := match t with
  | .nd .tup ts => if ts.length = n then ms ts else fun _ => none
  | .nd (.lst _) ts => if ts.length = n then ms ts else fun _ => none
  | _ => fun _ => none
theorem tg_un {tgs : List Expr} {ms : List T → M Unit} {n k : Nat} (hK : g.K = X.K) (hc : X.calm = true) (h : PGsm g X tgs ms a1) (hn : (assignEach tgs X.env).length = n := by rfl) (hst : (assignEach tgs X.env).findIdx? (·.1) = none := by rfl) : PGm g X (.Tuple tgs k pos) (mUn n ms) a1 :=
  PG.imp (PG.or (tg_tup (k := k) (pos := pos) hK hc h hn hst) (tg_unl hK hc h hn hst)) fun w σ H Q ⟨S, Ts, A, t, Av, Ts', R, r, nd, dj, q, kk⟩ => by
    unfold mUn at q
    split at q
    · exact .inl ⟨S, Ts, A, _, Av, Ts', R, r, nd, dj, q, kk⟩
    · exact .inr ⟨S, Ts, A, _, Av, Ts', R, r, nd, dj, q, kk⟩
    · cases q
def mItA (fa : M T) : M (List T) := bnd fa fun t => match t with
  | .str x => lft (if x.length ≤ sizeLine then some (signsT x) else none)
  | t => lft (kidsI t)
theorem it_any {tg : Expr} (hK : g.K = X.K) (ha : PEm g X e fa e1 b1) : PIm g X tg e (mItA fa) e1 b1 := PI.imp (PI.or (it_seq (tg := tg) hK ha) (it_str (tg := tg) ha)) fun σ H Rr ⟨S, Ts, A, items, Ts', R, q, k⟩ => by
  obtain ⟨t, Ts1, q1, q2⟩ := bnd_some q
  have left : (∀ z, t ≠ .str z) → TIm g (mIter fa) e1 b1 σ H Rr := fun hn => by
    refine ⟨S, Ts, A, items, Ts', R, ?_, k⟩
    unfold mIter bnd
    rw [q1]
    cases t with
    | str z => exact absurd rfl (hn z)
    | _ => exact q2
  cases t with
  | str z =>
    right
    have q2 : lft (if z.length ≤ sizeLine then some (signsT z) else none) Ts1 = some (items, Ts') := q2
    obtain ⟨q3, q4⟩ := lft_some q2
    split at q3
    · refine ⟨S, Ts, A, items, Ts', R, ?_, fun J H1 S1 A1 R1 it p s => k J H1 S1 A1 R1 ?_ p s⟩
      · unfold mSigns bnd
        rw [q1, q4]
        show lft (some (signsT z)) Ts1 = _
        rw [q3]; rfl
      · obtain ⟨ts, xs, Ax, r, o, w⟩ := it
        exact ⟨ts, xs, Ax, r, o.mono (fun i h => nomatch h) (fun _ => rfl), w⟩
    · cases q3
  | _ => exact .inl (left fun z h => nomatch h)
section
variable {mp : M (List Nat)} {i : Nat}
theorem l_append (ho : PLm g X o mp e1 i) (ha : PEm g X e fa e2 []) (d : i ∉ e2 := by decide) (hK : g.K = X.K := by rfl) (hbase : attributeBase o "append" X.env (eval o X.env) = eval o X.env := by rfl)
    (hfew : ((backTo pos (starEach [e] X.env)).all (fun x => !x.1) && (backToKw pos (keywordEach [] X.env)).all (fun x => x.1.isSome) && decide ([e].length + ([] : List Keyword).length + (if ([] : List Keyword).isEmpty then 0 else 1) < 30)) = true := by rfl)
    (hline : (p2.endLine == pos.line) = true := by rfl) (hs : starEach [e] X.env = (false, eval e X.env) :: starEach [] X.env := by rfl) (hplain : (backTo pos (starEach [] X.env)).any (·.1) = false := by rfl) : PEm g X (.Call (.Attribute o "append" p2) [e] [] pos) (mMut i mp isLst (mCons fa mNil) fAppend) ((e1 ++ (e2 ++ [])) ++ [i]) [] :=
  tm_mutL hK PySem.F.slot_list_append PySem.F.type_list_append mt_append mut_append ho (tms_cons ha tms_nil (by intro j hj; exact nomatch hj) hs) (by simpa using d) hbase hfew hline hs hplain
theorem l_extend (ho : PLm g X o mp e1 i) (ha : PEm g X e fa e2 []) (d : i ∉ e2 := by decide) (hK : g.K = X.K := by rfl) (hbase : attributeBase o "extend" X.env (eval o X.env) = eval o X.env := by rfl)
    (hfew : ((backTo pos (starEach [e] X.env)).all (fun x => !x.1) && (backToKw pos (keywordEach [] X.env)).all (fun x => x.1.isSome) && decide ([e].length + ([] : List Keyword).length + (if ([] : List Keyword).isEmpty then 0 else 1) < 30)) = true := by rfl)
    (hline : (p2.endLine == pos.line) = true := by rfl) (hs : starEach [e] X.env = (false, eval e X.env) :: starEach [] X.env := by rfl) (hplain : (backTo pos (starEach [] X.env)).any (·.1) = false := by rfl) : PEm g X (.Call (.Attribute o "extend" p2) [e] [] pos) (mMut i mp isLst (mCons fa mNil) fExtend) ((e1 ++ (e2 ++ [])) ++ [i]) [] :=
  tm_mutL hK PySem.F.slot_list_extend PySem.F.type_list_extend (MtR.or mt_extend mt_extT) (by rw [← hK]; exact mut_extend) ho (tms_cons ha tms_nil (by intro j hj; exact nomatch hj) hs) (by simpa using d) hbase hfew hline hs hplain
end
section
variable {mp : M (List Nat)} {i : Nat}
theorem l_pop (ho : PLm g X o mp e1 i) (hK : g.K = X.K := by rfl) (hbase : attributeBase o "pop" X.env (eval o X.env) = eval o X.env := by rfl) (hline : (p2.endLine == pos.line) = true := by rfl) : PEm g X (.Call (.Attribute o "pop" p2) [] [] pos) (mMut i mp isLst mNil fPop) (e1 ++ [i]) [] :=
  tm_mutL0 hK PySem.F.slot_list_pop PySem.F.type_list_pop mt_pop mut_pop ho hbase hline
end
def blkB (N : List Str) (sc scope : Scope) (own : List (Str × Nat)) : Bool :=
  decide (scope.kind = .function) && (scope.names.all (fun y => decide (scope.names.lookup y.1 = some y.2)) && (own.all (fun p => decide (N[p.2]? = some p.1)) &&
    (scope.names.all (fun y => if y.2 = .free then (decide (sc.names.lookup y.1 = some .cell) || decide (sc.names.lookup y.1 = some .free)) else true) && scope.names.all (fun y => if y.2 = .local ∨ y.2 = .cell then (own.any (fun p => decide (p.1 = y.1)) || !(N.any fun n => decide (n = y.1))) else true))))
theorem blk_of {N : List Str} {sc scope : Scope} {own : List (Str × Nat)} (h : blkB N sc scope own = true) : BlkOk N sc scope own := by
  unfold blkB at h
  simp only [Bool.and_eq_true, decide_eq_true_eq, List.all_eq_true] at h
  obtain ⟨h1, h2, h3, h4, h5⟩ := h
  refine ⟨h1, h2, h3, fun y hy e => ?_, fun y hy e => ?_⟩
  · have := h4 y hy
    rw [if_pos e, Bool.or_eq_true, decide_eq_true_eq, decide_eq_true_eq] at this
    exact this
  · have := h5 y hy
    rw [if_pos e, Bool.or_eq_true] at this
    rcases this with h | h
    · left
      obtain ⟨p, hp, he⟩ := List.any_eq_true.mp h
      exact List.mem_map.mpr ⟨p, hp, of_decide_eq_true he⟩
    · right
      intro hm
      have : N.any (fun n => decide (n = y.1)) = true := List.any_eq_true.mpr ⟨y.1, hm, decide_eq_true rfl⟩
      rw [this] at h
      cases h
section
variable {tg iter elt tg1 iter1 : Expr} {ifs ifs1 : List Expr} {mi mi1 : M (List T)} {m m1' : T → M Unit} {tt : M Bool} {te : M T} {e4 : List Nat} {scope : Scope} {spos : Pos}
theorem x_lc (own : List (Str × Nat)) (hc : X.calm = true) (hN : X.N.Nodup) (ok : BlkOk X.N X.env.scope scope own) (hi : PIm g X tg iter mi e1 b1)
    (hg : ∀ (s : Shared) (H : Hp) (C : Addr) (cl : List (Str × Addr)) (fp : List Addr), PGm g (X.blk s H scope (compEnvC scope cl C X.env) fp) tg m a1) (ht : ∀ (s : Shared) (H : Hp) (C : Addr) (cl : List (Str × Addr)) (fp : List Addr), PTsm g (X.blk s H scope (compEnvC scope cl C X.env) fp) ifs tt e2)
    (he : ∀ (s : Shared) (H : Hp) (C : Addr) (cl : List (Str × Addr)) (fp : List Addr), PEm g (X.blk s H scope (compEnvC scope cl C X.env) fp) elt te e3 [])
    (d : ∀ j ∈ b1, j ∉ a1 ++ (e2 ++ e3) := by decide) (dv : ∀ j ∈ a1, j ∈ own.map (·.2) := by decide) (dh : ∀ j ∈ own.map (·.2), j ∉ e2 ++ e3 := by decide) (hs : ∀ x, foldedSetIterable iter X.env x = pure x := by intro _; rfl) :
    PEm g X (.ListComp elt [⟨tg, iter, ifs, 0⟩] scope pos) (mLc mi m tt te (own.map (·.2))) (e1 ++ (e2 ++ e3)) [] := tm_lc hc hN hi ok hg ht he d dv dh hs
theorem s_setLc (i : Nat) (own : List (Str × Nat)) (hc : X.calm = true) (hN : X.N.Nodup) (ok : BlkOk X.N X.env.scope scope own) (hi : PIm g X tg iter mi e1 b1)
    (hg : ∀ (s : Shared) (H : Hp) (C : Addr) (cl : List (Str × Addr)) (fp : List Addr), PGm g (X.blk s H scope (compEnvC scope cl C X.env) fp) tg m a1) (ht : ∀ (s : Shared) (H : Hp) (C : Addr) (cl : List (Str × Addr)) (fp : List Addr), PTsm g (X.blk s H scope (compEnvC scope cl C X.env) fp) ifs tt e2)
    (he : ∀ (s : Shared) (H : Hp) (C : Addr) (cl : List (Str × Addr)) (fp : List Addr), PEm g (X.blk s H scope (compEnvC scope cl C X.env) fp) elt te e3 []) (hy : X.N[i]? = some y := by rfl) (hyl : X.env.scope.names.lookup y = some .local := by rfl)
    (hsw : swapsWith (.ListComp elt [⟨tg, iter, ifs, 0⟩] scope pos) (some (.Name y py)) spos.line X.env = pure true := by rfl)
    (d : ∀ j ∈ b1, j ∉ a1 ++ (e2 ++ e3) := by decide) (dv : ∀ j ∈ a1, j ∈ own.map (·.2) := by decide) (dh : ∀ j ∈ own.map (·.2), j ∉ e2 ++ e3 := by decide) (hs : ∀ x, foldedSetIterable iter X.env x = pure x := by intro _; rfl) :
    PSm g X (.Assign [.Name y py] (.ListComp elt [⟨tg, iter, ifs, 0⟩] scope pos) spos) (mSet i (mLc mi m tt te (own.map (·.2)))) [i] ((e1 ++ (e2 ++ e3)) ++ [i]) := ts_setLc hc hN hy hyl hsw hi ok hg ht he d dv dh hs
end
theorem passNox {X : Cx} : PassesOwn (model X.nox.prog X.nox.w) X.nox.A X.nox.env X.nox.xe := fun _ _ h => h.elim
end
end MI
namespace MI
open PySem PySem.Spec PyProof.Rows L2
section
variable {g : Gc} {X : Cx} {k : Nat} {f : Addr} {fd : FuncData} {ps : List Str} {x : Str} {p pos : Pos} {e : Expr} {fa : M T} {e1 : List Nat} {c : Cal}
def mGive (c : Cal) (fa : M T) : M T := bnd fa fun t => bnd (lft (c [t])) fun p => ret p.1
theorem tm_give (F : FnG X.prog X.w X.K X.mg X.base CX0 k f fd ps (spT g [0] c)) (hG : GA X.A) (hr : Room k X.A) (hg : Gl X x) (hm : X.mg x = some (.ref f)) (hk : PySem.W.keepIn X.K (.ref f) = true) (hb : Binds X.K fd ps []) (ha : PEm g X e fa e1 [])
    (hdb : (x == ("__debug__" : Str)) = false := by decide) (he : starEach [e] X.env = (false, eval e X.env) :: starEach [] X.env := by rfl) (hpl : (backTo pos (starEach [] X.env)).any (·.1) = false := by rfl) :
    PEm g X (.Call (.Name x p) [e] [] pos) (mGive c fa) e1 [] := PE.imp (pe_callG F hG hr hg hm hk hb (E := E0) pass0 (pa_cons ha pa_nil he) hdb he hpl) fun σ H Q h => by
  obtain ⟨S, Ts, A, r, Ts', R, q, kk⟩ := h
  obtain ⟨t, Ts1, q1, q2⟩ := bnd_some q
  obtain ⟨⟨r', outs⟩, Ts2, q3, q4⟩ := bnd_some q2
  obtain ⟨q5, e5⟩ := lft_some q3
  subst e5
  obtain ⟨h1, h2⟩ := ret_some q4
  have h1 : r' = r := h1
  subst h1; subst h2
  refine ⟨S, Ts, A, t, _, R, q1, fun x' H1 S1 A1 Ax R1 rx o p s => ?_⟩
  show spT g [0] c ([x'] ++ []) H1 Q E0
  refine ⟨S1, [t], Ax, r', outs, RpL.one rx, o.nd rfl, o.ns, R1.st, q5, fun y H' S' Ar Ao ry ro nd ns st pf => ?_⟩
  have pf' : PoF (fun a => S1 a ∨ a ∈ ([] : List Addr)) H1 Ax S' H' ([] ++ Ar) := ⟨pf.keep, fun a h => h.elim (pf.sub a) fun z => (nomatch z), fun a h => (pf.snew a h).elim (fun z => .inl (.inl z)) .inr, fun a h => pf.anew a (List.mem_append_right _ h)⟩
  exact call_post (ln := []) (outs := []) (zs := []) (Ao := []) (Ab := []) (b1 := []) (S2 := S') (Ts2 := Ts2) R R1 (Rp.cells _ _ _ rx) o Ow.nil p s pf' (fun _ h => h) (fun a h => pf.sub a h) (fun _ _ z => nomatch z) ry ⟨rfl, rfl⟩ (List.nodup_append.mp nd).2.1 (fun a ha => ns a (List.mem_append_right _ ha)) st (fun k s e => by simp at e) rfl (fun s hs => by simp at hs) kk
end
section
variable {g : Gc} {X : Cx} {a b : Expr} {fa fb : M T} {e1 e2 b1 b2 : List Nat} {p p2 pos pos2 : Pos}
def fRngL2 (a b : T) : Option T := match a, b with
  | .int i, .int j => if -1000000 ≤ i ∧ i ≤ 1000000 ∧ -1000000 ≤ j ∧ j ≤ 1000000 then some (.nd (.lst true) (rangeT i j)) else none
  | _, _ => none
theorem rg_rep {S : Addr → Prop} {H : Hp} {i j : Int} : RpL g S H (rangeT i j) (rgV i j) [] := by
  have key : ∀ (l : List Nat), RpL g S H (l.map fun (n : Nat) => T.int (i + (n : Nat))) (l.map fun (n : Nat) => V.int (i + (n : Nat))) [] := fun l => by
    induction l with
    | nil => exact ⟨rfl, rfl⟩
    | cons n l ih => exact ⟨_, _, [], [], rfl, rfl, ⟨rfl, rfl⟩, ih⟩
  exact key _
theorem rgok {i j : Int} (h : -1000000 ≤ i ∧ i ≤ 1000000 ∧ -1000000 ≤ j ∧ j ≤ 1000000) : RgOk i j := by
  unfold RgOk
  have := sizeLine_eq
  omega
theorem b_listRng2 (hl : X.mg "list" = none) (hr : X.mg "range" = none) (hc : X.calm = true) (ha : PEm g X a fa e1 b1) (hb : PEm g X b fb e2 b2) (d : ∀ j ∈ b1, j ∉ e2 := by decide) (hgl : Gl X "list" := by rfl) (hgr : Gl X "range" := by rfl) (na : starEach [a, b] X.env = (false, eval a X.env) :: starEach [b] X.env := by rfl)
    (nb : starEach [b] X.env = (false, eval b X.env) :: starEach [] X.env := by rfl) (hp : (backTo pos (starEach [b] X.env)).any (·.1) = false := by rfl) (nc : starEach [.Call (.Name "range" p) [a, b] [] pos] X.env = (false, eval (.Call (.Name "range" p) [a, b] [] pos) X.env) :: starEach [] X.env := by rfl) :
    PEm g X (.Call (.Name "list" p2) [.Call (.Name "range" p) [a, b] [] pos] [] pos2) (m2 fRngL2 fa fb) (e1 ++ e2) [] := PE.imp (pe_listRg hc hgl hl (prg_2 hgr hr ha hb na nb hp) nc) fun σ H Q h => by
  obtain ⟨S, Ts, A, t, Ts', R, q0, k⟩ := h
  obtain ⟨ta, Ts1, ea, q1⟩ := bnd_some q0
  obtain ⟨tb, Ts2, eb, q2⟩ := bnd_some q1
  obtain ⟨ef, eT⟩ := lft_some q2
  subst eT
  refine tm_two (bo2 := b2) d R ea eb fun x y H' S' A' Ax Ay R' rx ry ox _ p s => ?_
  unfold fRngL2 at ef
  split at ef
  · rename_i i j
    split at ef
    · rename_i hz
      injection ef with ef; subst ef
      refine ⟨i, j, rx.1, ry.1, rgok hz, fun l hl => ?_⟩
      have n : New g S' H' _ (.nd (.lst true) (rangeT i j)) (.ref l) [l] := New.node hl rg_rep
      have o : Ow [] H' A' S' A' [l] := Ow.of_new R' n
      have s2 := s.trans (Stb.ext (eff := []) (Ts := Ts') (A := A') n.ext)
      rw [List.append_nil] at s2
      exact k _ _ S' A' [l] (R'.ext n.ext) n.rep (o.rebase p) (p.trans R (Po.ext n.ext)) s2
    · cases ef
  · cases ef
end
end MI
namespace MI
open PySem PySem.Spec PyProof.Rows L2 He
abbrev dfA (a : PySem.W.Frag → Addr) (name qual : Str) (params : Arguments) (body : List Stmt) (scope : Scope) : He5.DefA := { at_ := a, name := name, qual := qual, params := params, body := body, scope := scope }
def lookM (fa : List (PySem.W.Frag → Bool)) (fn : List He5.DefA) (K : PySem.W.Frag) : Bool × AlD := (fa.all (· K), He5.obsA [] fn K)
structure SaysM (fa : List (PySem.W.Frag → Bool)) (fn : List He5.DefA) (K : PySem.W.Frag) : Prop where
  facts : fa.all (· K) = true
  defs : He5.SaysA [] fn K
def frN {α : Type} (n : Nat) (k : Nat → α) : α := match n with
  | 0 => k 0
  | m + 1 => k (m + 1)
def reach (g : Addr → Option Obj) : Nat → Nat → List Addr → List Addr
  | 0, _, _ => []
  | _ + 1, _, [] => []
  | f + 1, m, a :: rest => match Nat.land (Nat.shiftRight m a) 1 with
    | 0 => (match g a with
      | some o => frN (Nat.lor m (Nat.shiftLeft 1 a)) fun m => a :: reach g f m (rest ++ refsD o)
      | none => reach g f m rest)
    | _ + 1 => reach g f m rest
def partG (q : Addr → Option Obj) : PySem.W.Frag := frG q (reach q 100000 0 [mainGlobals, PySem.cStatics])
def lookG (fa : List (PySem.W.Frag → Bool)) (fn : List He5.DefA) (q : Addr → Option Obj) : Bool × AlD := lookM fa fn (partG q)
def hookM (fa : List (PySem.W.Frag → Bool)) (fn : List He5.DefA) : PySem.W.Hook :=
  { α := Bool × AlD, obs := fun z => lookG fa fn z.heap.get?, val := fun _ => (true, He5.valA fn), says := fun _ h => ∃ K, K.In h ∧ SaysM fa fn K,
    of := fun _ _ e => ⟨_, frG_in, ⟨congrArg Prod.fst e, congrArg Prod.snd e⟩⟩, keeps := fun _ _ _ x more => x.imp fun _ y => ⟨y.1.keeps more, y.2⟩ }
theorem lookG_eq {fa : List (PySem.W.Frag → Bool)} {fn : List He5.DefA} {q : Addr → Option Obj} {z : Shared} (h : ∀ a, q a = z.heap.get? a) : lookG fa fn q = (hookM fa fn).obs z := congrArg (lookG fa fn) (funext h)
theorem run_two {α β γ δ : Type} {o : Option α} {f : α → β} {g : α → γ} {h : α → δ} {b : β} {c : γ} {d : δ} (h1 : o.map (fun s => (f s, g s)) = some (b, c)) (h2 : o.map h = some d) : o.map (fun s => (f s, g s, h s)) = some (b, c, d) := by
  cases o with
  | none => cases h1
  | some s =>
    have e1 : (f s, g s) = (b, c) := Option.some.inj h1
    have e2 : h s = d := Option.some.inj h2
    rw [Option.map_some, e2, (Prod.mk.inj e1).1, (Prod.mk.inj e1).2]
theorem SaysM.fact {fa : List (PySem.W.Frag → Bool)} {fn : List He5.DefA} {K : PySem.W.Frag} (c : SaysM fa fn K) (i : Nat) {f : PySem.W.Frag → Bool} (h : fa[i]? = some f := by rfl) : f K = true := List.all_eq_true.mp c.facts f (List.mem_of_getElem? h)
def pgA (K : PySem.W.Frag) (x f : Str) : Addr := match PySem.W.recIn K (ma K (ga K x) f) "property" with
  | some (.ref a :: _) => a
  | _ => 0
def prB (x f : Str) (K : PySem.W.Frag) : Bool := eqO (PySem.W.findIn K (.ref (ga K x)) f) (some (some (.ref (ma K (ga K x) f)))) && (eqO (PySem.W.specialIn K (.ref (ma K (ga K x) f)) "__get__") (some (some (.builtin "property.__get__"))) &&
  (decide (PySem.W.takesIn K (.ref (ma K (ga K x) f)) = some true) && (match PySem.W.recIn K (ma K (ga K x) f) "property" with
    | some (.ref _ :: _) => true
    | _ => false)))
theorem prB_ok {x f : Str} {K : PySem.W.Frag} (h : prB x f K = true) : PropOf K (ga K x) f (ma K (ga K x) f) (pgA K x f) := by
  obtain ⟨h1, h⟩ := ba h
  obtain ⟨h2, h⟩ := ba h
  obtain ⟨h3, h4⟩ := ba h
  refine ⟨eqO_ok h1, eqO_ok h2, of_decide_eq_true h3, ?_⟩
  unfold pgA
  split at h4
  · rename_i a rest e
    rw [e]
    exact ⟨rest, rfl⟩
  · cases h4
def isiB (c : Str) (own : List Str) (K : PySem.W.Frag) : Bool := ((["NoneType", "bool", "int", "str", "tuple", "list", "dict"] : List String).all fun n => decide (PySem.W.kitOne K (.type n) (.ref (ga K c)) = some false)) &&
  ((own.all fun d => decide (PySem.W.kitOne K (.ref (ga K d)) (.ref (ga K c)) = some (decide (d = c)))) && ((own.all fun d => (Fa.cls d).ok K && (eqO (PySem.W.findIn K (.ref (ga K d)) "__class__") (some (some (.builtin "object.__class__"))) && decide (PySem.W.mroIn K (ga K d) (.type "object") = some true))) &&
  (eqO (PySem.W.specialIn K (.builtin "object.__class__") "__get__") (some (some (.builtin "getset_descriptor.__get__"))) && decide (PySem.W.takesIn K (.builtin "object.__class__") = some true))))
theorem isi_ok {c : Str} {own : List Str} {K : PySem.W.Frag} (h : isiB c own K = true) : IsiC K (ga K) c own := by
  obtain ⟨h1, h⟩ := ba h
  obtain ⟨h2, h⟩ := ba h
  obtain ⟨h3, h⟩ := ba h
  obtain ⟨h4, h5⟩ := ba h
  refine ⟨fun n hn => of_decide_eq_true (List.all_eq_true.mp h1 n hn), fun d hd => of_decide_eq_true (List.all_eq_true.mp h2 d hd), fun d hd => ?_, eqO_ok h4, of_decide_eq_true h5⟩
  have q := List.all_eq_true.mp h3 d hd
  obtain ⟨q1, q2⟩ := ba q
  obtain ⟨q3, q4⟩ := ba q2
  exact ⟨cls_ok q1, eqO_ok q3, of_decide_eq_true q4⟩
end MI
namespace MI
open PySem PySem.Spec PyProof.Rows L2 He
def scrH (K : PySem.W.Frag) (a : Addr) (ob : Obj) (xs : List V) : Hp := fun b => if b = a ∧ K.lookup b = none then some (.frz ob (.lst xs)) else none
section
variable {K : PySem.W.Frag} {a b : Addr} {ob : Obj} {xs : List V}
theorem scrH_inv {u : HO} (h : scrH K a ob xs b = some u) : b = a ∧ K.lookup a = none ∧ u = .frz ob (.lst xs) := by
  by_cases c : b = a ∧ K.lookup b = none
  · rw [scrH, if_pos c] at h
    cases h
    exact ⟨c.1, c.1 ▸ c.2, rfl⟩
  · rw [scrH, if_neg c] at h; cases h
theorem scrH_only : Only (scrH K a ob xs) := fun b => by
  cases e : scrH K a ob xs b with
  | none => exact .inl rfl
  | some u => exact .inr ⟨ob, xs, by rw [(scrH_inv e).2.2]⟩
theorem scrH_off {h : Heap} {o' : Obj} (ha : h.get? a = some ob) (hb : h.get? b = some o') (ne : o' ≠ ob) : scrH K a ob xs b = none := by
  cases e : scrH K a ob xs b with
  | none => rfl
  | some u =>
    obtain ⟨rfl, _⟩ := scrH_inv e
    exact absurd (Option.some.inj (hb.symm.trans ha)) ne
theorem scrH_K {h : Heap} (k : K.In h) (e : ∃ o', K.lookup b = some o') : scrH K a ob xs b = none := by
  obtain ⟨o', e⟩ := e
  exact if_neg fun c => by rw [c.2] at e; cases e
end
structure Scr (h : Heap) (a : Addr) (vs : List Value) (ns : List Int) : Prop where
  get : h.get? a = some { cls := .type "list", data := .seq vs.toArray }
  nums : IntsAre vs ns
  few : ns.length ≤ sizeLine
abbrev Scr.obj (vs : List Value) : Obj := { cls := .type "list", data := .seq vs.toArray }
section
variable {P : Program} {w : World} {K : PySem.W.Frag} {h : Heap} {a : Addr} {vs : List Value} {ns : List Int}
theorem Scr.sq (x : Scr h a vs ns) (k : K.In h) : SqL K (scrH K a (Scr.obj vs) (ns.map V.int)) a (ns.map V.int) := by
  cases e : K.lookup a with
  | none => exact Or.inl (Or.inr ⟨Scr.obj vs, if_pos ⟨rfl, e⟩⟩)
  | some o =>
    have eo : o = Scr.obj vs := Option.some.inj ((k a o e).symm.trans x.get)
    subst eo
    have r := vals_ints x.nums
    have n := x.few
    have m := r.length
    rw [List.length_map] at m
    exact Or.inr ⟨_, vs.toArray, _, e, rfl, rfl, rfl, by simp; omega, by simpa using r⟩
theorem Scr.ok (x : Scr h a vs ns) : HOk P w (scrH K a (Scr.obj vs) (ns.map V.int)) h := fun b u e => by
  obtain ⟨rfl, _, rfl⟩ := scrH_inv e
  exact ⟨x.get, by simpa using x.few, vs, _, vals_ints x.nums, x.get⟩
theorem Scr.spc (x : Scr h a vs ns) {b : Addr} {m : Str → Option Value} (n : h.Ns b m) : (hidT h (scrH K a (Scr.obj vs) (ns.map V.int))).Ns b m := by
  obtain ⟨o, es, ep, e, d, r⟩ := n
  refine ⟨o, es, ep, hidT_get e (scrH_off x.get e ?_), d, r⟩
  rintro rfl
  cases d
theorem Scr.kin (k : K.In h) : K.In (hidT h (scrH K a (Scr.obj vs) (ns.map V.int))) := fun b o e => hidT_get (k b o e) (scrH_K k ⟨o, e⟩)
end
theorem scr_call {P : Program} {w : World} {K : PySem.W.Frag} {mg mb : Str → Option Value} {CX : CXT} {k : Nat} {fa a : Addr} {fd : FuncData} {x : Str} {sp : Sp} {z : Shared} {vs : List Value} {ns : List Int}
    (kin : K.In z.heap) (glob : z.heap.Ns mainGlobals mg) (blt : z.heap.Ns builtinsNs mb) (bltOk : ∀ y : Str, y ≠ "__name__" → mb y = bootBuiltins y) (lim : z.heap.NoLimit) (noGen : z.gens = #[]) (scr : Scr z.heap a vs ns) (room : Room k callerA)
    (F : ∀ base : Heap, K.In base → base.Ns mainGlobals mg → FnG P w K mg base CX k fa fd [x] sp) (bind : ∀ (s : Shared) (u : Value), BindsTo s fd ⟨[u], []⟩ [(x, u)])
    (says : ∀ H : Hp, Only H → SqL K H a (ns.map V.int) → sp [.ref a] H (fun v _ => v = .bl true) fun _ _ _ => False) (calm : ∀ H e s', CX [] H z (fun _ _ _ => False) e s' → False) :
    codeAny (model P w) callerA (.call (.ref fa) ⟨[.ref a], []⟩) (fun r s' => r = .ok (.ret (.bool true)) ∧ OldK z.heap s'.heap ∧ s'.os = z.os ∧ AllBare s'.gens) z := by
  have noFr : ∀ b : Addr, b ∉ frs ([] : List Env) := fun b hb => nomatch hb
  have room0 : Env0 P w K mg (hidT z.heap (scrH K a (Scr.obj vs) (ns.map V.int))) callerA [] z (scrH K a (Scr.obj vs) (ns.map V.int)) :=
    ⟨rfl, ⟨Scr.kin kin, scr.spc glob, ⟨mb, scr.spc blt, bltOk⟩, lim.elim fun mc l => ⟨mc, scr.spc l.1, l.2⟩⟩, fun b o e => of_hidT e, Nat.le_of_eq (hidT_size _ _), trivial, fun b hb => absurd hb (noFr b), scr.ok, .of_eq noGen⟩
  refine codeAny_mono ((F _ (Scr.kin kin) (scr.spc glob)).runG callerA [] z _ ⟨[.ref a], []⟩ [.ref a] [.ref a] _ _ rfl room room0 (bind z (.ref a)) (.cons rfl .nil) (says _ scrH_only (scr.sq kin))) ?_
  intro r s' post
  match r, post with
  | .error e, post => exact (calm _ e s' post).elim
  | .ok (.ret u), ⟨v, H', os, bare, un, ok', rel, tr⟩ =>
    have tr : v = V.bl true := tr
    subst tr
    have eu : u = Value.bool true := rel
    subst eu
    refine ⟨rfl, OldK.of_keep ?_, os, bare⟩
    intro b o e
    by_cases t : scrH K a (Scr.obj vs) (ns.map V.int) b = none
    · exact un.keep b o e t (noFr b) (by simp)
    · obtain ⟨u, t⟩ := Option.ne_none_iff_exists'.mp t
      have tu := (scrH_inv t).2.2
      subst tu
      have here : o = Scr.obj vs := Option.some.inj (e.symm.trans (scr.ok (P := P) (w := w) b _ t).1)
      rw [here]
      exact (ok' b _ (un.frzs b _ _ t)).1
  | .ok .next, post => exact post.elim
  | .ok .brk, post => exact post.elim
  | .ok .cont, post => exact post.elim
theorem walk_ofG {l : PySem.W.OpenLaw} {n k : Nat} {q : Program} {loose : List Str} {XP : (Str → Option Value) → Heap → Prop} {YP : World → Heap → Prop} {d : DefRec} {CX : CXT} {x : Str}
    (most : l.most = some n) (line : n ≤ sizeLine) (nodef : d.params.defaults = []) (room : Room k callerA)
    (F : ∀ (w : World) (mg : Str → Option Value) (fa : Addr) (h : Heap), YP w h → h.Ns mainGlobals mg → mg d.name = some (.ref fa) → ∃ (K : PySem.W.Frag) (fd : FuncData) (sp : Sp), K.In h ∧ (∀ (s : Shared) (u : Value), BindsTo s fd ⟨[u], []⟩ [(x, u)]) ∧
      (∀ (H : Hp) (a : Addr) (ns : List Int), ns.length ≤ n → Only H → SqL K H a (ns.map V.int) → sp [.ref a] H (fun v _ => v = .bl true) fun _ _ _ => False) ∧ ∀ base : Heap, K.In base → base.Ns mainGlobals mg → FnG l.prog w K mg base CX k fa fd [x] sp)
    (calm : ∀ (H : Hp) (s : Shared) (e : Value) (s' : Shared), CX [] H s (fun _ _ _ => False) e s' → False) : PySem.W.WalkO q loose XP YP l.row.toRowW d [] (fun f vs => PySem.call f vs) :=
  Att.attach_call most nodef fun w _ s₁ mg _ fa _ _ _ _ a _ ns top y _ _ _ name ob nums few noGen =>
    let ⟨_, _, _, kin, bind, says, fn⟩ := F w mg fa _ y top.T.g name
    scr_call kin top.T.g top.T.b top.T.builtins top.T.nolimit noGen ⟨ob, nums, Nat.le_trans few line⟩ room fn bind (fun H only sq => says H a ns few only sq) fun H e s' => calm H s₁ e s'
theorem ints_rep {g : Gc} {S : Addr → Prop} {H : Hp} : ∀ ns : List Int, RpL g S H (ns.map T.int) (ns.map V.int) []
  | [] => ⟨rfl, rfl⟩
  | n :: ns => ⟨_, _, [], [], rfl, rfl, ⟨rfl, rfl⟩, ints_rep ns⟩
theorem tbO_only {g : Gc} {H : Hp} (h : g.tab = []) (o : Only H) : TbO g H := ⟨fun p hp => by rw [h] at hp; cases hp⟩
theorem sp_start {g : Gc} {c : Cal} {ns : List Int} {a : Addr} {H : Hp} {E : XK} (h : c [.nd .scr (ns.map T.int)] = some (.bl true, [])) (hS : SqL g.K H a (ns.map V.int)) (hT : TbO g H) : spT g [] c [.ref a] H (fun v _ => v = .bl true) E := by
  refine ⟨fun b => b = a ∧ ∃ o, H b = some o ∧ ∀ ps, o ≠ .tbl ps, [.nd .scr (ns.map T.int)], [], .bl true, [], RpL.one ⟨a, _, [], rfl, ?_, rfl, .inr (.inr rfl), ints_rep ns⟩, List.nodup_nil, (fun _ z => nomatch z), ⟨fun b hb => hb.2, hT⟩, h, fun x H' S' Ar Ao rx _ _ _ _ _ => rx.1⟩
  rcases hS with hS | hS
  · refine .inl ⟨hS, rfl, ?_⟩
    rcases hS with e | ⟨o, e⟩
    · exact ⟨_, e, fun _ z => nomatch z⟩
    · exact ⟨_, e, fun _ z => nomatch z⟩
  · exact .inr hS
end MI
namespace MI
open PySem PySem.Spec PyProof.Rows L2
def mConsL (s : Nat) (fs : M (List T)) : M (List T) := fun Ts => match slot Ts s with
  | .dead => none
  | _ => (bnd fs fun ts => bnd (mLn s) fun t => ret (t :: ts)) Ts
section
variable {g : Gc} {X : Cx} {e : Expr} {es : List Expr} {fs : M (List T)} {e2 b2 : List Nat} {ln : List (Option Nat)}
end
end MI
namespace MI
open PySem PySem.Spec PyProof.Rows L2
section
variable {g : Gc} {X : Cx} {o e : Expr} {fa fb : M T} {fs : M (List T)} {e1 e2 b1 b2 : List Nat} {apos cpos pos p p1 p2 p3 pos2 : Pos} {k : Nat}
def mMet1 (ck : T → Bool) (f : T → T → Option T) (fa fb : M T) : M T := bnd fa fun a => if ck a then bnd fb fun b => lft (f a b) else fun _ => none
end
end MI
namespace MI
open PySem PySem.Spec PyProof.Rows L2
section
variable {g : Gc} {X : Cx} {fa fb : M T} {e1 e2 e3 : List Nat} {pos : Pos}
abbrev KT := List (Key × T)
def TPr (g : Gc) (fp : M KT) (eff : List Nat) : L2.St → Hp → (List (V × V) → Hp → Prop) → Prop := fun σ H Q => ∃ S Ts A ps Ts', SR g S H σ Ts A ∧ fp Ts = some (ps, Ts') ∧
  ∀ (kvs : List (Key × V)) H' S' A', SR g S' H' σ Ts' A' → kvs.map Prod.fst = ps.map Prod.fst → RpL g S' H' (ps.map Prod.snd) (kvs.map Prod.snd) [] → Po S H A S' H' A' → Stb eff H Ts A H' Ts' A' → Q (kvs.map fun kv => (kV kv.1, kv.2)) H'
structure PPm (g : Gc) (X : Cx) (pos : Pos) (keys : List (Option Expr)) (values : List Expr) (fp : M KT) (eff : List Nat) : Prop where
  ex : ∃ trs, PPs X pos keys values trs ∧ ∀ σ H Q, TPr g fp eff σ H Q → tPairs trs σ H Q
def mPnil : M KT := ret []
def mPcons (fk fv : M T) (fp : M KT) : M KT := bnd fk fun k => bnd fv fun v => bnd (lft (if v.imm then keyOf k else none)) fun q => bnd fp fun ps => ret ((q, v) :: ps)
def keysDif (ps : KT) : Bool := decide ((ps.map Prod.fst).Nodup) && decide (ps.length ≤ 15)
def mDispN (fp : M KT) : M T := bnd fp fun ps => lft (if keysDif ps then some (.nd (.dK true (ps.map Prod.fst)) (ps.map Prod.snd)) else none)
end
end MI
namespace MI
open PySem PySem.Spec PyProof.Rows L2
theorem FnG.none {P : Program} {w : World} {K : PySem.W.Frag} {mg : Str → Option Value} {base : Heap} {CX : CXT} {k : Nat} {f : Addr} {fd : FuncData} {ps : List Str} {g : Gc} {io : List Nat} : FnG P w K mg base CX k f fd ps (spT g io fun _ => Option.none) :=
  ⟨fun _ _ _ _ ⟨_, _, _, _, _, _, _, _, _, e, _⟩ => (nomatch e), fun _ _ _ _ _ _ _ _ _ _ _ _ _ _ ⟨_, _, _, _, _, _, _, _, _, e, _⟩ => (nomatch e)⟩
end MI
namespace MI
open PySem PySem.Spec PyProof.Rows L2
section
variable {prog : Program} {w : World} {A : Around} {E : Value → Shared → Prop} {s : Shared} {t sl : Addr} {its : List Value} {vl vu vs : Value}
end
section
variable {g : Gc} {X : Cx} {e : Expr} {fa : M T} {e1 b1 : List Nat} {pos p1 p2 p3 : Pos}
theorem pe_or {t t' : TE} (h : PE X e t) (h' : PE X e t') : PE X e (fun σ H Q => t σ H Q ∨ t' σ H Q) := ⟨fun pins s σ H Q I q => q.elim (h.run pins s σ H Q I) (h'.run pins s σ H Q I)⟩
end
end MI
namespace MI
open PySem PySem.Spec PyProof.Rows L2
section
variable {prog : Program} {w : World} {A : Around} {E : Value → Shared → Prop} {s : Shared}
end
section
variable {X : Cx}
end
section
variable {g : Gc} {X : Cx} {e : Expr} {fa : M T} {e1 b1 : List Nat} {pos pos2 p p2 : Pos}
end
end MI
namespace MI
open PySem PySem.Spec PyProof.Rows L2
section
variable {g : Gc} {S : Addr → Prop} {H : Hp} {σ : L2.St} {Ts : List T} {A : Nat → List Addr} {i : Nat} {d : Addr} {od : Obj} {u : HO}
end
section
variable {g : Gc} {X : Cx} {tg iter : Expr} {body : List Stmt} {i : Nat} {fld : Option (Str × Str)} {w : Wd} {m : T → M Unit} {f : M Fl} {a1 a2 e2 : List Nat} {pos : Pos}
end
section
variable {g : Gc} {X : Cx} {tg e : Expr} {fa : M T} {e1 b1 : List Nat} {pos p2 : Pos}
end
section
variable {g : Gc} {S : Addr → Prop} {H : Hp}
end
def isDk : T → Bool
  | .nd (.dK _ _) _ => true
  | _ => false
section
variable {g : Gc} {X : Cx} {o e : Expr} {mp : M (List Nat)} {fa : M T} {e1 e2 : List Nat} {i : Nat} {p2 pos : Pos}
end
end MI
namespace MI
open PySem PySem.Spec PyProof.Rows L2
section
variable {prog : Program} {w : World} {A : Around} {E : Value → Shared → Prop} {s : Shared} {z TI TO i1 i2 : Addr} {fp1 fp2 : List Addr} {n1 n2 i : Nat} {P1 P2 : Nat → Value → Prop} {St1 St2 : Nat → Heap → Prop}
end
structure ZipNew (h : Heap) (z TI TO i1 i2 : Addr) (St1 St2 : Nat → Heap → Prop) : Prop where
  zip : IsZip h z TI TO .none
  its : IsTupOf2 h TI (.ref i1) (.ref i2)
  own : ∃ a b, IsTupOf2 h TO a b
  st1 : St1 0 h
  st2 : St2 0 h
structure ZipOn (h : Heap) (d z TI TO i1 i2 : Addr) (St1 St2 : Nat → Heap → Prop) (i : Nat) : Prop where
  its : IsTupOf2 h TI (.ref i1) (.ref i2)
  st1 : St1 i h
  st2 : St2 i h
  zip : (IsZip h z TI TO .none ∧ ∃ a b, IsTupOf2 h TO a b) ∨ ∃ T f oT, IsZipHeld h z TI TO T f ∧ h.get? T = some oT ∧ T ≠ z ∧ T ≠ i1 ∧ T ≠ i2 ∧ T ≠ d
section
variable {prog : Program} {w : World} {z TI TO i1 i2 : Addr} {fp1 fp2 : List Addr} {n : Nat} {P1 P2 : Nat → Value → Prop} {St1 St2 : Nat → Heap → Prop}
end
end MI
namespace MI
open PySem PySem.Spec PyProof.Rows L2
section
variable {K : Type} [DecidableEq K]
end
structure Src (prog : Program) (w : World) (a : Addr) (its : List Value) (s : Shared) where
  o : Obj
  G : Heap → Prop
  B : Begins (.ref a) o G
  g : G s.heap
  St : Addr → Nat → Heap → Prop
  draws : ∀ (it : Addr) (A : Around), a ≠ it → A.handled = none → Draws prog w A it [it, a] its.length (fun i v => its[i]? = some v) (St it)
  live : ∀ it i h, St it i h → ∀ b ∈ [it, a], ∃ o, h.get? b = some o
  new : ∀ it h, h.get? it = some o → (∀ c ob, s.heap.get? c = some ob → h.get? c = some ob) → St it 0 h
  lt : a < s.heap.objs.size
section
variable {X : Cx} {e e' : Expr} {ta : TA} {p p2 q pos : Pos}
end
end MI
namespace MI
open PySem PySem.Spec PyProof.Rows L2
def keysL : List T → Option (List Key)
  | [] => some []
  | t :: ts => (keyOf t).bind fun k => (keysL ts).map fun ks => k :: ks
def txt1 : List Key → Bool
  | .inl _ :: _ => false
  | _ => true
def keysT : T → Option (List Key)
  | .nd .tup ts => (keysL ts).bind fun ks => if txt1 ks then some ks else none
  | _ => none
section
variable {g : Gc} {S : Addr → Prop} {H : Hp}
end
section
variable {g : Gc} {X : Cx} {e e' : Expr} {fs : M (List T)} {e1 b1 : List Nat} {p p2 q pos : Pos} {k : Nat}
end
end MI
namespace MI
open PySem PySem.Spec PyProof.Rows L2
section
variable {X : Cx} {y : Str} {py : Pos} {i : Nat}
end
section
variable {g : Gc} {X : Cx} {tg iter kx vx : Expr} {ifs : List Expr} {mi : M (List T)} {m : T → M Unit} {tt : M Bool} {tk tv : M T} {a1 e1 e2 e3 e4 b1 : List Nat} {pos spos py : Pos} {y : Str} {scope : Scope}
end
end MI
namespace MI
open PySem PySem.Spec PyProof.Rows L2
def rowOf : T → Option (List T)
  | .nd (.lst _) ts => some ts
  | _ => none
def runL (np n : Nat) (fa : M T) : List T → Option (List T) := fun ts => if ts.length = np then (match fa (ts ++ List.replicate (n - np) .dead) with
  | some (t, _) => rowOf t
  | none => none) else none
section
variable {g : Gc} {P : Program} {w : World} {K : PySem.W.Frag} {mg : Str → Option Value} {base : Heap} {x qual : Str} {params : Arguments} {scope : Scope} {dvs : List V} {kws : List (Str × V)} {f : Addr} {fd : FuncData}
end
def fPlace (ts : List T) (b : T) : Option T := if purL ts && okD 50 b && okDL 50 ts then (ts.findIdx? fun t => eqT t b).map fun (j : Nat) => .int j else none
def mPlace (c : List T → Option (List T)) (cls : Str) (fa fb : M T) : M T := bnd (mIns cls Str.empty fa) fun t => if t.imm then bnd (lft (c [t])) fun ts => bnd fb fun b => lft (fPlace ts b) else fun _ => none
section
variable {g : Gc} {X : Cx} {e1 e2 b2 : List Nat} {fa fb : M T} {cls : Str} {c : List T → Option (List T)}
end
theorem ts_try0 {g : Gc} {X : Cx} {body : List Stmt} {h0 : ExceptHandler} {hs : List ExceptHandler} {pos : Pos} {f : M Fl} {a e : List Nat} (h : PSsm g X.nox body f a e) : PSm g X (.Try body (h0 :: hs) [] [] pos) f a e := ps_try_thru0 h
end MI
namespace MI
open PySem PySem.Spec PyProof.Rows L2 He
section
variable {g : Gc} {X : Cx} {C : Addr} {W : WX} {st : Stmt} {rest s1 s2 : List Stmt} {m : M Fl} {f : M Unit} {fc : M Bool} {a1 a2 e1 e2 : List Nat} {pos : Pos} {c : Expr}
end
section
variable {g : Gc} {P : Program} {w : World} {K : PySem.W.Frag} {mg : Str → Option Value} {base : Heap} {x qual : Str} {params : Arguments} {body : List Stmt} {scope : Scope} {dvs : List V} {kws : List (Str × V)} {fa C : Addr} {fd : FuncData}
end
section
variable {g : Gc} {X : Cx} {f C : Addr} {k : Nat} {fd : FuncData} {ps : List Str} {cx : List T → Bool} {W : WX} {x : Str} {p pos spos : Pos} {e tg : Expr} {es : List Expr} {fs : M (List T)} {eff bo : List Nat}
end
section
variable {g : Gc} {X : Cx} {C : Addr} {c : Value} {x : Str} {body suite : List Stmt} {b0 : Stmt} {np pos pos' : Pos} {m h : M Fl} {fx : M Unit} {a1 a2 a3 e1 e2 e3 : List Nat}
end
end MI
namespace MI
open PySem PySem.Spec PyProof.Rows L2 He
section
variable {g : Gc} {X : Cx} {x : Str} {pos : Pos} {ns : List Int}
theorem gTup (h : X.mg x = some (.ref (ga X.K x)) ∧ KTup X.K (ga X.K x) (ns.map V.int)) (hK : g.K = X.K := by rfl) (hg : Gl X x := by rfl) (hd : (x == ("__debug__" : Str)) = false := by decide) : PEm g X (.Name x pos) (mC (.nd .tup (ns.map T.int))) [] [] := by
  refine tm_glob hg h.1 (v := .ref (ga X.K x)) rfl (fun S H => ?_) hd
  have r : ∀ ns : List Int, RpL g S H (ns.map T.int) (ns.map V.int) [] := fun ns => by
    induction ns with
    | nil => exact ⟨rfl, rfl⟩
    | cons n ns ih => exact ⟨.int n, ns.map V.int, [], [], rfl, rfl, ⟨rfl, rfl⟩, ih⟩
  exact ⟨ga X.K x, ns.map V.int, [], rfl, .inr (hK ▸ h.2), rfl, .inr (.inr rfl), r ns⟩
end
end MI
namespace MI
open PySem PySem.Spec PyProof.Rows L2
section
variable {g : Gc} {S : Addr → Prop} {H : Hp}
end
section
variable {g : Gc} {X : Cx}
end
end MI
namespace MI
open PySem PySem.Spec PyProof.Rows L2
section
variable {g : Gc} {S1 : Addr → Prop} {H1 : Hp} {A1 : Nat → List Addr} {Ts1 : List T} {σ : L2.St} {m : T → M Unit} {tt : M Bool} {te : M T} {a1 e2 e3 : List Nat} {vs : List Nat} {i0 : Nat} {d : Addr} {od : Obj} {ks : List (List Key)} {xs : List V} {wi : TI}
end
section
variable {g : Gc} {S : Addr → Prop} {H H' : Hp} {d : Addr} {kvs : List (List Key × V)}
end
section
variable {g : Gc} {X : Cx} {σ : L2.St} {tg iter elt : Expr} {m : T → M Unit} {tt : M Bool} {te : M T} {a1 e2 e3 : List Nat} {vs : List Nat} {i : Nat} {wi : TI} {pos : Pos}
end
section
variable {g : Gc} {X : Cx} {o b : Expr} {fa fk : M T} {mp : M (List Nat)} {e1 e2 e3 b1 b3 : List Nat} {pos p2 : Pos} {i k : Nat}
end
end MI
namespace MI
open PySem PySem.Spec PyProof.Rows L2
section
variable {g : Gc} {S1 : Addr → Prop} {H1 : Hp} {A1 : Nat → List Addr} {Ts1 : List T} {σ : L2.St} {m : T → M Unit} {f : M Fl} {a1 a2 e2 : List Nat} {i0 : Nat} {d : Addr} {od : Obj} {ks : List (List Key)} {xs : List V} {wi : TI}
end
section
variable {g : Gc} {X : Cx} {σ : L2.St} {tg iter : Expr} {m : T → M Unit} {f : M Fl} {a1 a2 e2 : List Nat} {i : Nat} {wi : TI} {pos : Pos} {body : List Stmt}
end
end MI
namespace MI
open PySem PySem.Spec PyProof.Rows L2 He
section
variable {X : Cx} {C a : Addr} {oe : Obj} {pn : List (Addr × Obj)} {n x z : Str} {i : Nat} {p p2 p3 pos : Pos} {e1 e2 e3 : Expr}
end
section
variable {g : Gc} {X : Cx} {C : Addr} {c : Value} {x n : Str} {i : Nat} {s : Str} {body : List Stmt} {e : Expr} {np pos pos' rp : Pos} {m : M Fl} {fx : M Unit} {a1 a2 e1 e2 : List Nat}
end
end MI
namespace MI
open PySem PySem.Spec PyProof.Rows L2
section
variable {prog : Program} {w : World} {A : Around} {E : Value → Shared → Prop} {s : Shared}
end
section
variable {X : Cx} {g : Gc}
end
end MI
namespace MI
open PySem PySem.Spec PyProof.Rows L2
abbrev Sp := Sum Int Str
def spW : Sp → Str
  | .inl _ => "datum"
  | .inr _ => "sum"
section
variable {prog : Program} {w : World} {A : Around} {E : Value → Shared → Prop} {s : Shared}
def leafIs (u : Value) : Sp → Prop
  | .inl n => ∃ t, u = .int n t
  | .inr z => ∃ t, u = .str z t
def SpAt (h : Heap) (v : Value) (k : Sp) : Prop := ∃ a o t u n, v = .ref a ∧ h.get? a = some o ∧ o.cls = .type "tuple" ∧ o.data = .seq #[.str (spW k) t, u] n ∧ leafIs u k
theorem SpAt.keeps {h h' : Heap} {v : Value} {k : Sp} (p : SpAt h v k) (keep : ∀ b o, h.get? b = some o → o.cls = .type "tuple" → h'.get? b = some o) : SpAt h' v k :=
  p.elim fun a p => p.elim fun o p => p.elim fun t p => p.elim fun u p => p.elim fun n p => ⟨a, o, t, u, n, p.1, keep a o p.2.1 p.2.2.1, p.2.2⟩
end
section
variable {X : Cx} {pins : List (Addr × Obj)} {σ : L2.St} {H : Hp} {s : Shared}
open Classical in
noncomputable def spAtK (h : Heap) (v : Value) : Sp := if q : ∃ k, SpAt h v k then q.choose else .inl 0
end
section
variable {g : Gc} {S : Addr → Prop} {H : Hp}
end
section
variable {X : Cx} {g : Gc}
end
end MI
namespace MI
open PySem PySem.Spec PyProof.Rows L2
section
variable {g : Gc} {X : Cx} {k : Nat}
section
variable {fa fb fc : M T} {e1 e2 e3 b1 b2 b3 : List Nat}
end
end
end MI
namespace MI
open PySem PySem.Spec PyProof.Rows L2
section
variable {g : Gc} {X : Cx} {k : Nat}
variable {e : Expr} {es : List Expr} {fs : M (List T)} {e1 b1 : List Nat} {pos p2 : Pos}
end
end MI
namespace MI
open PySem PySem.Spec PyProof.Rows L2
section
variable {g : Gc} {X : Cx} {e : Expr} {fa : M T} {e1 b1 : List Nat} {pos p1 p2 p3 : Pos}
end
end MI
namespace MI
open PySem PySem.Spec PyProof.Rows L2
section
variable {prog : Program} {w : World} {A : Around} {E : Value → Shared → Prop} {s : Shared}
end
section
variable {g : Gc} {X : Cx} {a : Expr} {fa : M T} {e1 b1 : List Nat} {p p2 q pos : Pos}
end
end MI
namespace MI
open PySem PySem.Spec PyProof.Rows L2
section
variable {prog : Program} {w : World} {A : Around} {E : Value → Shared → Prop} {s : Shared}
end
section
variable {X : Cx} {g : Gc}
end
end MI
namespace MI
open PySem PySem.Spec PyProof.Rows L2
section
variable {X : Cx} {pins : List (Addr × Obj)} {σ : L2.St} {H : Hp} {s : Shared}
end
def duosT : List T → Option (List (List Key) × List T)
  | [] => some ([], [])
  | .nd .tup [k, v] :: ts => (keysT k).bind fun q => if v.imm then (duosT ts).map fun r => (q :: r.1, v :: r.2) else none
  | _ => none
section
variable {g : Gc} {X : Cx} {k : Nat}
variable {e : Expr} {es : List Expr} {fs : M (List T)} {e1 b1 : List Nat} {pos p2 : Pos}
end
end MI
namespace MI
open PySem PySem.Spec PyProof.Rows L2
def signs (z : Str) : List Str := z.cps.toList.map fun c => ⟨#[c]⟩
section
variable {g : Gc} {X : Cx} {e : Expr} {es : List Expr} {fs : M (List T)} {e1 b1 : List Nat} {pos p2 : Pos}
end
end MI
namespace MI
open PySem PySem.Spec PyProof.Rows L2
section
variable {g : Gc} {X : Cx} {e : Expr} {es : List Expr} {fs : M (List T)} {e1 b1 : List Nat} {pos p2 : Pos}
end
end MI
namespace MI
open PySem PySem.Spec PyProof.Rows L2
section
variable {P : Program} {w : World} {K : Type} [DecidableEq K] {knd : KeyKind P w K}
structure Laid (knd : KeyKind P w K) (rows : Array (Int × Value)) (tb : SetTable) : Prop where
  el : ElemsOf knd rows.toList
  few : rows.size < scanBound
  fit : tb.fits rows.size = true
  ris : Ris tb.place.toList
  led : w.params.followText "set-order" = true ∨ tb.led = true
structure SetW (knd : KeyKind P w K) (h : Heap) (a : Addr) (mem : K → Bool) (n : Nat) : Prop where
  ex : ∃ o rows ep tb, h.get? a = some o ∧ o.ExactSet ∧ o.data = .set rows ep tb ∧ Laid knd rows tb ∧ (∀ k, mem k = true ↔ ∃ r ∈ rows.toList, knd.is k r.2 = true) ∧ rows.size = n
theorem SetW.stays {h h' : Heap} {a : Addr} {mem : K → Bool} {n : Nat} (W : SetW knd h a mem n) (k : ∀ o, h.get? a = some o → h'.get? a = some o) : SetW knd h' a mem n :=
  ⟨let ⟨o, rows, ep, tb, h1, r⟩ := W.ex; ⟨o, rows, ep, tb, k o h1, r⟩⟩
theorem Laid.again {rows : Array (Int × Value)} {tb : SetTable} (L : Laid knd rows tb) (n : Nat) : Laid knd (relayAll tb rows n).1 (relayAll tb rows n).2.1 ∧ (relayAll tb rows n).1.toList.Perm rows.toList := by
  have pm := relayAll_perm tb rows n
  have sz : (relayAll tb rows n).1.size = rows.size := by rw [← Array.length_toList, pm.length_eq, Array.length_toList]
  exact ⟨⟨L.el.perm pm, sz ▸ L.few, relayAll_fits tb rows n, relayAll_ris tb rows n, L.led.imp id fun z => (relayAll_led tb rows n).trans z⟩, pm⟩
theorem Laid.more {rows : Array (Int × Value)} {tb : SetTable} (L : Laid knd rows tb) {k : K} {x : Value} (hk : knd.is k x = true) (hx : x.scannable = true) (room : rows.size + 1 < scanBound) :
    Laid knd (layNew tb rows (knd.hash k) x).1 (layNew tb rows (knd.hash k) x).2.1 ∧ (layNew tb rows (knd.hash k) x).1.toList.Perm (rows.toList ++ [(knd.hash k, x)]) := by
  have pm := layNew_perm tb rows (knd.hash k) x
  rw [Array.toList_push] at pm
  have sz : (layNew tb rows (knd.hash k) x).1.size = rows.size + 1 := by rw [← Array.length_toList, pm.length_eq, List.length_append, Array.length_toList]; rfl
  exact ⟨⟨(L.el.push hk hx).perm pm, sz ▸ room, layNew_fits tb rows _ x, layNew_ris tb rows _ x L.ris, L.led.imp id fun z => (layNew_led tb rows _ x).trans z⟩, pm⟩
theorem Laid.off {rows : Array (Int × Value)} {tb : SetTable} (L : Laid knd rows tb) : Laid knd rows { tb with plain := false } := ⟨L.el, L.few, SetTable.fits_plain_off L.fit, L.ris, L.led⟩
variable {A : Around} {E : Value → Shared → Prop} {s : Shared} {a : Addr}
end
section
variable {P : Program} {w : World} {K : Type} [DecidableEq K] {knd : KeyKind P w K} {A : Around} {E : Value → Shared → Prop} {s : Shared} {a : Addr}
end
section
variable {prog : Program} {w : World} {A : Around} {R : Result → Shared → Prop} {I S : Addr} {fp wr : List Addr} {G : Array GenState → Array GenState → Prop} {n : Nat} {P : Nat → Value → Prop} {St : Nat → Shared → Prop} {K : Type} [DecidableEq K]
end
section
variable {prog : Program} {w : World} {A : Around} {E : Value → Shared → Prop} {s : Shared}
end
section
variable {prog : Program} {w : World} {A : Around} {E : Value → Shared → Prop} {s : Shared} {a : Addr}
end
section
variable {g : Gc} {X : Cx} {a b : Expr} {fa fb : M T} {e1 b1 e2 b2 : List Nat} {p p2 q pos : Pos}
end
section
variable {g : Gc} {X : Cx} {a b : Expr} {fa fb : M T} {e1 b1 e2 b2 : List Nat} {p3 pos : Pos}
end
section
variable {g : Gc} {S1 : Addr → Prop} {H1 : Hp} {A1 : Nat → List Addr} {Ts1 : List T} {σ : L2.St} {m : T → M Unit} {tt : M Bool} {te : M T} {a1 e2 e3 : List Nat} {vs : List Nat} {i0 : Nat} {d : Addr} {od : Obj} {ks : List (List Key)} {xs : List V} {wi : TI}
end
section
variable {g : Gc} {X : Cx} {tg iter elt : Expr} {m : T → M Unit} {tt : M Bool} {te : M T} {a1 e2 e3 : List Nat} {vs : List Nat} {i : Nat} {wi : TI} {pos : Pos}
end
end MI
namespace MI
open PySem PySem.Spec PyProof.Rows L2
section
variable {P : Program} {w : World} {A : Around} {E : Value → Shared → Prop} {s : Shared}
abbrev isK (P : Program) (w : World) (h : Heap) (k : List Key) (b : Addr) : Prop := IsTupleKey (mixKind P w) h k b
abbrev hashK (P : Program) (w : World) (k : List Key) : Int := tupleKeyHash (mixKind P w) k
end
def rowK (P : Program) (w : World) (p : Addr × List Key) : Int × Value := (hashK P w p.2, .ref p.1)
structure KSet (P : Program) (w : World) (h : Heap) (a : Addr) (L : List (Addr × List Key)) (rows : Array (Int × Value)) (ep : Nat) (tb : SetTable) : Prop where
  ob : ∃ o, h.get? a = some o ∧ o.ExactSet ∧ o.data = .set rows ep tb
  eq : rows.toList = L.map (rowK P w)
  tab : TabOk tb (L.map fun p => hashK P w p.2)
  nd : (L.map (·.2)).Nodup
  tup : ∀ p ∈ L, isK P w h p.2 p.1
  led : w.params.followText "set-order" = true ∨ tb.led = true
  few : L.length ≤ 8
  room : L.length * 5 < tb.mask * 3
section
variable {P : Program} {w : World} {A : Around} {E : Value → Shared → Prop} {s : Shared} {a : Addr} {L : List (Addr × List Key)} {rows : Array (Int × Value)} {ep : Nat} {tb : SetTable}
theorem KSet.count (R : KSet P w s.heap a L rows ep tb) : rows.size = L.length := by
  rw [← Array.length_toList, R.eq, List.length_map]
theorem KSet.fits (R : KSet P w s.heap a L rows ep tb) : tb.fits rows.size = true := by
  have h1 := R.tab.sz
  have h2 := R.count
  have h3 := R.few
  have h4 := R.room
  rw [List.length_map] at h1
  unfold SetTable.fits SetTable.fill
  rw [R.tab.dm, Bool.and_eq_true, beq_iff_eq, decide_eq_true_eq]
  show tb.place.size = rows.size ∧ tb.place.size + 0 ≤ tb.mask
  omega
theorem KSet.row (R : KSet P w s.heap a L rows ep tb) {i : Nat} {p : Addr × List Key} (h : L[i]? = some p) : rows[i]? = some (hashK P w p.2, .ref p.1) := by
  rw [← Array.getElem?_toList, R.eq, List.getElem?_map, h]; rfl
theorem KSet.place (R : KSet P w s.heap a L rows ep tb) {i j : Nat} (h : tb.place.toList[i]? = some j) : ∃ p, L[i]? = some p := by
  have h1 : i < tb.place.toList.length := (List.getElem?_eq_some_iff.mp h).1
  have h2 := R.tab.sz
  rw [List.length_map] at h2
  rw [Array.length_toList] at h1
  exact ⟨L[i]'(by omega), List.getElem?_eq_getElem _⟩
abbrev stand (P : Program) (w : World) (m : Nat) (k : List Key) (c : Nat) : SetTable.Probe := nth m (runAt m (SetTable.bits (hashK P w k) % (m + 1)) (SetTable.bits (hashK P w k))) c
end
section
variable {P : Program} {w : World} {A : Around} {E : Value → Shared → Prop} {s : Shared} {a : Addr} {L : List (Addr × List Key)} {rows : Array (Int × Value)} {ep : Nat} {tb : SetTable}
end
section
variable {P : Program} {w : World} {h h' : Heap} {a : Addr} {L : List (Addr × List Key)} {rows : Array (Int × Value)} {ep : Nat} {tb : SetTable}
theorem isK_keep {k : List Key} {b : Addr} (x : isK P w h k b) (e : ∀ o, h.get? b = some o → h'.get? b = some o) : isK P w h' k b :=
  let ⟨o, items, n, h1, r⟩ := x; ⟨o, items, n, e o h1, r⟩
theorem KSet.stays (R : KSet P w h a L rows ep tb) (e : ∀ o, h.get? a = some o → h'.get? a = some o) (t : ∀ p ∈ L, ∀ o, h.get? p.1 = some o → h'.get? p.1 = some o) : KSet P w h' a L rows ep tb :=
  { R with ob := let ⟨o, h1, r⟩ := R.ob; ⟨o, e o h1, r⟩, tup := fun p hp => isK_keep (R.tup p hp) (t p hp) }
theorem KSet.ne (R : KSet P w h a L rows ep tb) {k : List Key} {b : Addr} (x : isK P w h k b) : b ≠ a := fun z => by
  obtain ⟨o, h1, _, h3⟩ := R.ob
  obtain ⟨o', items, n, g1, _, g3, _⟩ := x
  rw [z, h1] at g1
  injection g1 with g1
  rw [← g1, h3] at g3
  cases g3
end
section
variable {prog : Program} {w : World} {A : Around} {R : Result → Shared → Prop} {I S : Addr} {fp wr : List Addr} {G : Array GenState → Array GenState → Prop} {n : Nat} {P : Nat → Value → Prop} {St : Nat → Shared → Prop}
end
section
variable {prog : Program} {w : World} {A : Around} {E : Value → Shared → Prop} {s : Shared}
end
end MI
namespace MI
open PySem PySem.Spec PyProof.Rows L2
section
variable {P : Program} {w : World} {A : Around} {E : Value → Shared → Prop} {s : Shared} {a b : Addr} {L M : List (Addr × List Key)} {rows rows2 : Array (Int × Value)} {ep ep2 : Nat} {tb tb2 : SetTable}
end
section
variable {g : Gc} {X : Cx} {a b : Expr} {fa fb : M T} {e1 b1 e2 b2 : List Nat} {p1 p2 q1 q2 pos : Pos} {k : Nat}
section
variable {S : Addr → Prop} {H : Hp}
end
end
end MI
namespace MI
open PySem PySem.Spec PyProof.Rows L2 He
section
variable {P : Program} {w : World} {K : PySem.W.Frag} {mg : Str → Option Value} {base : Heap} {x qual : Str} {params : Arguments} {body : List Stmt} {scope : Scope} {dvs : List V} {kws : List (Str × V)} {fa C : Addr} {fd : FuncData} {CX : CXT}
end
section
variable {g : Gc} {fl : Str} {X : Cx} {C : Addr} {W : WX} {st : Stmt} {rest s1 s2 : List Stmt} {m : M Fl} {f : M T} {fc : M Bool} {a1 a2 e1 e2 : List Nat} {pos : Pos} {c : Expr}
end
section
variable {g : Gc} {fl : Str} {P : Program} {w : World} {K : PySem.W.Frag} {mg : Str → Option Value} {base : Heap} {x qual : Str} {params : Arguments} {body : List Stmt} {scope : Scope} {dvs : List V} {kws : List (Str × V)} {fa C : Addr} {fd : FuncData}
end
section
variable {g : Gc} {fl : Str} {X : Cx} {f C : Addr} {k : Nat} {fd : FuncData} {ps : List Str} {sp : L2.Sp} {cx : List T → Option T} {W : WX} {x : Str} {p pos spos : Pos} {e tg : Expr} {es : List Expr} {fs : M (List T)} {eff bo : List Nat} {ta : TA}
theorem SR.more {S S2 : Addr → Prop} {H H2 : Hp} {σ : L2.St} {Ts : List T} {A : Nat → List Addr} (R : SR g S H σ Ts A) (ext : ∀ a o, H a = some o → fixO H2 a o) (sub : ∀ a, S a → S2 a) (new : ∀ a, S2 a → S a ∨ noT (H a) = none) (st : StT g S2 H2) : SR g S2 H2 σ Ts A where
  rep := fun i => (R.rep i).imp id fun ⟨x, e, r⟩ => ⟨x, e, Rp.keepF (M := fun _ => False) (fun a o h _ => ext a o h) (fun _ z => z.elim) (fun _ _ z => z) sub _ _ _ r fun _ _ z => z⟩
  nd := R.nd
  dj := R.dj
  ns := fun i a ha h => (new a h).elim (R.ns i a ha) fun n => mut_ne (R.cells i a ha) n
  len := R.len
  st := st
end
end MI
namespace MI
open PySem PySem.Spec PyProof.Rows L2 He
abbrev Bes := L2.St → (Addr → Prop) → Hp → Prop
structure Keeps (g : Gc) (P : Bes) : Prop where
  po : ∀ {σ : L2.St} {S : Addr → Prop} {H : Hp} {Ts : List T} {A : Nat → List Addr} {S' : Addr → Prop} {H' : Hp} {A' : Nat → List Addr}, SR g S H σ Ts A → Po S H A S' H' A' → P σ S H → P σ S' H'
structure Pay (g : Gc) (i : Nat) (a dd : Addr) (fl : Str) (t : T) (v : V) (σ : L2.St) (S : Addr → Prop) (H : Hp) : Prop where
  sl : σ[i]? = some (some (.ref a))
  xd : H dd = some (.xd [(fl, v)])
  rp : Rp g S H t v []
def TMP (g : Gc) (P : Bes) (f : M T) (eff bo : List Nat) : TE := fun σ H Q => ∃ S Ts A t Ts', SR g S H σ Ts A ∧ P σ S H ∧ f Ts = some (t, Ts') ∧
  ∀ x H' S' A' Ax, SR g S' H' σ Ts' A' → Rp g S' H' t x Ax → Ow bo H A S' A' Ax → Po S H A S' H' A' → Stb eff H Ts A H' Ts' A' → Q x H'
def TMPs (g : Gc) (P : Bes) (f : M (List T)) (eff bo : List Nat) : TA := fun σ H Q => ∃ S Ts A ts Ts', SR g S H σ Ts A ∧ P σ S H ∧ f Ts = some (ts, Ts') ∧
  ∀ xs H' S' A' Ax, SR g S' H' σ Ts' A' → RpL g S' H' ts xs Ax → Ow bo H A S' A' Ax → Po S H A S' H' A' → Stb eff H Ts A H' Ts' A' → Q xs H'
section
variable {g : Gc} {P : Bes} {X : Cx} {e a b : Expr} {es : List Expr} {f fa fb : M T} {fs : M (List T)} {e1 e2 b1 b2 : List Nat} {pos p2 : Pos}
theorem TMPs.to {σ : L2.St} {H : Hp} {f' : List T → Option T} {Q : VK} (h : TMP g P (mF f' fs) e1 [] σ H Q) : ∃ S Ts A t ts Ts', SR g S H σ Ts A ∧ P σ S H ∧ fs Ts = some (ts, Ts') ∧ f' ts = some t ∧
    ∀ x H' S' A' Ax, SR g S' H' σ Ts' A' → Rp g S' H' t x Ax → Ow [] H A S' A' Ax → Po S H A S' H' A' → Stb e1 H Ts A H' Ts' A' → Q x H' := by
  obtain ⟨S, Ts, A, t, Ts', R, pp, e, k⟩ := h
  obtain ⟨ts, Ts1, ea, e⟩ := bnd_some e
  obtain ⟨ef, rfl⟩ := lft_some e
  exact ⟨S, Ts, A, t, ts, Ts', R, pp, ea, ef, k⟩
end
section
variable {g : Gc} {X : Cx} {C a dd : Addr} {oe : Obj} {pn : List (Addr × Obj)} {n fl : Str} {i : Nat} {t : T} {v : V} {p pos : Pos}
end
section
variable {g : Gc} {S : Addr → Prop} {H : Hp} {σ : L2.St} {Ts : List T} {A : Nat → List Addr}
def wipe (A : Nat → List Addr) (i : Nat) : Nat → List Addr := fun j => if j = i then [] else A j
theorem wipe_mem {A : Nat → List Addr} {i j : Nat} {a : Addr} (h : a ∈ wipe A i j) : j ≠ i ∧ a ∈ A j := by
  unfold wipe at h
  split at h
  · cases h
  · rename_i ne
    exact ⟨ne, h⟩
theorem SR.wipe {i : Nat} (R : SR g S H σ Ts A) (o : Option V) (hi : i < Ts.length) : SR g S H (σ.set i o) (Ts.set i .dead) (MI.wipe A i) where
  rep := fun j => by
    by_cases e : j = i
    · subst e
      exact .inl ⟨by rw [slot_set_eq hi], by unfold MI.wipe; rw [if_pos rfl]⟩
    · have z := R.rep j
      unfold MI.wipe
      rw [slot_set_ne e, if_neg e]
      have w : (σ.set i o).getD j none = σ.getD j none := by
        rw [List.getD_eq_getElem?_getD, List.getD_eq_getElem?_getD, List.getElem?_set_ne (fun z => e z.symm)]
      rw [w]
      exact z
  nd := fun j => by
    unfold MI.wipe
    split
    · exact List.nodup_nil
    · exact R.nd j
  dj := fun j k ne a ha hk => R.dj j k ne a (wipe_mem ha).2 (wipe_mem hk).2
  ns := fun j a ha => R.ns j a (wipe_mem ha).2
  len := by rw [List.length_set, List.length_set, R.len]
  st := R.st
theorem Po.wipe {i : Nat} : Po S H A S H (MI.wipe A i) := ⟨fun _ _ e _ => fix_of e, fun _ h => h, fun _ h => .inl h, fun j a h => .inl ⟨j, (wipe_mem h).2⟩⟩
theorem Stb.wipe {i : Nat} : Stb [i] H Ts A H (Ts.set i .dead) (MI.wipe A i) := fun j hj => by
  have e : j ≠ i := fun z => hj (by rw [z]; exact List.mem_cons_self)
  exact ⟨slot_set_ne e, by unfold MI.wipe; rw [if_neg e], fun _ _ _ e => e⟩
end
section
variable {g : Gc} {X : Cx} {C : Addr} {c : Value} {x n fl : Str} {i : Nat} {body : List Stmt} {e : Expr} {np pos pos' rp : Pos} {m : M Fl} {fx : M T} {h : T → M T} {a1 a2 e1 e2 e3 : List Nat}
end
end MI
namespace MI
open PySem PySem.Spec PyProof.Rows L2 He
end MI
namespace MI
open PySem PySem.Spec PyProof.Rows L2
section
variable {prog : Program} {w : World} {A : Around} {E : Value → Shared → Prop} {s : Shared}
end
section
variable {g : Gc} {X : Cx} {a : Expr} {fa : M T} {e1 b1 : List Nat} {p p2 q pos : Pos} {k : Nat}
end
end MI
namespace MI
open PySem PySem.Spec PyProof.Rows L2 He
inductive Oc where
  | val (t : T) | exc (c : Str) (o : Option T)
section
variable {g : Gc} {fo : Str → Str} {X : Cx} {e : Expr} {f : M T} {th th1 th2 : M Oc} {e1 e2 b1 : List Nat} {E : XK}
end
section
variable {g : Gc} {fo : Str → Str} {hM : Oc → Option T} {S S1 S2 : Addr → Prop} {H H1 H2 : Hp} {A A1 : Nat → List Addr} {σ : L2.St} {Ts Ts1 : List T} {eff : List Nat} {Ax Ar : List Addr} {r : T} {x : V}
end
section
variable {X : Cx} {pins : List (Addr × Obj)} {σ : L2.St} {H HZ : Hp} {s z : Shared} {B : Around} {out : List Env} {E : XK} {Q : VK} {scope : Scope} {params : Arguments} {body : Expr} {f c' : Addr} {pm ctv : Value} {t : TE}
end
section
variable {X : Cx} {pins : List (Addr × Obj)} {σ : L2.St} {H : Hp} {s : Shared} {CXg : CXT} {Eg E : XK} {Ng : List Str} {qg a : Str} {sg scope : Scope} {g f c' : Addr} {cdg pm ctv : Value} {params : Arguments} {body : Expr} {k i : Nat} {pn : List (Addr × Obj)} {xe : Value → Shared → Prop} {W : WX} {t : TE} {p1 p2 : Pos}
end
section
variable {X : Cx} {T : List (Addr × Str)} {TT : (XK → Hp → VK → Prop) → Hp → VK → Prop} {x a : Str} {g c P : Addr} {k : Nat} {pg params : Arguments} {bg : List Stmt} {sg scope : Scope} {fd : FuncData} {Ng : List Str} {body : Expr} {t : XK → TE} {p lpos pos : Pos}
end
theorem PoF.same {S : Addr → Prop} {H : Hp} {A : List Addr} : PoF S H A S H A := ⟨fun _ _ e _ => fix_of e, fun _ h => h, fun _ h => .inl h, fun _ h => .inl h⟩
end MI
namespace MI
open PySem PySem.Spec PyProof.Rows L2 He
structure TabOk (tf : List Defn) (h : Heap) (K : PySem.W.Frag) : Prop where
  hd : ∀ p ∈ tf, PySem.W.codeHdIn K (cT K p).1 (cT K p).2 = true
  out : ∀ p ∈ tf, K.lookup (cT K p).2 = none
  nil : ∀ p ∈ tf, h.get? (cT K p).2 = some { cls := .none, data := .fields #[] }
section
variable {P : Program} {w : World} {K : PySem.W.Frag} {h : Heap} {tb : List Addr} {a b : Addr} {vs : List Value} {ns : List Int}
end
section
variable {g : Gc} {P : Program} {w : World} {K : PySem.W.Frag} {mg : Str → Option Value} {base : Heap} {x qual : Str} {params : Arguments} {body : List Stmt} {scope : Scope} {dvs : List V} {kws : List (Str × V)} {f : Addr} {fd : FuncData}
end
end MI
namespace MI
open PySem PySem.Spec PyProof.Rows L2
abbrev nth (ns : List Int) (i : Nat) : Int := ns.getD i 0
section
variable {g : Gc} {X : Cx} {e : Expr} {es : List Expr} {fs : M (List T)} {e1 b1 : List Nat} {pos p2 : Pos}
end
end MI
namespace MI
open PySem PySem.Spec PyProof.Rows L2 He
section
variable {X : Cx} {pins : List (Addr × Obj)} {σ : L2.St} {H : Hp} {cls : Value} {d : Option Addr} {a : Addr} {B : Heap} {sI s : Shared}
structure Down (X : Cx) (pins : List (Addr × Obj)) (σ : L2.St) (H : Hp) (cls : Value) (d : Option Addr) (a : Addr) (B : Heap) (sI s : Shared) : Prop where
  inv : Inv X pins σ H sI
  ground : ∀ b o, sI.heap.get? b = some o → b ∉ frs X.stack → B.get? b = some o
  up : sI.heap.UpToSlots s.heap
  fly : HandSPX.FlyingZ B (X.env :: X.outer) a (Zc cls d) s.heap
  free : H a = none
  os : s.os = sI.os
  bare : AllBare s.gens
theorem Down.here (D : Down X pins σ H cls d a B sI s) : Inv X pins σ H s := D.inv.landed D.ground D.fly.1 D.up D.os D.bare
theorem Down.to (D : Down X pins σ H cls d a B sI s) {h : Heap} (f : HandSPX.FlyingZ B (X.env :: X.outer) a (Zc cls d) h) (u : s.heap.UpToSlots h) : Down X pins σ H cls d a B sI { s with heap := h } :=
  ⟨D.inv, D.ground, D.up.trans u, f, D.free, D.os, D.bare⟩
theorem Down.beside (D : Down X pins σ H cls d a B sI s) (o : Obj) : Down X pins σ H cls d a B sI { s with heap := s.heap.push o } := by
  have k : s.heap.StaysIn (s.heap.push o) := fun b u e => Heap.get?_push_of_some _ e
  obtain ⟨f1, f2, f3, oe, vs, T, oT, ts, g1, g2, g3, g4, g5, g6, g7, g8⟩ := D.fly
  exact D.to ⟨fun b u e => k b u (f1 b u e), f2, Heap.FunFrames.of_keeps (fun b u e _ => ⟨u, k b u e, rfl⟩) f3, oe, vs, T, oT, ts, k _ _ g1, g2, g3, g4, g5, g6, k _ _ g7, g8⟩ (Heap.UpToSlots.of_keeps k)
theorem Down.suite (D : Down X pins σ H cls d a B sI s) (hf : X.env.frame = some X.env.locals) : ∃ oe, s.heap.get? a = some oe ∧ Zc cls d oe ∧ (∃ vs, oe.data = .fields vs) ∧ Inv (X.suite a ((a, oe) :: (X.pn ++ pins))) [] σ H s := by
  obtain ⟨oe, vs, e, z, dv⟩ := D.fly.there
  have out : a ∉ frs (X.env :: X.outer) := fun m => by
    obtain ⟨_, o', e', no⟩ := D.fly.2.2.1.mem m
    cases e.symm.trans e'
    exact no vs dv
  refine ⟨oe, e, z, ⟨vs, dv⟩, D.here.suite e dv D.free (fun q => out ?_) fun m => out ?_⟩
  · exact List.mem_filterMap.mpr ⟨X.env, List.mem_cons_self, by rw [hf, q]⟩
  · obtain ⟨v, hv, q⟩ := List.mem_filterMap.mp m
    exact List.mem_filterMap.mpr ⟨v, List.mem_cons_of_mem _ hv, q⟩
theorem Down.kind (D : Down X pins σ H cls d a B sI s) : PySem.W.Looks (model X.prog X.w) s.heap (typeOf (.ref a)) cls := by
  obtain ⟨oe, vs, e, z, _⟩ := D.fly.there
  exact fun A Q E s' k q => wpAny_typeOf_ref (k _ _ e) (by rw [z.1]; exact q)
end
abbrev WE := Ends → Value → Option Addr → L2.St → Hp → Prop
section
variable {X : Cx} {hds : List ExceptHandler} {w : WE} {n x x1 x2 x3 : Str} {c c1 c2 c3 : Value} {i k : Nat} {t : Expr} {f : Value → Option Bool} {body suite : List Stmt} {b₀ : Stmt} {h₀ : ExceptHandler} {p p1 p2 p3 pos : Pos} {ts : Addr → Value → Option Addr → TS} {tb : WX → TS}
end
section
variable {X : Cx} {C a dd : Addr} {oe : Obj} {pn : List (Addr × Obj)} {n x x1 x2 : Str} {i k : Nat} {b : Bool} {p p2 p3 p4 p5 pos : Pos}
end
section
variable {Y : Cx} {a dd : Addr} {i : Nat} {e1 e2 e3 r1 r2 : Expr} {t1 t2 : TE} {p q p1 p2 pos : Pos}
end
def empty (len : Nat) (m : M T) : Option T := (m (List.replicate len .dead)).map (·.1)
theorem SR.none {g : Gc} {S : Addr → Prop} {H : Hp} {σ : L2.St} {len : Nat} (hl : σ.length = len) (st : StT g S H) : SR g S H σ (List.replicate len .dead) (fun _ => []) where
  rep := fun i => .inl ⟨by unfold slot; simp [List.getElem?_replicate]; split <;> rfl, rfl⟩
  nd := fun _ => List.nodup_nil
  dj := fun _ _ _ _ h => nomatch h
  ns := fun _ _ h => nomatch h
  len := by rw [List.length_replicate, hl]
  st := st
theorem PoF.of {g : Gc} {S S2 : Addr → Prop} {H H2 : Hp} {A2 : Nat → List Addr} {B Ax : List Addr} (p : Po S H (fun _ => []) S2 H2 A2) (o : Ow [] H (fun _ => []) S2 A2 Ax) : PoF S H B S2 H2 Ax :=
  ⟨fun a ob e _ => p.keep a ob e (fun _ z => (nomatch z)), p.sub, fun a h => (p.snew a h).imp id (fun z => z.elim (fun ⟨_, z⟩ => (nomatch z)) Or.inr), fun a h => (o.new a h).elim (fun ⟨_, z⟩ => (nomatch z)) Or.inr⟩
end MI
namespace MI
open PySem PySem.Spec PyProof.Rows L2 He
section
variable {X : Cx} {g : Gc} {P : Bes} {e : Expr} {es : List Expr} {fs : M (List T)} {e1 b1 : List Nat} {k : Nat} {pos p2 : Pos}
end
end MI
namespace MI
open PySem PySem.Spec PyProof.Rows L2
section
variable {g : Gc} {X : Cx} {o e : Expr} {fa fb : M T} {fs : M (List T)} {e1 e2 b1 b2 : List Nat} {apos pos p p1 p2 : Pos} {k : Nat}
def isTx : T → Bool
  | .str _ => true
  | _ => false
theorem met1_tx {f : T → T → Option T} {r : V → List V → Hp → VK → Prop} (hop : OpT g (fun x y H Q => r x [y] H Q) f) (d : ∀ j ∈ b1, j ∉ e2) (σ : L2.St) (H : Hp) (Q : VK) (h : TM g (mMet1 isTx f fa fb) (e1 ++ e2) [] σ H Q) : tM1 r (TM g fa e1 b1) (TM g fb e2 b2) σ H Q := by
  obtain ⟨S, Ts, A, t, Ts', R, run, fin⟩ := h
  obtain ⟨ta, Ts1, ea, run1⟩ := bnd_some run
  by_cases hc : isTx ta = true
  · rw [if_pos hc] at run1
    refine ⟨S, Ts, A, ta, Ts1, R, ea, fun x H1 S1 A1 Ax R1 rx ox p1 s1 => ⟨?_, ?_⟩⟩
    · cases ta with
      | str a => exact ⟨a, rx.1⟩
      | _ => cases hc
    · obtain ⟨tb, Ts2, eb, run2⟩ := bnd_some run1
      obtain ⟨ef, eT⟩ := lft_some run2
      subst eT
      refine ⟨S1, Ts1, A1, tb, Ts', R1, eb, fun y H2 S2 A2 Ay R2 ry oy p2 s2 => hop S2 H2 ta tb x y _ Ay t Q (rx.held R1 ox p2 s2 d) ry ef fun z H3 Az n => ?_⟩
      have own : Ow [] H2 A2 S2 A2 Az := Ow.of_new R2 n
      have stab := (s1.trans s2).trans (Stb.ext (eff := []) (Ts := Ts') (A := A2) n.ext)
      rw [List.append_nil] at stab
      exact fin z H3 S2 A2 Az (R2.ext n.ext) n.rep ⟨own.ns, own.dj, own.nd, own.back (p1.trans R p2)⟩ ((p1.trans R p2).trans R (Po.ext n.ext)) stab
  · rw [if_neg hc] at run1
    cases run1
def fSplit (a b : T) : Option T := match a, b with
  | .str x, .str y => if y.length ≠ 0 ∧ x.length + 2 ≤ sizeLine then some (.nd (.lst true) ((Txt.split x y).map T.str)) else none
  | _, _ => none
theorem opt_split : OpT g (fun x y H Q => ∃ a b, x = .str a ∧ [y] = [.str b] ∧ (b.length == 0) = false ∧ a.length + 2 ≤ sizeLine ∧ rNewStrs (Txt.split a b) H Q) fSplit := fun S H a b x y Ax Ay t Q ra rb e q => by
  unfold fSplit at e
  split at e
  · rename_i u v
    split at e
    · rename_i h
      injection e with e
      subst e
      have r1 : x = .str u := ra.1
      have r2 : y = .str v := rb.1
      refine ⟨u, v, r1, by rw [r2], by simpa using h.1, h.2, fun p hp => q _ _ [p] (New.node hp (reps_str _))⟩
    · cases e
  · cases e
theorem l_split (ho : PEm g X o fa e1 b1) (ha : PEm g X e fb e2 b2) (d : ∀ j ∈ b1, j ∉ e2 := by decide) (hs : starEach [e] X.env = [(false, eval e X.env)] := by rfl) (hbase : attributeBase o "split" X.env (eval o X.env) = eval o X.env := by rfl) (hline : (apos.endLine == pos.line) = true := by rfl) :
    PEm g X (.Call (.Attribute o "split" apos) [e] [] pos) (mMet1 isTx fSplit fa fb) (e1 ++ e2) [] := PE.imp (pe_split ho ha hs hbase hline) (met1_tx opt_split d)
def seqS (t : T) : Option (List T) := match t with
  | .nd (.lst _) ts => some ts
  | .nd .tup ts => some ts
  | _ => none
theorem seqS_rep {S : Addr → Prop} {H : Hp} {t : T} {ks : List T} {x : V} {Ax : List Addr} (hk : seqS t = some ks) (r : Rp g S H t x Ax) : ∃ p xs B, x = .ref p ∧ (SqL g.K H p xs ∨ SqT g.K H p xs) ∧ RpL g S H ks xs B := by
  unfold seqS at hk
  split at hk
  · injection hk with hk
    subst hk
    obtain ⟨p, xs, B, ex, at_, _, _, rl⟩ := r
    exact ⟨p, xs, B, ex, .inl at_.sqL, rl⟩
  · injection hk with hk
    subst hk
    obtain ⟨p, xs, B, ex, at_, _, _, rl⟩ := r
    exact ⟨p, xs, B, ex, .inr at_.sqT, rl⟩
  · cases hk
def fJoin (a b : T) : Option T := match a with
  | .str x => (seqS b).bind fun ts => (strsOf ts).bind fun ys => if (ys.map (·.length)).sum + ys.length * x.length ≤ 16777216 then some (.str (Txt.join x ys)) else none
  | _ => none
theorem opt_join : OpT g (fun x y H Q => ∃ a p, ∃ ys : List Str, x = .str a ∧ [y] = [.ref p] ∧ (SqL g.K H p (ys.map V.str) ∨ SqT g.K H p (ys.map V.str)) ∧ (ys.map (·.length)).sum + ys.length * a.length ≤ 16777216 ∧ Q (.str (Txt.join a ys)) H) fJoin := fun S H a b x y Ax Ay t Q ra rb e q => by
  unfold fJoin at e
  split at e
  · rename_i u
    obtain ⟨ts, h1, e⟩ := Option.bind_eq_some_iff.mp e
    obtain ⟨ys, h2, e⟩ := Option.bind_eq_some_iff.mp e
    split at e
    · rename_i h
      injection e with e
      subst e
      have r1 : x = .str u := ra.1
      obtain ⟨p, xs, B, ex, sq, rl⟩ := seqS_rep h1 rb
      have hx := strsOf_ok _ _ _ _ h2 rl
      subst hx
      exact ⟨u, p, ys, r1, by rw [ex], sq, h, q _ H [] (New.atom ⟨rfl, rfl⟩)⟩
    · cases e
  · cases e
theorem l_join (ho : PEm g X o fa e1 b1) (ha : PEm g X e fb e2 b2) (hK : g.K = X.K := by rfl) (d : ∀ j ∈ b1, j ∉ e2 := by decide) (hs : starEach [e] X.env = [(false, eval e X.env)] := by rfl) (hbase : attributeBase o "join" X.env (eval o X.env) = eval o X.env := by rfl) (hline : (apos.endLine == pos.line) = true := by rfl) :
    PEm g X (.Call (.Attribute o "join" apos) [e] [] pos) (mMet1 isTx fJoin fa fb) (e1 ++ e2) [] := PE.imp (pe_join ho ha hs hbase hline) (met1_tx (hK ▸ opt_join) d)
def numS (i : Int) : Str := Str.ofString (toString i)
def fStr1 (a : T) : Option T := match a with
  | .int i => if i.natAbs.log2 < 1920 then some (.str (numS i)) else none
  | .str s => some (.str s)
  | _ => none
theorem ct_str1 : CallT g (fun xs H Q => (∃ i, xs = [.int i] ∧ i.natAbs.log2 < 1920 ∧ Q (.str (numS i)) H) ∨ ∃ a, xs = [.str a] ∧ Q (.str a) H) (c1 fStr1) := callT1 fun S H t x A u Q r e k => by
  unfold fStr1 at e
  split at e
  · rename_i i
    split at e
    · rename_i h
      injection e with e
      subst e
      exact .inl ⟨i, by rw [r.1], h, k _ H [] (New.atom ⟨rfl, rfl⟩)⟩
    · cases e
  · rename_i a
    injection e with e
    subst e
    exact .inr ⟨a, by rw [r.1], k _ H [] (New.atom ⟨rfl, rfl⟩)⟩
  · cases e
theorem boot_str1 : bootBuiltins "str" = some (.type "str") := by first | exact boot_str | kernel_rfl
theorem b_str {es : List Expr} (hm : X.mg "str" = none) (ha : PAm g X (e :: es) fs e1 b1) (hg : Gl X "str" := by rfl) (he : starEach (e :: es) X.env = (false, eval e X.env) :: starEach es X.env := by rfl) (hpl : (backTo pos (starEach es X.env)).any (·.1) = false := by rfl) :
    PEm g X (.Call (.Name "str" p2) (e :: es) [] pos) (mF (c1 fStr1) fs) e1 [] := tm_callTy (call_str_int.or SkE.call_str_str) ct_str1 hg hm boot_str1 ha (by decide) (by decide) he hpl
def fIntS (a : T) : Option T := match a with
  | .str s => if s.length ≤ 640 then (PySem.intText? s).map T.int else none
  | _ => none
theorem ct_intS : CallT g (fun xs H Q => ∃ a n, xs = [.str a] ∧ PySem.intText? a = some n ∧ a.length ≤ 640 ∧ Q (.int n) H) (c1 fIntS) := callT1 fun S H t x A u Q r e k => by
  unfold fIntS at e
  split at e
  · rename_i a
    split at e
    · rename_i h
      obtain ⟨n, h1, h2⟩ := Option.map_eq_some_iff.mp e
      subst h2
      exact ⟨a, n, by rw [r.1], h1, h, k _ H [] (New.atom ⟨rfl, rfl⟩)⟩
    · cases e
  · cases e
theorem b_intS {es : List Expr} (hm : X.mg "int" = none) (ha : PAm g X (e :: es) fs e1 b1) (hg : Gl X "int" := by rfl) (he : starEach (e :: es) X.env = (false, eval e X.env) :: starEach es X.env := by rfl) (hpl : (backTo pos (starEach es X.env)).any (·.1) = false := by rfl) :
    PEm g X (.Call (.Name "int" p2) (e :: es) [] pos) (mF (c1 fIntS) fs) e1 [] := tm_callTy call_int_str ct_intS hg hm boot_int ha (by decide) (by decide) he hpl
def fFmt (a : T) : Option T := match a with
  | .int i => if i.natAbs.log2 < 1920 then some (.str (numS i)) else none
  | .str s => if s.length ≤ sizeLine then some (.str s) else none
  | _ => none
theorem tm_fmt (ha : PEm g X e fa e1 b1) : PEm g X (.FormattedValue e (-1) none pos) (m1 fFmt fa) e1 [] :=
  PE.imp (pe_fmt ha) (tm_un1 (r := fun x H Q => (∃ y : Str, x = .str y ∧ y.length ≤ sizeLine ∧ Q (.str y) H) ∨ ∃ i : Int, x = .int i ∧ i.natAbs.log2 < 1920 ∧ Q (.str (toString i)) H) fun S H a x Ax t Q r e q => by
    unfold fFmt at e
    split at e
    · rename_i i
      split at e
      · rename_i h
        injection e with e
        subst e
        exact .inr ⟨i, r.1, h, q _ H [] (New.atom ⟨rfl, rfl⟩)⟩
      · cases e
    · rename_i s
      split at e
      · rename_i h
        injection e with e
        subst e
        exact .inl ⟨s, r.1, h, q _ H [] (New.atom ⟨rfl, rfl⟩)⟩
      · cases e
    · cases e)
def mJs : List (M T) → Str → M T
  | [], acc => ret (.str acc)
  | f :: fs, acc => bnd f fun t => match t with
    | .str y => if (acc ++ y).length ≤ sizeLine then mJs fs (acc ++ y) else fun _ => none
    | _ => fun _ => none
inductive PJm (g : Gc) (X : Cx) : List Expr → List (M T) → List Nat → Prop where
  | nil : PJm g X [] [] []
  | cons {e : Expr} {f : M T} {es : List Expr} {fs : List (M T)} {e1 b1 e2 : List Nat} (h : PEm g X e f e1 b1) (r : PJm g X es fs e2) : PJm g X (e :: es) (f :: fs) (e1 ++ e2)
theorem js_r {es : List Expr} {ms : List (M T)} {eff : List Nat} (h : PJm g X es ms eff) : ∃ ts, PJ X es ts ∧ ∀ acc σ H (Q : VK), TM g (mJs ms acc) eff [] σ H Q → tJs ts acc σ H (fun out H1 => Q (.str out) H1) := by
  induction h with
  | nil =>
    refine ⟨[], .nil, fun acc σ H Q ⟨S, Ts, A, t, Ts', R, run, fin⟩ => ?_⟩
    have run : some (T.str acc, Ts) = some (t, Ts') := run
    injection run with run
    injection run with r1 r2
    subst r1
    subst r2
    exact fin _ H S A [] R ⟨rfl, rfl⟩ ⟨(fun _ z => nomatch z), (fun _ _ _ z => nomatch z), (fun _ => List.nodup_nil), fun _ z => nomatch z⟩ Po.refl Stb.refl
  | @cons e f es fs e1 b1 e2 he _ ih =>
    obtain ⟨ts, hj, ih⟩ := ih
    refine ⟨_ :: ts, .cons he hj, fun acc σ H Q ⟨S, Ts, A, t, Ts', R, run, fin⟩ => ?_⟩
    obtain ⟨ta, Ts1, ea, run1⟩ := bnd_some run
    refine ⟨S, Ts, A, ta, Ts1, R, ea, fun x H1 S1 A1 Ax R1 rx ox p1 s1 => ?_⟩
    split at run1
    · rename_i y
      split at run1
      · rename_i hl
        exact ⟨y, rx.1, hl, ih _ σ H1 Q ⟨S1, Ts1, A1, t, Ts', R1, run1, fun z H2 S2 A2 Az R2 rz oz p2 s2 => fin z H2 S2 A2 Az R2 rz (oz.rebase p1) (p1.trans R p2) (s1.trans s2)⟩⟩
      · cases run1
    · cases run1
theorem tm_js {v1 v2 : Expr} {rest : List Expr} {ms : List (M T)} {eff : List Nat} (h : PJm g X (v1 :: v2 :: rest) ms eff) : PEm g X (.JoinedStr (v1 :: v2 :: rest) pos) (mJs ms Str.empty) eff [] := by
  obtain ⟨ts, hj, k⟩ := js_r h
  exact PE.imp (pe_joined hj) fun σ H Q q => k Str.empty σ H Q q
end
end MI
namespace MI
open PySem PySem.Spec PyProof.Rows L2
section
variable {g : Gc} {X : Cx} {CX : CXT} {o e : Expr} {fa : M T} {e1 b1 : List Nat} {p2 pos : Pos} {k : Nat} {C f : Addr} {fd : FuncData} {ps : List Str} {sp : L2.Sp} {E : XK} {c : Cal} {cls : Str}
def mTx (m : M T) : M T := bnd m fun t => match t with
  | .str s => ret (.str s)
  | _ => fun _ => none
theorem tx_to {m : M T} {eff bo : List Nat} {σ : L2.St} {H : Hp} {Q : VK} (h : TM g (mTx m) eff bo σ H Q) : TM g m eff bo σ H (fun v H' => (∃ s, v = .str s) ∧ Q v H') := by
  obtain ⟨S, Ts, A, t, Ts', R, run, fin⟩ := h
  obtain ⟨ta, Ts1, ea, run⟩ := bnd_some run
  cases ta with
  | str s =>
    have run : some (T.str s, Ts1) = some (t, Ts') := run
    injection run with run
    injection run with r1 r2
    subst r1
    subst r2
    exact ⟨S, Ts, A, .str s, Ts1, R, ea, fun x H' S' A' Ax R' rx ox p s2 => ⟨⟨s, rx.1⟩, fin x H' S' A' Ax R' rx ox p s2⟩⟩
  | _ => cases run
def rStrO (C : Addr) (sp : L2.Sp) (E : XK) : RC := fun xs H Q => ∃ a dx fs, xs = [V.ref a] ∧ H a = some (.ins C dx fs) ∧ sp [.ref a] H (fun v H' => (∃ s, v = .str s) ∧ Q v H') E
theorem cr_strO (hm : Meth X.K C "__str__" f) (F : FnG X.prog X.w X.K X.mg X.base CX k f fd ps sp) (hG : GA X.A) (hr : Room (k + 2) X.A) (hb : Binds X.K fd ps []) (hx : Passes CX X.nox E) : CallR X (.type "str") (rStrO C sp E) := by
  rintro pins s σ H xs us Q I rel ⟨a, dx, fs, rfl, at_, says⟩
  obtain ⟨u, rfl, ru⟩ := vals1 rel
  have eu : u = Value.ref a := ru
  subst eu
  obtain ⟨_, O, _⟩ := ins_get I.hok at_
  obtain ⟨_, here, _⟩ := O.look
  refine PySem.W.kso_call (by have := hr.in1.in1.un; omega) I.kIn here hm.at_ hm.fn (wpAny_call (codeAny_mono (F.runG X.A.in1.in1 X.stack s H ⟨[.ref a], []⟩ [.ref a] [.ref a] _ E hG.in1.in1 hr.in1.in1 I.env0.in1.in1 (hb _ [.ref a] I.kIn (F.lenG _ _ _ _ says)) (.cons rfl .nil) says) fun r s' cc => ?_))
  match r, cc with
  | .error er, cc => exact (hx pins σ H s er s' (I.wish _) cc).elim
  | .ok (.ret w), cc =>
    obtain ⟨v, G', J, rel3, ⟨t, rfl⟩, q⟩ := I.after cc
    obtain ⟨tk, rfl⟩ := rel3
    exact ⟨.str t, G', J, ⟨tk, rfl⟩, q⟩
  | .ok .next, cc => exact cc.elim
  | .ok .brk, cc => exact cc.elim
  | .ok .cont, cc => exact cc.elim
theorem b_strO (hgm : X.mg "str" = none) (hm : Meth X.K (g.cl cls) "__str__" f) (F : FnG X.prog X.w X.K X.mg X.base CX0 k f fd ps (spT g [] c)) (hG : GA X.A) (hr : Room (k + 2) X.A) (hb : Binds X.K fd ps []) (ho : PEm g X e fa e1 []) (hg : Gl X "str" := by rfl)
    (he : starEach [e] X.env = (false, eval e X.env) :: starEach [] X.env := by rfl) (hpl : (backTo pos (starEach [] X.env)).any (·.1) = false := by rfl) :
    PEm g X (.Call (.Name "str" p2) [e] [] pos) (mTx (mCall c [none] (mCons (mIns cls Str.empty fa) mNil))) e1 [] :=
  PE.imp (pe_callTy (cr_strO hm F hG hr hb pass0) hg hgm boot_str1 (pa_cons ho pa_nil he) (by decide) (by decide) he hpl) fun σ H Q h => by
    have h2 := prop_rC (b1 := []) rfl σ H _ (tx_to h)
    exact TM.mono h2 fun x H' ⟨a, dx, fs, w1, w2, w3⟩ => ⟨a, dx, fs, by rw [w1], w2, w3⟩
end
end MI
namespace MI
open PySem PySem.Spec PyProof.Rows L2 He
structure Stat (K : PySem.W.Frag) (C : Addr) (m : Str) (f : Addr) : Prop where
  rd : ClX.CRead K C (.type "type")
  at_ : ∃ p, PySem.W.findCls K (.ref C) (.type "type") m = some (.get (.builtin "staticmethod.__get__") (.ref p) .none (.ref C)) ∧ ∃ rest, PySem.W.recIn K p "staticmethod" = some (.ref f :: rest)
section
variable {g : Gc} {X : Cx} {CX : CXT} {o e : Expr} {es : List Expr} {fs : M (List T)} {e1 b1 : List Nat} {pos apos p : Pos} {k : Nat} {C f : Addr} {fd : FuncData} {ps : List Str} {sp : L2.Sp} {E : XK} {c : Cal} {m cl : Str} {ta : TE} {t tk : TA} {io : List Nat} {ln : List (Option Nat)} {kws : List Keyword}
theorem get_static {pl : Sem Bool} {pins : List (Addr × Obj)} {s : Shared} {σ : L2.St} {H : Hp} {A : Around} {Z : Value → Shared → Prop} {Q : Value × List Value → Shared → Prop} (I : Inv X pins σ H s) (S : Stat X.K C m f) (h : ∀ s', Inv X pins σ H s' → Q (.ref f, []) s') :
    wpAny (model X.prog X.w) A (getMethod (.ref C) m pl) Q Z s := by
  obtain ⟨p, e1, rest, e2⟩ := S.at_
  refine PySem.W.method_cls I.kIn S.rd.ga (PySem.W.cls_bind I.kIn S.rd.rd e1 (wpAny_call (PySem.W.sm_get (s := { s with toks := s.toks + 1 }) I.kIn e2 (PySem.W.handed_on rfl ?_))))
  exact h _ (I.tok _)
theorem pe_static {pl : Sem Bool} (S : Stat X.K C m f) (F : FnG X.prog X.w X.K X.mg X.base CX k f fd ps sp) (hG : GA X.A) (hr : Room k X.A) (hk : PySem.W.keepIn X.K (.ref f) = true) (hb : Binds X.K fd ps []) (hx : Passes CX X E) (hm : X.mg cl = some (.ref C)) (ha : PA X (e :: es) t) (hg : Gl X cl := by rfl) (hdb : (cl == ("__debug__" : Str)) = false := by decide)
    (hst : starEach (e :: es) X.env = (false, eval e X.env) :: starEach es X.env := by rfl) (hpl : (backTo pos (starEach es X.env)).any (·.1) = false := by rfl)
    (ht : eval (.Call (.Attribute (.Name cl p) m apos) (e :: es) [] pos) X.env = (do
      let ov ← eval (.Name cl p) X.env
      standAt apos.atName
      let (f, first) ← holding [ov] (getMethod ov m pl)
      callWith pos f first (backTo pos (starEach (e :: es) X.env)) (backToKw pos (keywordEach [] X.env))) := by rfl) :
    PE X (.Call (.Attribute (.Name cl p) m apos) (e :: es) [] pos) (tCall sp [] E t) where
  run pins s σ H Q I h := PySem.W.methodCall_KW (pl := pl) (ld_glob I hg hm (get_static I S fun s2 I2 => PySem.W.callWith_K (h₀ := X.base) I2.ok.mod.kin hk
    (thn (ha.run pos pins s2 σ H _ I2 h) fun us z b => let ⟨ys, G, J, rel, q⟩ := b; ⟨J.kIn, F.callR hG hr hx hb pins z σ G ys us Q J rel (by simpa using q)⟩) hst hpl) hdb) ht
theorem pe_staticK {pl : Sem Bool} (S : Stat X.K C m f) (F : FnG X.prog X.w X.K X.mg X.base CX k f fd ps sp) (hG : GA X.A) (hr : Room k X.A) (hk : PySem.W.keepIn X.K (.ref f) = true) (hb : KwB X.K fd ps 0) (hx : Passes CX X E) (hm : X.mg cl = some (.ref C)) (hkw : PK X kws tk) (hg : Gl X cl := by rfl) (hdb : (cl == ("__debug__" : Str)) = false := by decide)
    (hall : (backToKw pos (keywordEach kws X.env)).all (·.1.isSome) = true := by rfl) (hks : (backToKw pos (keywordEach kws X.env)).filterMap (·.1) = ps := by rfl)
    (hpl : ((backTo pos (starEach [] X.env)).any (·.1) || (backToKw pos (keywordEach kws X.env)).any (·.1.isNone)) = false := by rfl)
    (ht : eval (.Call (.Attribute (.Name cl p) m apos) [] kws pos) X.env = (do
      let ov ← eval (.Name cl p) X.env
      standAt apos.atName
      let (f, first) ← holding [ov] (getMethod ov m pl)
      callWith pos f first (backTo pos (starEach [] X.env)) (backToKw pos (keywordEach kws X.env))) := by rfl) :
    PE X (.Call (.Attribute (.Name cl p) m apos) [] kws pos) (tCall sp [] E tk) where
  run pins s σ H Q I h := by
    refine PySem.W.methodCall_KW (pl := pl) (ld_glob I hg hm (get_static I S fun s2 I2 => ?_) hdb) ht
    refine PySem.W.callWith_KW0 (h₀ := X.base) I2.ok.mod.kin hk hall (thn (hkw.run pos pins s2 σ H _ I2 h) fun ws z b => ?_) hpl
    obtain ⟨ys, G, J, rel, q⟩ := b
    refine ⟨J.kIn, ?_⟩
    rw [hks]
    exact run_g (us := []) (us2 := ws) F hG hr hx J (fun n => by simpa using hb z [] ws J.kIn rfl (by simpa using n)) rel (by simpa using q)
theorem tm_static {pl : Sem Bool} (S : Stat X.K C m f) (F : FnG X.prog X.w X.K X.mg X.base CX0 k f fd ps (spT g io c)) (hG : GA X.A) (hr : Room k X.A) (hk : PySem.W.keepIn X.K (.ref f) = true) (hb : Binds X.K fd ps []) (hm : X.mg cl = some (.ref C)) (ha : PAc g X (e :: es) fs e1 [] ln) (hg : Gl X cl := by rfl) (hdb : (cl == ("__debug__" : Str)) = false := by decide)
    (hio : io = lentIx 0 ln := by rfl) (hl : ∀ s ∈ ln.filterMap id, s ∈ e1 := by decide) (hst : starEach (e :: es) X.env = (false, eval e X.env) :: starEach es X.env := by rfl) (hpl : (backTo pos (starEach es X.env)).any (·.1) = false := by rfl)
    (ht : eval (.Call (.Attribute (.Name cl p) m apos) (e :: es) [] pos) X.env = (do
      let ov ← eval (.Name cl p) X.env
      standAt apos.atName
      let (f, first) ← holding [ov] (getMethod ov m pl)
      callWith pos f first (backTo pos (starEach (e :: es) X.env)) (backToKw pos (keywordEach [] X.env))) := by rfl) :
    PEm g X (.Call (.Attribute (.Name cl p) m apos) (e :: es) [] pos) (mCall c ln fs) e1 [] := PE.imp (pe_static (pl := pl) S F hG hr hk hb (E := E0) pass0 hm ha hg hdb hst hpl ht) (call_r rfl hio hl)
theorem tm_staticK {pl : Sem Bool} (S : Stat X.K C m f) (F : FnG X.prog X.w X.K X.mg X.base CX0 k f fd ps (spT g io c)) (hG : GA X.A) (hr : Room k X.A) (hk : PySem.W.keepIn X.K (.ref f) = true) (hb : KwB X.K fd ps 0) (hm : X.mg cl = some (.ref C)) (ha : PKc g X kws fs e1 [] ln) (hg : Gl X cl := by rfl) (hdb : (cl == ("__debug__" : Str)) = false := by decide)
    (hio : io = lentIx 0 ln := by rfl) (hl : ∀ s ∈ ln.filterMap id, s ∈ e1 := by decide) (hall : (backToKw pos (keywordEach kws X.env)).all (·.1.isSome) = true := by rfl) (hks : (backToKw pos (keywordEach kws X.env)).filterMap (·.1) = ps := by rfl)
    (hpl : ((backTo pos (starEach [] X.env)).any (·.1) || (backToKw pos (keywordEach kws X.env)).any (·.1.isNone)) = false := by rfl)
    (ht : eval (.Call (.Attribute (.Name cl p) m apos) [] kws pos) X.env = (do
      let ov ← eval (.Name cl p) X.env
      standAt apos.atName
      let (f, first) ← holding [ov] (getMethod ov m pl)
      callWith pos f first (backTo pos (starEach [] X.env)) (backToKw pos (keywordEach kws X.env))) := by rfl) :
    PEm g X (.Call (.Attribute (.Name cl p) m apos) [] kws pos) (mCall c ln fs) e1 [] := PE.imp (pe_staticK (pl := pl) S F hG hr hk hb (E := E0) pass0 hm ha hg hdb hall hks hpl ht) (call_r rfl hio hl)
end
abbrev sta (K : PySem.W.Frag) (c m : Str) : Addr := He5.wf K (ga K c) "staticmethod" m
def staB (c m : Str) (K : PySem.W.Frag) : Bool := He5.wrapB K (ga K c) "staticmethod" "staticmethod.__get__" m && (PySem.W.readsIn K (ga K c) (.type "type") && eqO (PySem.W.specialIn K (.ref (ga K c)) "__getattribute__") (some (some (.builtin "type.__getattribute__"))))
theorem sta_ok {c m : Str} {K : PySem.W.Frag} (h : staB c m K = true) : Stat K (ga K c) m (sta K c m) := by
  obtain ⟨h1, h⟩ := Bool.and_eq_true_iff.mp h
  obtain ⟨h2, h3⟩ := Bool.and_eq_true_iff.mp h
  obtain ⟨k1, k2⟩ := He5.wrapB_ok h1
  exact ⟨⟨h2, eqO_ok h3⟩, _, k1, k2⟩
end MI
namespace MI
open PySem PySem.Spec PyProof.Rows L2 He
section
open PySem.W
variable {prog : Program} {w : World} {A : Around} {E : Value → Shared → Prop} {s : Shared} {K : PySem.W.Frag} {x C f : Addr} {ox : Obj} {od : Option Obj} {b tb : Value}
theorem bound_slot {M : Model} {name : Str} {id : String} {args : List Value} {Q : Option Value → Shared → Prop} (X : K.In s.heap) (I : InstAt s.heap x ox C od) (at_ : findIn K (.ref C) name = some (some (.builtin id))) (bd : ∀ self, bindSpecial (.builtin id) self = pure (.builtin id, [self]))
    (h : wpAny M A (call (.builtin id) (.ref x :: args)) (fun v => Q (some v)) E s) : wpAny M A (callSpecialIfBound? (.ref x) name args) Q E s := by
  have last : wpAny M A (do let v ← call (.builtin id) ([Value.ref x] ++ args); pure (some v)) Q E s := wpAny_bind (wpAny_mono h (fun _ _ z => wpAny_pure z) fun _ _ z => z)
  unfold callSpecialIfBound? bindSpecialIfBound?
  apply wpAny_holding
  apply wpAny_bind
  apply wpAny_bind
  apply wpAny_bind
  apply I.type.here
  apply (looks_findIn X at_).here
  dsimp only
  simp only [bd]
  apply wpAny_bind
  apply wpAny_askSetting
  apply wpAny_ite
  split
  · exact wpAny_bind (wpAny_pure (wpAny_pure (by exact last)))
  · exact wpAny_tryCatch (wpAny_bind (wpAny_pure (wpAny_pure (by exact last))))
theorem ne_own {Q : Value → Shared → Prop} (hu : A.units < cLine) (hu1 : A.in1.units < cLine) (X : K.In s.heap) (I : InstAt s.heap x ox C od) (hb : Looks (model prog w) s.heap (typeOf b) tb) (hn : notFirst K C tb = true)
    (n_ : findIn K (.ref C) "__ne__" = some (some (.builtin "object.__ne__"))) (e_ : findIn K (.ref C) "__eq__" = some (some (.ref f))) (hf : isFn K (.ref f) = true) (hm : mroIn K C (.type "object") = some true)
    (h : wpAny (model prog w) A.in1 (call (.ref f) [.ref x, b]) (fun v s' => ∃ k, v = .bool k ∧ Q (.bool (!k)) s') E s) : wpAny (model prog w) A (richCompare .NotEq (.ref x) b) Q E s := by
  have tried : wpAny (model prog w) A (tryCompare (.ref x) "__ne__" b) (fun r s' => ∃ k, r = some (.bool k) ∧ Q (.bool k) s') E s := by
    unfold tryCompare
    refine wpAny_bind (bound_slot X I n_ PySem.F.cmp_object.ne.bind (wpAny_call (codeAny_call_builtin PySem.F.cmp_object.ne.plain PySem.F.cmpEntry_ne (check_slot (i := "object.__ne__") (owner := "object") (n := "__ne__") (by decide +kernel) (by decide +kernel) (I.type.andThen (looks_mroIn X hm)) (PySem.F.cmpArgs_ne _ _) ?_))))
    unfold Builtin.«object.__ne__»
    refine wpAny_bind (wpAny_pure ?_)
    refine wpAny_bind (m := cRoomFor _ _) (wpAny_cRoomFor hu1 ?_)
    refine wpAny_bind (m := callSpecialIfBound? (.ref x) "__eq__" [b]) (ifBound_K X I e_ hf (wpAny_mono h (fun v s' z => ?_) fun _ _ z => z))
    obtain ⟨k, rfl, q⟩ := z
    refine wpAny_bind (wpAny_pure ?_)
    refine wpAny_pure ?_
    exact wpAny_pure ⟨!k, rfl, q⟩
  unfold richCompare
  simp only [oneThing_ref]
  apply wpAny_holding
  apply wpAny_bind
  apply wpAny_cRoomFor hu
  apply wpAny_bind
  apply I.type.here
  apply wpAny_bind
  apply hb.here
  have go : wpAny (model prog w) A (do
      if let some v ← tryCompare (.ref x) "__ne__" b then return v
      if !false then
        if let some v ← tryCompare b "__ne__" (.ref x) then return v
      rule "compare.ne-identity"
      return .bool (!(← isSame (.ref x) b))) Q E s := by
    refine wpAny_bind (wpAny_mono tried (fun r s' z => ?_) fun _ _ z => z)
    obtain ⟨k, rfl, q⟩ := z
    exact wpAny_pure q
  split
  · rename_i ne
    have sub : subIn K tb (.ref C) = some false := by
      unfold notFirst at hn
      cases c : tb == Value.ref C with
      | true =>
        rw [beq_iff_eq.mp c] at ne
        simp at ne
      | false =>
        rw [c, Bool.false_or] at hn
        exact beq_iff_eq.mp hn
    apply wpAny_bind
    apply (looks_subIn X sub).here
    exact go
  · exact wpAny_bind (wpAny_pure go)
end
section
variable {g : Gc} {X : Cx} {a b : Expr} {fa fb : M T} {fs : M (List T)} {e1 e2 b1 b2 : List Nat} {pos : Pos} {k : Nat} {C f : Addr} {fd : FuncData} {ps : List Str} {sp : L2.Sp} {E : XK} {c : Cal} {cls : Str}
def mChk (p : List T → Bool) (fs : M (List T)) : M (List T) := bnd fs fun ts => if p ts then ret ts else fun _ => none
theorem chk_to {p : List T → Bool} {eff bo : List Nat} {ln : List (Option Nat)} {σ : L2.St} {H : Hp} {Q : List V → Hp → Prop} (h : TMc g (mChk p fs) eff bo ln σ H Q) : TMc g fs eff bo ln σ H (fun xs H' => (∃ (S' : Addr → Prop) (ts : List T) (Al Ab : List Addr), p ts = true ∧ RpC g S' H' σ ln ts xs Al Ab) ∧ Q xs H') := by
  obtain ⟨S, Ts, A, ts, Ts', R, run, fin⟩ := h
  obtain ⟨ts1, Ts1, ea, run⟩ := bnd_some run
  split at run
  · rename_i hp
    obtain ⟨r1, r2⟩ := ret_some run
    subst r1
    subst r2
    exact ⟨S, Ts, A, _, _, R, ea, fun xs H' S' A' Al Ab R' rc ol ob dj p' s' => ⟨⟨S', _, Al, Ab, hp, rc⟩, fin xs H' S' A' Al Ab R' rc ol ob dj p' s'⟩⟩
  · cases run
def pEq (cls : Str) : List T → Bool
  | [.nd (.ins _ c _) _, .nd (.ins _ d _) _] => decide (c = cls) && decide (d = cls)
  | [.nd (.ins _ c _) _, .str _] => decide (c = cls)
  | _ => false
def mBl (m : M T) : M T := bnd m fun t => match t with
  | .bl k => ret (.bl k)
  | _ => fun _ => none
theorem bl_to {m : M T} {eff bo : List Nat} {σ : L2.St} {H : Hp} {Q : VK} (h : TM g (mBl m) eff bo σ H Q) : TM g m eff bo σ H (fun v H' => (∃ k, v = .bl k) ∧ Q v H') := by
  obtain ⟨S, Ts, A, t, Ts', R, run, fin⟩ := h
  obtain ⟨ta, Ts1, ea, run⟩ := bnd_some run
  cases ta with
  | bl s =>
    have run : some (T.bl s, Ts1) = some (t, Ts') := run
    injection run with run
    injection run with r1 r2
    subst r1
    subst r2
    exact ⟨S, Ts, A, .bl s, Ts1, R, ea, fun x H' S' A' Ax R' rx ox p s2 => ⟨⟨s, rx.1⟩, fin x H' S' A' Ax R' rx ox p s2⟩⟩
  | _ => cases run
def Pair2 (C : Addr) (x y : V) (H : Hp) : Prop := (∃ a dx fs, x = .ref a ∧ H a = some (.ins C dx fs)) ∧ ((∃ b dy gs, y = .ref b ∧ H b = some (.ins C dy gs)) ∨ ∃ s, y = .str s)
def rEqO (neg : Bool) (C : Addr) (sp : L2.Sp) (E : XK) : R2 := fun x y H Q => Pair2 C x y H ∧ sp [x, y] H (fun v H' => ∃ k, v = .bl k ∧ Q (.bl (if neg then !k else k)) H') E
structure OwnEq (K : PySem.W.Frag) (C f : Addr) : Prop where
  eq : Meth K C "__eq__" f
  ne : PySem.W.findIn K (.ref C) "__ne__" = some (some (.builtin "object.__ne__"))
  ob : PySem.W.mroIn K C (.type "object") = some true
  st : PySem.W.notFirst K C (.type "str") = true
section
variable {pins : List (Addr × Obj)} {s : Shared} {σ : L2.St} {H : Hp} {x y : V} {u v : Value} {Q : VK}
theorem run_eqO (O : OwnEq X.K C f) (F : FnG X.prog X.w X.K X.mg X.base CX0 k f fd ps sp) (hb : Binds X.K fd ps []) (hx : Passes CX0 X.nox E) (I : Inv X pins σ H s) (rx : RelV x u) (ry : RelV y v) {B : Around} (hG : GA B) (hr : Room k B) (e0 : Env0 X.prog X.w X.K X.mg X.base B X.stack s H) {R : Value → Shared → Prop}
    {P : Bool → Hp → Prop} (says : sp [x, y] H (fun v H' => ∃ k, v = .bl k ∧ P k H') E) (hq : ∀ k s' G', Inv X pins σ G' s' → P k G' → R (.bool k) s') : wpAny (model X.prog X.w) B (call (.ref f) [u, v]) R X.xe s :=
  wpAny_call (codeAny_mono (F.runG B X.stack s H ⟨[u, v], []⟩ [u, v] [x, y] _ E hG hr e0 (by have := hb s [u, v] I.kIn (F.lenG _ _ _ _ says); simpa using this) (.cons rx (.cons ry .nil)) says) fun r s' cc => by
    match r, cc with
    | .error er, cc => exact (hx pins σ H s er s' (I.wish _) cc).elim
    | .ok (.ret w), cc =>
      obtain ⟨z, G', J, rel, j, rfl, q⟩ := I.after cc
      have rel : w = Value.bool j := rel
      subst rel
      exact hq j s' G' J q
    | .ok .next, cc => exact cc.elim
    | .ok .brk, cc => exact cc.elim
    | .ok .cont, cc => exact cc.elim)
theorem looks_two (O : OwnEq X.K C f) (I : Inv X pins σ H s) (ry : RelV y v) (h : (∃ b dy gs, y = .ref b ∧ H b = some (.ins C dy gs)) ∨ ∃ s, y = .str s) : ∃ tb, PySem.W.Looks (model X.prog X.w) s.heap (typeOf v) tb ∧ PySem.W.notFirst X.K C tb = true := by
  rcases h with ⟨b, dy, gs, rfl, at_⟩ | ⟨t, rfl⟩
  · have ry : v = Value.ref b := ry
    subst ry
    obtain ⟨_, J, _⟩ := ins_get I.hok at_
    obtain ⟨_, J, _⟩ := J.look
    exact ⟨.ref C, J.type, by simp [PySem.W.notFirst]⟩
  · obtain ⟨tk, rfl⟩ := ry
    exact ⟨.type "str", PySem.W.Looks.of_pure rfl, O.st⟩
end
theorem or_eqO (O : OwnEq X.K C f) (F : FnG X.prog X.w X.K X.mg X.base CX0 k f fd ps sp) (hG : GA X.A) (hr : Room (k + 1) X.A) (hb : Binds X.K fd ps []) (hx : Passes CX0 X.nox E) : OpR X (compareOp .Eq) (rEqO false C sp E) := by
  rintro pins s σ H x y u v Q I rx ry ⟨⟨⟨a, dx, fs, rfl, at_⟩, hy⟩, says⟩
  have rx : u = Value.ref a := rx
  subst rx
  obtain ⟨_, J, _⟩ := ins_get I.hok at_
  obtain ⟨_, J, _⟩ := J.look
  obtain ⟨tb, look, nf⟩ := looks_two O I ry hy
  obtain ⟨m, hF⟩ := I.fr
  show wpAny (model X.prog X.w) X.A (richCompare .Eq (.ref a) v) (EP X pins σ Q) X.xe s
  exact PySem.W.cmp_K (op := .Eq) (by have := hr.un; omega) hF I.ok.mod.kin J look nf O.eq.at_ O.eq.fn (run_eqO (x := .ref a) O F hb hx I rfl ry hG (hr.mono (by omega)) I.env0 says fun k s' G' J' q => ⟨.bl k, G', J', rfl, q⟩)
theorem or_neO (O : OwnEq X.K C f) (F : FnG X.prog X.w X.K X.mg X.base CX0 k f fd ps sp) (hG : GA X.A) (hr : Room (k + 1) X.A) (hb : Binds X.K fd ps []) (hx : Passes CX0 X.nox E) : OpR X (compareOp .NotEq) (rEqO true C sp E) := by
  rintro pins s σ H x y u v Q I rx ry ⟨⟨⟨a, dx, fs, rfl, at_⟩, hy⟩, says⟩
  have rx : u = Value.ref a := rx
  subst rx
  obtain ⟨_, J, _⟩ := ins_get I.hok at_
  obtain ⟨_, J, _⟩ := J.look
  obtain ⟨tb, look, nf⟩ := looks_two O I ry hy
  show wpAny (model X.prog X.w) X.A (richCompare .NotEq (.ref a) v) (EP X pins σ Q) X.xe s
  exact ne_own (by have := hr.un; omega) (by have := hr.in1.un; omega) I.kIn J look nf O.ne O.eq.at_ O.eq.fn O.ob (run_eqO (x := .ref a) O F hb hx I rfl ry hG.in1 hr.in1 I.env0.in1 says fun k s' G' J' q => ⟨k, rfl, .bl (!k), G', J', rfl, q⟩)
theorem args_two {σ : L2.St} {H : Hp} {Q : List V → Hp → Prop} (h : TMc g (mCons fa (mCons fb mNil)) (e1 ++ (e2 ++ [])) [] [none, none] σ H Q) : TM g fa e1 [] σ H fun x H1 => TM g fb e2 [] σ H1 fun y H2 => Q [x, y] H2 := by
  obtain ⟨S, Ts, A, ts, Ts', R, run, fin⟩ := h
  obtain ⟨ta, Ts1, ea, run⟩ := bnd_some run
  obtain ⟨tl, Ts2, run, run2⟩ := bnd_some run
  obtain ⟨tb, Ts3, eb, run⟩ := bnd_some run
  obtain ⟨tn, Ts4, en, run⟩ := bnd_some run
  have en : some (([] : List T), Ts3) = some (tn, Ts4) := en
  injection en with en
  injection en with n1 n2
  subst n1
  subst n2
  obtain ⟨r1, r2⟩ := ret_some run
  subst r1
  subst r2
  obtain ⟨r3, r4⟩ := ret_some run2
  subst r3
  subst r4
  refine tm_two (bo := []) (bo2 := []) (fun _ z => nomatch z) R ea eb fun x y H' S' A' Ax Ay R' rx ry ox oxy p st => ?_
  refine fin [x, y] H' S' A' [] (Ax ++ (Ay ++ [])) R' ⟨ta, [tb], x, [y], Ax, Ay ++ [], rfl, rfl, rfl, rx, tb, [], y, [], Ay, [], rfl, rfl, rfl, ry, rfl, rfl, rfl, rfl⟩ Ow.nil ?_ (fun _ z => nomatch z) p ?_
  · rw [List.append_nil]
    exact oxy
  · rw [List.append_nil]
    exact st
theorem pair_of {S : Addr → Prop} {H : Hp} {σ : L2.St} {ts : List T} {xs : List V} {Al Ab : List Addr} (h : pEq cls ts = true) (r : RpC g S H σ [none, none] ts xs Al Ab) : ∃ x y, xs = [x, y] ∧ Pair2 (g.cl cls) x y H := by
  obtain ⟨t, ts', x, xs', B, Ab', rfl, rfl, _, r1, t2, ts2, y, ys, B2, Ab2, rfl, rfl, _, r2, rfl, rfl, _, _⟩ := r
  refine ⟨x, y, rfl, ?_⟩
  unfold pEq at h
  split at h
  · rename_i e
    injection e with e1 e
    injection e with e2 e
    subst e1
    subst e2
    obtain ⟨h1, h2⟩ := Bool.and_eq_true_iff.mp h
    have h1 := of_decide_eq_true h1
    have h2 := of_decide_eq_true h2
    subst h1
    subst h2
    obtain ⟨a, xs, B3, ea, ⟨⟨dx, at1⟩, _⟩, _⟩ := r1
    obtain ⟨b, ys, B4, eb, ⟨⟨dy, at2⟩, _⟩, _⟩ := r2
    exact ⟨⟨a, dx, _, ea, at1⟩, .inl ⟨b, dy, _, eb, at2⟩⟩
  · rename_i e
    injection e with e1 e
    injection e with e2 e
    subst e1
    subst e2
    have h := of_decide_eq_true h
    subst h
    obtain ⟨a, xs, B3, ea, ⟨⟨dx, at1⟩, _⟩, _⟩ := r1
    exact ⟨⟨a, dx, _, ea, at1⟩, .inr ⟨_, r2.1⟩⟩
  · cases h
theorem eqO_te {neg : Bool} {σ : L2.St} {H : Hp} {Q : VK} (h : TM g (mBl (mCall c [none, none] (mChk (pEq cls) (mCons fa (mCons fb mNil))))) (e1 ++ (e2 ++ [])) [] σ H (fun v H' => ∀ k, v = .bl k → Q (.bl (if neg then !k else k)) H')) :
    tOp (rEqO neg (g.cl cls) (spT g [] c) E0) (TM g fa e1 []) (TM g fb e2 []) σ H Q := by
  have h1 := bl_to h
  have h2 := call_r (b1 := []) (io := []) rfl rfl (by intro s hs; simp at hs) σ H _ h1
  have h3 := args_two (chk_to h2)
  refine TM.mono h3 fun x H1 h4 => TM.mono h4 fun y H2 ⟨⟨S', ts, Al, Ab, hp, rc⟩, says⟩ => ?_
  obtain ⟨x', y', e, pr⟩ := pair_of hp rc
  injection e with e1 e
  injection e with e2 _
  subst e1
  subst e2
  refine ⟨pr, ?_⟩
  obtain ⟨S2, ts2, A2, r2, o2, q1, q2, q3, q4, q5, q6⟩ := says
  exact ⟨S2, ts2, A2, r2, o2, q1, q2, q3, q4, q5, fun v H' S3 Ar Ao p1 p2 p3 p4 p5 p6 => by
    obtain ⟨⟨k, ek⟩, q⟩ := q6 v H' S3 Ar Ao p1 p2 p3 p4 p5 p6
    exact ⟨k, ek, q k ek⟩⟩
theorem tm_eqO (O : OwnEq X.K (g.cl cls) f) (F : FnG X.prog X.w X.K X.mg X.base CX0 k f fd ps (spT g [] c)) (hG : GA X.A) (hr : Room (k + 1) X.A) (hbn : Binds X.K fd ps []) (ha : PEm g X a fa e1 []) (hb : PEm g X b fb e2 []) (hm : behindInMarks .Eq b = false := by rfl) :
    PEm g X (.Compare a [.Eq] [b] pos) (mBl (mCall c [none, none] (mChk (pEq cls) (mCons fa (mCons fb mNil))))) (e1 ++ (e2 ++ [])) [] :=
  PE.imp (pe_cmpR (or_eqO O F hG hr hbn pass0) ha hb hm) fun σ H Q h => eqO_te (neg := false) (TM.mono h fun v H' q k e => by subst e; exact q)
theorem not_to {m : M T} {eff bo : List Nat} {σ : L2.St} {H : Hp} {Q : VK} (h : TM g (m1 (fun t => match t with
    | .bl k => some (.bl (!k))
    | _ => none) m) eff bo σ H Q) : TM g m eff bo σ H (fun v H' => ∀ k, v = .bl k → Q (.bl (!k)) H') := by
  obtain ⟨S, Ts, A, t, Ts', R, run, fin⟩ := h
  obtain ⟨ta, Ts1, ea, run⟩ := bnd_some run
  obtain ⟨e1, e2⟩ := lft_some run
  subst e2
  refine ⟨S, Ts, A, ta, _, R, ea, fun x H' S' A' Ax R' rx ox p st k ek => ?_⟩
  cases ta with
  | bl j =>
    have e1 : some (T.bl (!j)) = some t := e1
    injection e1 with e1
    subst e1
    have rx1 : x = .bl j := rx.1
    rw [rx1] at ek
    injection ek with ek
    subst ek
    have hA : Ax = [] := rx.2
    subst hA
    exact fin _ H' S' A' [] R' ⟨rfl, rfl⟩ ox p st
  | _ => cases e1
def fNt (t : T) : Option T := match t with
  | .bl k => some (.bl (!k))
  | _ => none
theorem t_eqO (O : OwnEq X.K (g.cl cls) f) (F : FnG X.prog X.w X.K X.mg X.base CX0 k f fd ps (spT g [] c)) (hG : GA X.A) (hr : Room (k + 1) X.A) (hbn : Binds X.K fd ps []) (ha : PEm g X a fa e1 []) (hb : PEm g X b fb e2 []) (hm : behindInMarks .Eq b = false := by rfl) :
    PTm g X (.Compare a [.Eq] [b] pos) (asB (mBl (mCall c [none, none] (mChk (pEq cls) (mCons fa (mCons fb mNil)))))) (e1 ++ (e2 ++ [])) :=
  PT.imp (pt_cmpR (or_eqO O F hG hr hbn pass0) ha hb hm) (tmt_of fun σ H Q h => eqO_te (neg := false) (TM.mono h fun v H' q k e => by subst e; exact q))
theorem t_neO (O : OwnEq X.K (g.cl cls) f) (F : FnG X.prog X.w X.K X.mg X.base CX0 k f fd ps (spT g [] c)) (hG : GA X.A) (hr : Room (k + 1) X.A) (hbn : Binds X.K fd ps []) (ha : PEm g X a fa e1 []) (hb : PEm g X b fb e2 []) (hm : behindInMarks .NotEq b = false := by rfl) :
    PTm g X (.Compare a [.NotEq] [b] pos) (asB (m1 fNt (mBl (mCall c [none, none] (mChk (pEq cls) (mCons fa (mCons fb mNil))))))) (e1 ++ (e2 ++ [])) :=
  PT.imp (pt_cmpR (or_neO O F hG hr hbn pass0) ha hb hm) (tmt_of fun σ H Q h => eqO_te (neg := true) (not_to h))
end
def ownEqB (c : Str) (K : PySem.W.Frag) : Bool := eqO (PySem.W.findIn K (.ref (ga K c)) "__ne__") (some (some (.builtin "object.__ne__"))) && (decide (PySem.W.mroIn K (ga K c) (.type "object") = some true) && PySem.W.notFirst K (ga K c) (.type "str"))
theorem ownEq_ok {c : Str} {f : Addr} {K : PySem.W.Frag} (h : ownEqB c K = true) (m : Meth K (ga K c) "__eq__" f) : OwnEq K (ga K c) f := by
  obtain ⟨h1, h⟩ := Bool.and_eq_true_iff.mp h
  obtain ⟨h2, h3⟩ := Bool.and_eq_true_iff.mp h
  exact ⟨m, eqO_ok h1, of_decide_eq_true h2, h3⟩
end MI
namespace MI
open PySem PySem.Spec PyProof.Rows L2
section
variable {prog : Program} {w : World} {A : Around} {E : Value → Shared → Prop} {s : Shared} {K : PySem.W.Frag} {x f C : Addr} {ox : Obj} {od : Option Obj}
theorem bound_own {name : Str} {args : List Value} {Q : Option Value → Shared → Prop} (X : K.In s.heap) (I : PySem.W.InstAt s.heap x ox C od) (hs : PySem.W.findIn K (.ref C) name = some (some (.ref f))) (hf : PySem.W.typeIn K (.ref f) = some (.type "function"))
    (h : wpAny (model prog w) A (call (.ref f) (.ref x :: args)) (fun v => Q (some v)) E s) : wpAny (model prog w) A (callSpecialIfBound? (.ref x) name args) Q E s := by
  have fin : wpAny (model prog w) A (call (.ref f) ([.ref x] ++ args) >>= fun v => pure (some v)) Q E s := wpAny_bind (wpAny_mono h (fun v s' h' => wpAny_pure h') fun _ _ h' => h')
  simp only [callSpecialIfBound?, bindSpecialIfBound?, specialOf]
  refine wpAny_holding (wpAny_bind (wpAny_bind (wpAny_bind (I.type.here ((PySem.W.looks_findIn X hs).here ?_)))))
  refine wpAny_bind (wpAny_askSetting (wpAny_ite ?_))
  split
  · exact wpAny_bind ((PySem.W.bind_fn X _ hf).here (wpAny_pure (by exact fin)))
  · exact wpAny_tryCatch (wpAny_bind ((PySem.W.bind_fn X _ hf).here (wpAny_pure (by exact fin))))
theorem repr_obj {Q : Value → Shared → Prop} (hu : A.in1.units < cLine) (X : K.In s.heap) (I : PySem.W.InstAt s.heap x ox C od) (hs : PySem.W.findIn K (.ref C) "__repr__" = some (some (.ref f))) (hf : PySem.W.isFn K (.ref f) = true)
    (h : wpAny (model prog w) A.in1 (call (.ref f) [.ref x]) (PySem.W.StrBack Q) E s) : wpAny (model prog w) A (call (.builtin "repr") [.ref x]) Q E s := by
  refine Calls.call_function_entry F.kind_repr F.plain_repr F.entry_repr (F.args_repr1 _) ?_
  unfold Builtin.«repr»
  refine wpAny_bind (m := oneArg "repr" _) (wpAny_pure ?_)
  refine wpAny_bind (wpAny_cRoomFor hu ?_)
  refine wpAny_bind ?_
  unfold specialOf
  refine wpAny_bind (I.type.here ((PySem.W.looks_findIn X hs).here ?_))
  show wpAny _ _ (if (some (Value.ref f)).isNone = true then _ else _) _ _ _
  rw [if_neg (by simp)]
  refine wpAny_bind (m := callSpecialIfBound? (.ref x) (Str.ofString "__repr__") _) (bound_own X I hs (beq_iff_eq.mp hf) (wpAny_mono h (fun r s' hr => ?_) fun _ _ y => y))
  cases r with
  | str m tk =>
    refine wpAny_bind (wpAny_isInstance (typeIs_str _ _ _) isSubtype_str_str ?_)
    exact wpAny_pure ⟨_, rfl, hr⟩
  | _ => exact hr.elim
end
section
variable {g : Gc} {X : Cx} {CX : CXT} {o e : Expr} {fa : M T} {e1 b1 : List Nat} {p2 pos : Pos} {k : Nat} {C f : Addr} {fd : FuncData} {ps : List Str} {sp : L2.Sp} {E : XK} {c : Cal} {cls : Str}
theorem cr_reprO (hm : Meth X.K C "__repr__" f) (F : FnG X.prog X.w X.K X.mg X.base CX k f fd ps sp) (hG : GA X.A) (hr : Room (k + 1) X.A) (hb : Binds X.K fd ps []) (hx : Passes CX X.nox E) : CallR X (.builtin "repr") (rStrO C sp E) := by
  rintro pins s σ H xs us Q I rel ⟨a, dx, fs, rfl, at_, says⟩
  obtain ⟨u, rfl, ru⟩ := vals1 rel
  have eu : u = Value.ref a := ru
  subst eu
  obtain ⟨_, O, _⟩ := ins_get I.hok at_
  obtain ⟨_, here, _⟩ := O.look
  refine repr_obj (by have := hr.in1.un; omega) I.kIn here hm.at_ hm.fn (wpAny_call (codeAny_mono (F.runG X.A.in1 X.stack s H ⟨[.ref a], []⟩ [.ref a] [.ref a] _ E hG.in1 hr.in1 I.env0.in1 (hb _ [.ref a] I.kIn (F.lenG _ _ _ _ says)) (.cons rfl .nil) says) fun r s' cc => ?_))
  match r, cc with
  | .error er, cc => exact (hx pins σ H s er s' (I.wish _) cc).elim
  | .ok (.ret w), cc =>
    obtain ⟨v, G', J, rel3, ⟨t, rfl⟩, q⟩ := I.after cc
    obtain ⟨tk, rfl⟩ := rel3
    exact ⟨.str t, G', J, ⟨tk, rfl⟩, q⟩
  | .ok .next, cc => exact cc.elim
  | .ok .brk, cc => exact cc.elim
  | .ok .cont, cc => exact cc.elim
theorem b_reprO (hgm : X.mg "repr" = none) (hm : Meth X.K (g.cl cls) "__repr__" f) (F : FnG X.prog X.w X.K X.mg X.base CX0 k f fd ps (spT g [] c)) (hG : GA X.A) (hr : Room (k + 1) X.A) (hb : Binds X.K fd ps []) (ho : PEm g X e fa e1 []) (hg : Gl X "repr" := by rfl)
    (he : starEach [e] X.env = (false, eval e X.env) :: starEach [] X.env := by rfl) (hpl : (backTo pos (starEach [] X.env)).any (·.1) = false := by rfl) :
    PEm g X (.Call (.Name "repr" p2) [e] [] pos) (mTx (mCall c [none] (mCons (mIns cls Str.empty fa) mNil))) e1 [] :=
  PE.imp (pe_callB (cr_reprO hm F hG hr hb pass0) hg hgm boot_repr (pa_cons ho pa_nil he) (by decide) (by decide) he hpl) fun σ H Q h => by
    have h2 := prop_rC (b1 := []) rfl σ H _ (tx_to h)
    exact TM.mono h2 fun x H' ⟨a, dx, fs, w1, w2, w3⟩ => ⟨a, dx, fs, by rw [w1], w2, w3⟩
end
section
variable {X : Cx}
theorem tru_own {C0 : Addr} (h1 : PySem.W.findIn X.K (.ref C0) "__bool__" = some none) (h2 : PySem.W.findIn X.K (.ref C0) "__len__" = some none) : TruR X (fun x H Q => ∃ a dx fs, x = .ref a ∧ H a = some (.ins C0 dx fs) ∧ Q true H) := by
  intro pins s σ H x v Q I rx h
  obtain ⟨a, dx, fs, rfl, at_, q⟩ := h
  cases rx
  obtain ⟨_, O, _⟩ := ins_get I.hok at_
  obtain ⟨_, here, _⟩ := O.look
  unfold truthy
  refine wpAny_bind (m := callSpecial? (.ref a) (Str.ofString "__bool__")) ?_
  unfold callSpecial? specialOf
  refine wpAny_bind (wpAny_bind (here.type.here ((PySem.W.looks_findIn I.kIn h1).here (wpAny_pure ?_))))
  refine wpAny_bind (wpAny_bind (here.type.here ((PySem.W.looks_findIn I.kIn h2).here ?_)))
  exact wpAny_pure ⟨H, I, q⟩
def mOwnT (cls : Str) (fa : M T) : M Bool := bnd fa fun t => bnd (lft (isIns cls Str.empty t)) fun _ => ret true
end
section
variable {g : Gc} {X : Cx} {a : Expr} {fa : M T} {e1 b1 : List Nat} {cls : Str}
theorem tmt_own (hK : g.K = X.K) (h1 : PySem.W.findIn X.K (.ref (g.cl cls)) "__bool__" = some none) (h2 : PySem.W.findIn X.K (.ref (g.cl cls)) "__len__" = some none) (ha : PEm g X a fa e1 b1)
    (he : ∀ whole, isTrue a X.env whole = (do let v ← whole; standAt a.pos; holding [v] (truthy v)) := by intro _; rfl) : PTm g X a (mOwnT cls fa) e1 :=
  PT.imp (pt_truthR ha (tru_own h1 h2) he) fun σ H Q h => by
    obtain ⟨S, Ts, A, t, Ts', R0, e, k⟩ := h
    obtain ⟨ta, Ts1, ea, eb⟩ := bnd_some e
    obtain ⟨tb, Ts2, ec, ed⟩ := bnd_some eb
    obtain ⟨ek, rfl⟩ := lft_some ec
    have ed : some (true, Ts2) = some (t, Ts') := ed
    injection ed with ed
    injection ed with d1 d2
    subst d1; subst d2
    refine ⟨S, Ts, A, ta, Ts2, R0, ea, fun x H' S' A' Ax R' rx o p s => ?_⟩
    obtain ⟨_, b, dx, fs, ex, eb', _⟩ := isIns_ok rx ek
    exact ⟨b, dx, fs, ex, eb', k H' S' A' R' p s⟩
end
end MI
namespace MI
open PySem PySem.Spec PyProof.Rows L2 He
abbrev PG : Program := PySem.Challenge.pw_pairsums_k02_tables_made_and_told
def top (i : Nat) : Stmt := PG.main.body.getD i (.Pass ⟨0, 0, 0, 0⟩)
def clsB : Stmt → List Stmt
  | .ClassDef (body := b) .. => b
  | _ => []
def sub (i j : Nat) : Stmt := (clsB (top i)).getD j (.Pass ⟨0, 0, 0, 0⟩)
def fn : List He5.DefA := [dfA (fun K => ga K "_law_dip") "_law_dip" "_law_dip" (defArgs (top 35)) (defBody (top 35)) (defScope (top 35)), dfA (fun K => ga K "_law_one_of") "_law_one_of" "_law_one_of" (defArgs (top 36)) (defBody (top 36)) (defScope (top 36)), dfA (fun K => ga K "_law_labels") "_law_labels" "_law_labels" (defArgs (top 37)) (defBody (top 37)) (defScope (top 37)), dfA (fun K => ga K "_law_some_kind") "_law_some_kind" "_law_some_kind" (defArgs (top 38)) (defBody (top 38)) (defScope (top 38)), dfA (fun K => ga K "_law_full") "_law_full" "_law_full" (defArgs (top 46)) (defBody (top 46)) (defScope (top 46)), dfA (fun K => ga K "_law_chart") "_law_chart" "_law_chart" (defArgs (top 39)) (defBody (top 39)) (defScope (top 39)), dfA (fun K => ga K "_law_page") "_law_page" "_law_page" (defArgs (top 41)) (defBody (top 41)) (defScope (top 41)), dfA (fun K => ga K "is_one_of") "is_one_of" "is_one_of" (defArgs (top 20)) (defBody (top 20)) (defScope (top 20)), dfA (fun K => ga K "is_integer") "is_integer" "is_integer" (defArgs (top 17)) (defBody (top 17)) (defScope (top 17)), dfA (fun K => ga K "is_between") "is_between" "is_between" (defArgs (top 18)) (defBody (top 18)) (defScope (top 18)), dfA (fun K => ga K "is_kind") "is_kind" "is_kind" (defArgs (top 23)) (defBody (top 23)) (defScope (top 23)), dfA (fun K => ga K "is_name") "is_name" "is_name" (defArgs (top 19)) (defBody (top 19)) (defScope (top 19)), dfA (fun K => ga K "are_fresh") "are_fresh" "are_fresh" (defArgs (top 25)) (defBody (top 25)) (defScope (top 25)), dfA (fun K => ga K "is_column") "is_column" "is_column" (defArgs (top 26)) (defBody (top 26)) (defScope (top 26)), dfA (fun K => ga K "form_until") "form_until" "form_until" (defArgs (top 27)) (defBody (top 27)) (defScope (top 27)), dfA (fun K => ga K "are_different") "are_different" "are_different" (defArgs (top 21)) (defBody (top 21)) (defScope (top 21)), dfA (fun K => ga K "is_pair") "is_pair" "is_pair" (defArgs (top 28)) (defBody (top 28)) (defScope (top 28)), dfA (fun K => ga K "data_until") "data_until" "data_until" (defArgs (top 29)) (defBody (top 29)) (defScope (top 29)), dfA (fun K => ga K "parts_from") "parts_from" "parts_from" (defArgs (top 33)) (defBody (top 33)) (defScope (top 33)), dfA (fun K => ma K (ga K "Table") "__init__") "__init__" "Table.__init__" (defArgs (sub 32 0)) (defBody (sub 32 0)) (defScope (sub 32 0)), dfA (fun K => ga K "_law_made") "_law_made" "_law_made" (defArgs (top 40)) (defBody (top 40)) (defScope (top 40)), dfA (fun K => ma K (ga K "Table") "__str__") "__str__" "Table.__str__" (defArgs (sub 32 11)) (defBody (sub 32 11)) (defScope (sub 32 11)), dfA (fun K => pgA K "Table" "cells") "cells" "Table.cells" (defArgs (sub 32 5)) (defBody (sub 32 5)) (defScope (sub 32 5)), dfA (fun K => pgA K "Table" "data") "data" "Table.data" (defArgs (sub 32 4)) (defBody (sub 32 4)) (defScope (sub 32 4)), dfA (fun K => pgA K "Table" "sums") "sums" "Table.sums" (defArgs (sub 32 3)) (defBody (sub 32 3)) (defScope (sub 32 3)), dfA (fun K => pgA K "Table" "names") "names" "Table.names" (defArgs (sub 32 2)) (defBody (sub 32 2)) (defScope (sub 32 2)), dfA (fun K => ga K "_law_pairs") "_law_pairs" "_law_pairs" (defArgs (top 43)) (defBody (top 43)) (defScope (top 43)), dfA (fun K => ga K "_law_tags") "_law_tags" "_law_tags" (defArgs (top 42)) (defBody (top 42)) (defScope (top 42)), dfA (fun K => ga K "_law_places") "_law_places" "_law_places" (defArgs (top 44)) (defBody (top 44)) (defScope (top 44)), dfA (fun K => ma K (ga K "Table") "__repr__") "__repr__" "Table.__repr__" (defArgs (sub 32 12)) (defBody (sub 32 12)) (defScope (sub 32 12)), dfA (fun K => ma K (ga K "Table") "__eq__") "__eq__" "Table.__eq__" (defArgs (sub 32 10)) (defBody (sub 32 10)) (defScope (sub 32 10)), dfA (fun K => ga K "number_in") "number_in" "number_in" (defArgs (top 22)) (defBody (top 22)) (defScope (top 22)), dfA (fun K => ga K "parts_in") "parts_in" "parts_in" (defArgs (top 30)) (defBody (top 30)) (defScope (top 30)), dfA (fun K => ga K "table_with") "table_with" "table_with" (defArgs (top 31)) (defBody (top 31)) (defScope (top 31)), dfA (fun K => sta K "Table" "read") "read" "Table.read" (defArgs (sub 32 1)) (defBody (sub 32 1)) (defScope (sub 32 1)), dfA (fun K => ga K "_law_right") "_law_right" "_law_right" (defArgs (top 47)) (defBody (top 47)) (defScope (top 47)), dfA (fun K => ga K "_law_jar") "_law_jar" "_law_jar" (defArgs (top 45)) (defBody (top 45)) (defScope (top 45)), dfA (fun K => ga K "law") "law" "law" (defArgs (top 48)) (defBody (top 48)) (defScope (top 48))]
def fa : List (PySem.W.Frag → Bool) := [fun K => (Fa.free "divmod").ok K, fun K => (Fa.free "int").ok K, fun K => (Fa.free "len").ok K, fun K => (Fa.glo "_law_dip").ok K, fun K => (Fa.free "range").ok K, fun K => (Fa.glo "_law_one_of").ok K, fun K => (Fa.free "max").ok K, fun K => (Fa.free "min").ok K, fun K => (Fa.glo "_law_labels").ok K, fun K => (Fa.glo "_law_some_kind").ok K, fun K => (Fa.free "str").ok K, fun K => (Fa.free "isinstance").ok K, fun K => (Fa.free "bool").ok K, fun K => (Fa.glo "is_integer").ok K, fun K => (Fa.str "PLAIN" "plain").ok K, fun K => (Fa.str "BITS" "bits").ok K, fun K => (Fa.int "MOST_DIAL" 1000000000).ok K, fun K => (Fa.int "LEAST_DIAL" 3).ok K, fun K => (Fa.glo "is_one_of").ok K, fun K => (Fa.glo "is_between").ok K, fun K => (Fa.int "MOST_LETTERS" 8).ok K, fun K => (Fa.str "LETTERS" "abcdefghijklmnopqrstuvwxyz").ok K, fun K => (Fa.free "all").ok K, fun K => (Fa.free "tuple").ok K, fun K => (Fa.free "set").ok K, fun K => (Fa.glo "is_name").ok K, fun K => (Fa.glo "are_fresh").ok K, fun K => (Fa.free "enumerate").ok K, fun K => (Fa.int "MOST_COLUMNS" 8).ok K, fun K => (Fa.glo "is_column").ok K, fun K => (Fa.glo "are_different").ok K, fun K => (Fa.int "MOST_SUMS" 10).ok K, fun K => (Fa.int "MOST_DATA" 24).ok K, fun K => (Fa.glo "is_pair").ok K, fun K => (Fa.free "list").ok K, fun K => (Fa.cls "Table").ok K, fun K => (Fa.noat "Table" "kind").ok K, fun K => (Fa.noat "Table" "columns").ok K, fun K => (Fa.noat "Table" "held").ok K, fun K => (Fa.glo "is_kind").ok K, fun K => (Fa.glo "form_until").ok K, fun K => (Fa.glo "data_until").ok K, fun K => (Fa.glo "parts_from").ok K, fun K => (Fa.glo "Table").ok K, fun K => (Fa.mkr "Table").ok K, prB "Table" "data", prB "Table" "sums", isiB "Table" ["Table"], fun K => (Fa.meth "Table" "__str__").ok K, fun K => (Fa.str "DIGITS" "0123456789").ok K, fun K => (Fa.glo "number_in").ok K, fun K => (Fa.glo "parts_in").ok K, fun K => (Fa.glo "table_with").ok K, fun K => (Fa.free "repr").ok K, fun K => (Fa.noat "Table" "__bool__").ok K, fun K => (Fa.noat "Table" "__len__").ok K, prB "Table" "cells", prB "Table" "names", fun K => (Fa.meth "Table" "__repr__").ok K, staB "Table" "read", ownEqB "Table", fun K => (Fa.meth "Table" "__eq__").ok K, fun K => (Fa.glo "_law_full").ok K, fun K => (Fa.glo "_law_chart").ok K, fun K => (Fa.glo "_law_page").ok K, fun K => (Fa.glo "_law_made").ok K, fun K => (Fa.glo "_law_pairs").ok K, fun K => (Fa.glo "_law_tags").ok K, fun K => (Fa.glo "_law_places").ok K, fun K => (Fa.free "abs").ok K, fun K => (Fa.glo "_law_right").ok K, fun K => (Fa.glo "_law_jar").ok K, fun K => (Fa.glo "law").ok K]
abbrev tbs (K : PySem.W.Frag) : List (Addr × Str) := []
abbrev GG (K : PySem.W.Frag) : Gc := ⟨K, ga K, tbs K⟩
def nm0 : List PySem.Str := ["_wall", "__name__", "WrongValue", "InvalidText", "InvalidKind", "InvalidColumns", "MOST_COLUMNS", "MOST_SUMS", "MOST_DATA", "LEAST_DIAL", "MOST_DIAL", "LETTERS", "DIGITS", "MOST_LETTERS", "BITS", "PLAIN", "is_integer", "is_between", "is_name", "is_one_of", "are_different", "number_in", "is_kind", "are_fresh", "is_column", "form_until", "is_pair", "data_until", "parts_in", "table_with"]
def nm1 : List PySem.Str := ["Table", "parts_from", "_law_dip", "_law_one_of", "_law_labels", "_law_some_kind", "_law_chart", "_law_made", "_law_page", "_law_tags", "_law_pairs", "_law_places", "_law_jar", "_law_full", "_law_right"]
def names : List PySem.Str := nm0 ++ nm1
abbrev R : PySem.W.OpenRow := PySem.W.OpenLaw.row PySem.Challenge.rw_pairsums_k02_tables_made_and_told
abbrev hk : PySem.W.Hook := hookM fa fn
abbrev qv : Program := PySem.W.view R.prog [48]
def ob (s : PySem.W.SharedT) : Bool × AlD := lookG fa fn (HandSHeadRun.getT s)
theorem ob_eq (s : PySem.W.SharedT) : ob s = hk.obs s.abs := lookG_eq (HandSHeadRun.getT_eq s)
open PySem.W PySem.Calls PyProof.Rows in
theorem run1 (w : World) (os : OsState) : (HandSHeadRun.endF (HandSHeadRun.stepQ (HandSHeadRun.denQ HandSHeadRun.tabQ) R.prog w) 10000 R.prog w os).map (fun x => (HandSHeadRun.looksF R.prog (boot_heap w.params) x.abs, HandSHeadRun.seenQ qv names (importedModules R.prog.main.body) (fun s => PySem.W.xlAt qv [] s && PySem.W.recOk R.toRowW.records s) x.abs)) = some (true, PySem.W.openGood qv names) := by kernel_rfl
theorem run2 (w : World) (os : OsState) : (HandSHeadRun.endF (HandSHeadRun.stepQ (HandSHeadRun.denQ HandSHeadRun.tabQ) R.prog w) 10000 R.prog w os).map (fun x => ob x) = some (hk.val w) := by kernel_rfl
theorem run (w : World) : HandSHeadRun.RunEq R qv hk ob 10000 names w := fun os => run_two (run1 w os) (run2 w os)
section
variable {w : World} {K : PySem.W.Frag} {mg : Str → Option Value} {base h : Heap}
def N__law_dip : List Str := ["_law_jar_here", "_law_top", "_law_digit"]
def m__law_dip : M Fl := (mSeq (mSetI 0 (mHere 0) (mC (.int 2)) (mFrz (m2 fAdd (m2 fIx (mRd 0) (mC (.int 2))) (mC (.int 1))))) (mSeq (mIfS (asB (m2 fGt (m2 fIx (mRd 0) (mC (.int 0))) (mC (.int 0)))) (mSeq (mSetP 0 (mHere 0) (mC (.int 0)) 2 (mF (c2 fDivmod) (mCons (m2 fIx (mRd 0) (mC (.int 0))) (mCons (mRd 1) mNil)))) (mRet (mIm (mRd 2)))) (ret .nx)) (mSeq (mSetI 0 (mHere 0) (mC (.int 1)) (m2 (fII iMod) (mF (c1 fInt) (mCons (m2 fAdd (m2 fMul (m2 fIx (mRd 0) (mC (.int 1))) (mC (.int 48271))) (m2 fMul (mC (.int 30011)) (m2 fIx (mRd 0) (mC (.int 2))))) mNil)) (mC (.int 2147483399)))) (mRet (m2 (fII iMod) (mF (c1 fInt) (mCons (m2 (fII iDiv) (m2 fIx (mRd 0) (mC (.int 1))) (mC (.int 512))) mNil)) (mRd 1))))))
def c__law_dip : Cal := runB 2 3 [0] m__law_dip
theorem f__law_dip (c : SaysM fa fn K) (KX : K.In h) (Gm : h.Ns mainGlobals mg) : ∃ fd, (∀ base : Heap, FnG PG w K mg base CX0 2 (ga K "_law_dip") fd ["_law_jar_here", "_law_top"] (spT (GG K) [0] c__law_dip)) ∧ Binds K fd ["_law_jar_here", "_law_top"] [] ∧ KwB K fd ["_law_jar_here", "_law_top"] 0 ∧ FunD K "_law_dip" "_law_dip" (defArgs (top 35)) (defBody (top 35)) (defScope (top 35)) [] [] (ga K "_law_dip") fd := by
  obtain ⟨fd, FD⟩ := c.defs.def_ 0
  have h_free_divmod := free_ok KX Gm (c.fact 0)
  have h_free_int := free_ok KX Gm (c.fact 1)
  refine ⟨fd, fun base => ?bd0, FunD.bindsN FD fun kV doc pm an cdv ct us hl => ?b1, FunD.kwb FD fun kV doc pm an cdv ct us ws hl hl2 => ?b2, FD⟩
  case bd0 =>
    refine fn_g (N := N__law_dip) (m := m__law_dip) FD ⟨rfl, rfl, rfl, by decide +kernel, rfl, by decide +kernel, by decide +kernel⟩ (by decide) ?_
    intro cdv A outer s H E hG hr
    have hN : (cxOf CX0 PG w K mg base N__law_dip "_law_dip" (defScope (top 35)) (ga K "_law_dip") cdv A outer s H E).nox.N.Nodup := (by decide : N__law_dip.Nodup)
    exact ⟨_, _, (tss_cons (ts_setI (tm_frz (x_add (x_ix hr (v 0) tm_int) tm_int)) (hv 0) tm_int) (tss_cons (ts_if (t_cmp cGt (x_ix hr (v 0) tm_int) tm_int) (tss_cons (ts_setP rfl rfl (b_divmod h_free_divmod (tms_cons (x_ix hr (v 0) tm_int) (tms_cons (v 1) tms_nil))) (hv 0) tm_int (pg_name hN rfl (.inl rfl) (.inl rfl))) (tss_one (ts_ret (vi 2)))) tss_nil) (tss_cons (ts_setI (x_mod (b_int h_free_int (tms_cons (x_add (x_mul (x_ix hr (v 0) tm_int) tm_int) (x_mul tm_int (x_ix hr (v 0) tm_int))) tms_nil)) tm_int) (hv 0) tm_int) (tss_one (ts_ret (x_mod (b_int h_free_int (tms_cons (x_div (x_ix hr (v 0) tm_int) tm_int) tms_nil)) (v 1))))))), by decide⟩
  case b1 => exact match us, hl with | [_, _], _ => rfl
  case b2 => exact match us, ws, hl, hl2 with | [], [_, _], _, _ => rfl
def N__law_one_of : List Str := ["_law_jar_here", "_law_some"]
def m__law_one_of : M Fl := (mRet (mIm (m2 fIx (mRd 1) (mCall c__law_dip [(some 0), none] (mCons (mLn 0) (mCons (mF (c1 fLen) (mCons (mRd 1) mNil)) mNil))))))
def c__law_one_of : Cal := runB 2 2 [0] m__law_one_of
theorem f__law_one_of (c : SaysM fa fn K) (KX : K.In h) (Gm : h.Ns mainGlobals mg) : ∃ fd, (∀ base : Heap, FnG PG w K mg base CX0 4 (ga K "_law_one_of") fd ["_law_jar_here", "_law_some"] (spT (GG K) [0] c__law_one_of)) ∧ Binds K fd ["_law_jar_here", "_law_some"] [] ∧ KwB K fd ["_law_jar_here", "_law_some"] 0 ∧ FunD K "_law_one_of" "_law_one_of" (defArgs (top 36)) (defBody (top 36)) (defScope (top 36)) [] [] (ga K "_law_one_of") fd := by
  obtain ⟨fd, FD⟩ := c.defs.def_ 1
  have h_free_len := free_ok KX Gm (c.fact 2)
  obtain ⟨fd__law_dip, F__law_dip, b__law_dip, w__law_dip, d__law_dip⟩ := f__law_dip (w := w) c KX Gm
  have k__law_dip := d__law_dip.kp
  have g__law_dip := glo_ok KX Gm (c.fact 3)
  refine ⟨fd, fun base => ?bd0, FunD.bindsN FD fun kV doc pm an cdv ct us hl => ?b1, FunD.kwb FD fun kV doc pm an cdv ct us ws hl hl2 => ?b2, FD⟩
  case bd0 =>
    have F__law_dip := F__law_dip base
    refine fn_g (N := N__law_one_of) (m := m__law_one_of) FD ⟨rfl, rfl, rfl, by decide +kernel, rfl, by decide +kernel, by decide +kernel⟩ (by decide) ?_
    intro cdv A outer s H E hG hr
    have hN : (cxOf CX0 PG w K mg base N__law_one_of "_law_one_of" (defScope (top 36)) (ga K "_law_one_of") cdv A outer s H E).nox.N.Nodup := (by decide : N__law_one_of.Nodup)
    exact ⟨_, _, (tss_one (ts_ret (tm_im (x_ix hr (v 1) (tm_call (F__law_dip.monoG (by decide)) hG hr (by rfl) g__law_dip k__law_dip b__law_dip (tmc_lend (nv 0) (tmc_arg (b_len h_free_len (tms_cons (v 1) tms_nil)) tmc_nil))))))), by decide⟩
  case b1 => exact match us, hl with | [_, _], _ => rfl
  case b2 => exact match us, ws, hl, hl2 with | [], [_, _], _, _ => rfl
def N__law_labels : List Str := ["_law_jar_here", "_law_menu", "_law_found", "_law_start", "_law_gap", "_law_k"]
def m__law_labels : M Fl := (mSeq (mPar 1 2 (mCons (mFrz (mLst (mCons (mC (.str "p")) (mCons (mC (.str "q")) (mCons (mC (.str "r")) (mCons (mC (.str "s")) (mCons (mC (.str "t")) (mCons (mC (.str "u")) (mCons (mC (.str "kind")) (mCons (mC (.str "column")) (mCons (mC (.str "sum")) (mCons (mC (.str "datum")) (mCons (mC (.str "bits")) (mCons (mC (.str "plain")) (mCons (mC (.str "a")) (mCons (mC (.str "b")) mNil)))))))))))))))) (mCons (mLst mNil) mNil))) (mSeq (mSet 1 (mFrz (m2 fAdd (mRd 1) (mLst (mCons (mC (.str "ab")) (mCons (mC (.str "zzzzzzzz")) (mCons (mC (.str "rr")) (mCons (mC (.str "none")) mNil)))))))) (mSeq (mPar 3 4 (mCons (mFrz (mCall c__law_dip [(some 0), none] (mCons (mLn 0) (mCons (mC (.int 18)) mNil)))) (mCons (mFrz (mCall c__law_one_of [(some 0), none] (mCons (mLn 0) (mCons (mFrz (mLst (mCons (mC (.int 1)) (mCons (mC (.int 5)) (mCons (mC (.int 7)) (mCons (mC (.int 11)) mNil)))))) mNil)))) mNil))) (mSeq (mFor (mRng rng1 (mCons (mC (.int 18)) mNil)) (mPut 5) (mDrop (mMut 2 (mHere 2) isLst (mCons (mIm (m2 fIx (mRd 1) (m2 (fII iMod) (mF (c1 fInt) (mCons (m2 fAdd (mRd 3) (m2 fMul (mRd 4) (mRd 5))) mNil)) (mC (.int 18))))) mNil) fAppend))) (mRet (mMv 2))))))
def c__law_labels : Cal := runB 1 6 [0] m__law_labels
theorem f__law_labels (c : SaysM fa fn K) (KX : K.In h) (Gm : h.Ns mainGlobals mg) : ∃ fd, (∀ base : Heap, FnG PG w K mg base CX0 6 (ga K "_law_labels") fd ["_law_jar_here"] (spT (GG K) [0] c__law_labels)) ∧ Binds K fd ["_law_jar_here"] [] ∧ KwB K fd ["_law_jar_here"] 0 ∧ FunD K "_law_labels" "_law_labels" (defArgs (top 37)) (defBody (top 37)) (defScope (top 37)) [] [] (ga K "_law_labels") fd := by
  obtain ⟨fd, FD⟩ := c.defs.def_ 2
  have h_free_range := free_ok KX Gm (c.fact 4)
  have h_free_int := free_ok KX Gm (c.fact 1)
  obtain ⟨fd__law_one_of, F__law_one_of, b__law_one_of, w__law_one_of, d__law_one_of⟩ := f__law_one_of (w := w) c KX Gm
  have k__law_one_of := d__law_one_of.kp
  have g__law_one_of := glo_ok KX Gm (c.fact 5)
  obtain ⟨fd__law_dip, F__law_dip, b__law_dip, w__law_dip, d__law_dip⟩ := f__law_dip (w := w) c KX Gm
  have k__law_dip := d__law_dip.kp
  have g__law_dip := glo_ok KX Gm (c.fact 3)
  refine ⟨fd, fun base => ?bd0, FunD.bindsN FD fun kV doc pm an cdv ct us hl => ?b1, FunD.kwb FD fun kV doc pm an cdv ct us ws hl hl2 => ?b2, FD⟩
  case bd0 =>
    have F__law_one_of := F__law_one_of base
    have F__law_dip := F__law_dip base
    refine fn_g (N := N__law_labels) (m := m__law_labels) FD ⟨rfl, rfl, rfl, by decide +kernel, rfl, by decide +kernel, by decide +kernel⟩ (by decide) ?_
    intro cdv A outer s H E hG hr
    have hN : (cxOf CX0 PG w K mg base N__law_labels "_law_labels" (defScope (top 37)) (ga K "_law_labels") cdv A outer s H E).nox.N.Nodup := (by decide : N__law_labels.Nodup)
    exact ⟨_, _, (tss_cons (s_par 1 2 rfl (tms_cons (tm_frz (tm_lst (tms_cons tm_str (tms_cons tm_str (tms_cons tm_str (tms_cons tm_str (tms_cons tm_str (tms_cons tm_str (tms_cons tm_str (tms_cons tm_str (tms_cons tm_str (tms_cons tm_str (tms_cons tm_str (tms_cons tm_str (tms_cons tm_str (tms_cons tm_str tms_nil)))))))))))))))) (tms_cons (tm_lst tms_nil) tms_nil)) hN) (tss_cons (s_set 1 (tm_frz (x_add (v 1) (tm_lst (tms_cons tm_str (tms_cons tm_str (tms_cons tm_str (tms_cons tm_str tms_nil))))))) hN) (tss_cons (s_par 3 4 rfl (tms_cons (tm_frz (tm_call (F__law_dip.monoG (by decide)) hG hr (by rfl) g__law_dip k__law_dip b__law_dip (tmc_lend (nv 0) (tmc_arg tm_int tmc_nil)))) (tms_cons (tm_frz (tm_call (F__law_one_of.monoG (by decide)) hG hr (by rfl) g__law_one_of k__law_one_of b__law_one_of (tmc_lend (nv 0) (tmc_arg (tm_frz (tm_lst (tms_cons tm_int (tms_cons tm_int (tms_cons tm_int (tms_cons tm_int tms_nil)))))) tmc_nil)))) tms_nil)) hN) (tss_cons (ts_for passNox rfl (it_range1 (by rfl) h_free_range (tms_cons tm_int tms_nil)) (gN 5 hN) (tss_one (ts_expr (l_append (hv 2) (tm_im (x_ix hr (v 1) (x_mod (b_int h_free_int (tms_cons (x_add (v 3) (x_mul (v 4) (v 5))) tms_nil)) tm_int))))))) (tss_one (ts_ret (vm 2))))))), by decide⟩
  case b1 => exact match us, hl with | [_], _ => rfl
  case b2 => exact match us, ws, hl, hl2 with | [], [_], _, _ => rfl
def N__law_some_kind : List Str := ["_law_jar_here"]
def m__law_some_kind : M Fl := (mRet (mCall c__law_one_of [(some 0), none] (mCons (mLn 0) (mCons (mFrz (mLst (mCons (mC (.str "bits")) (mCons (mC (.str "plain")) (mCons (mC (.str "bits")) (mCons (mC (.str "plain")) (mCons (mC (.int 3)) (mCons (mC (.int 4)) (mCons (mC (.int 12)) (mCons (mC (.int 9)) (mCons (m2 (fII iPow) (mC (.int 10)) (mC (.int 9))) (mCons (mC (.int 7)) mNil)))))))))))) mNil))))
def c__law_some_kind : Cal := runB 1 1 [0] m__law_some_kind
theorem f__law_some_kind (c : SaysM fa fn K) (KX : K.In h) (Gm : h.Ns mainGlobals mg) : ∃ fd, (∀ base : Heap, FnG PG w K mg base CX0 6 (ga K "_law_some_kind") fd ["_law_jar_here"] (spT (GG K) [0] c__law_some_kind)) ∧ Binds K fd ["_law_jar_here"] [] ∧ KwB K fd ["_law_jar_here"] 0 ∧ FunD K "_law_some_kind" "_law_some_kind" (defArgs (top 38)) (defBody (top 38)) (defScope (top 38)) [] [] (ga K "_law_some_kind") fd := by
  obtain ⟨fd, FD⟩ := c.defs.def_ 3
  obtain ⟨fd__law_one_of, F__law_one_of, b__law_one_of, w__law_one_of, d__law_one_of⟩ := f__law_one_of (w := w) c KX Gm
  have k__law_one_of := d__law_one_of.kp
  have g__law_one_of := glo_ok KX Gm (c.fact 5)
  refine ⟨fd, fun base => ?bd0, FunD.bindsN FD fun kV doc pm an cdv ct us hl => ?b1, FunD.kwb FD fun kV doc pm an cdv ct us ws hl hl2 => ?b2, FD⟩
  case bd0 =>
    have F__law_one_of := F__law_one_of base
    refine fn_g (N := N__law_some_kind) (m := m__law_some_kind) FD ⟨rfl, rfl, rfl, by decide +kernel, rfl, by decide +kernel, by decide +kernel⟩ (by decide) ?_
    intro cdv A outer s H E hG hr
    have hN : (cxOf CX0 PG w K mg base N__law_some_kind "_law_some_kind" (defScope (top 38)) (ga K "_law_some_kind") cdv A outer s H E).nox.N.Nodup := (by decide : N__law_some_kind.Nodup)
    exact ⟨_, _, (tss_one (ts_ret (tm_call (F__law_one_of.monoG (by decide)) hG hr (by rfl) g__law_one_of k__law_one_of b__law_one_of (tmc_lend (nv 0) (tmc_arg (tm_frz (tm_lst (tms_cons tm_str (tms_cons tm_str (tms_cons tm_str (tms_cons tm_str (tms_cons tm_int (tms_cons tm_int (tms_cons tm_int (tms_cons tm_int (tms_cons (x_pow tm_int tm_int) (tms_cons tm_int tms_nil)))))))))))) tmc_nil))))), by decide⟩
  case b1 => exact match us, hl with | [_], _ => rfl
  case b2 => exact match us, ws, hl, hl2 with | [], [_], _, _ => rfl
def N__law_full : List Str := ["_law_jar_here", "_law_labels_here", "_law_found", "_law_k", "_law_tag", "_law_turn", "_law_one", "_law_two"]
def m__law_full : M Fl := (mSeq (mPar 1 2 (mCons (mFrz (mCall c__law_labels [(some 0)] (mCons (mLn 0) mNil))) (mCons (mLst mNil) mNil))) (mSeq (mFor (mRng rng1 (mCons (mC (.int 8)) mNil)) (mPut 3) (mDrop (mMut 2 (mHere 2) isLst (mCons (mLst (mCons (mIm (m2 fIx (mRd 1) (mRd 3))) (mCons (mLst mNil) (mCons (mLst mNil) mNil)))) mNil) fAppend))) (mSeq (mFor (mItA (mSl fCut (mRd 1) (mPt (mC (.int 8))) mNoP)) (mPut 4) (mDrop (mMut 2 (mStepL 2 (mStepL 2 (mHere 2) (mCall c__law_dip [(some 0), none] (mCons (mLn 0) (mCons (mC (.int 8)) mNil)))) (mC (.int 1))) isLst (mCons (mIm (mRd 4)) mNil) fAppend))) (mSeq (mFor (mRng rng1 (mCons (mC (.int 24)) mNil)) (mPut 5) (mSeq (mSet 3 (mFrz (mCall c__law_dip [(some 0), none] (mCons (mLn 0) (mCons (mC (.int 9)) mNil))))) (mSeq (mPar 6 7 (mCons (mIm (m2 fIx (mRd 1) (m2 fAdd (mC (.int 8)) (mRd 3)))) (mCons (mIm (m2 fIx (mRd 1) (m2 fAdd (mC (.int 9)) (mRd 3)))) mNil))) (mDrop (mMut 2 (mStepL 2 (mStepL 2 (mHere 2) (mCall c__law_dip [(some 0), none] (mCons (mLn 0) (mCons (mC (.int 8)) mNil)))) (mC (.int 2))) isLst (mCons (mFrz (mTup (mCons (mF (c2 fMin) (mCons (mRd 6) (mCons (mRd 7) mNil))) (mCons (mF (c2 fMax) (mCons (mRd 6) (mCons (mRd 7) mNil))) mNil)))) mNil) fAppend))))) (mRet (mLst (mCons (mFrz (mCall c__law_some_kind [(some 0)] (mCons (mLn 0) mNil))) (mCons (mFz 2) mNil))))))))
def c__law_full : Cal := runB 1 8 [0] m__law_full
theorem f__law_full (c : SaysM fa fn K) (KX : K.In h) (Gm : h.Ns mainGlobals mg) : ∃ fd, (∀ base : Heap, FnG PG w K mg base CX0 8 (ga K "_law_full") fd ["_law_jar_here"] (spT (GG K) [0] c__law_full)) ∧ Binds K fd ["_law_jar_here"] [] ∧ KwB K fd ["_law_jar_here"] 0 ∧ FunD K "_law_full" "_law_full" (defArgs (top 46)) (defBody (top 46)) (defScope (top 46)) [] [] (ga K "_law_full") fd := by
  obtain ⟨fd, FD⟩ := c.defs.def_ 4
  have h_free_range := free_ok KX Gm (c.fact 4)
  have h_free_max := free_ok KX Gm (c.fact 6)
  have h_free_min := free_ok KX Gm (c.fact 7)
  obtain ⟨fd__law_labels, F__law_labels, b__law_labels, w__law_labels, d__law_labels⟩ := f__law_labels (w := w) c KX Gm
  have k__law_labels := d__law_labels.kp
  have g__law_labels := glo_ok KX Gm (c.fact 8)
  obtain ⟨fd__law_dip, F__law_dip, b__law_dip, w__law_dip, d__law_dip⟩ := f__law_dip (w := w) c KX Gm
  have k__law_dip := d__law_dip.kp
  have g__law_dip := glo_ok KX Gm (c.fact 3)
  obtain ⟨fd__law_some_kind, F__law_some_kind, b__law_some_kind, w__law_some_kind, d__law_some_kind⟩ := f__law_some_kind (w := w) c KX Gm
  have k__law_some_kind := d__law_some_kind.kp
  have g__law_some_kind := glo_ok KX Gm (c.fact 9)
  refine ⟨fd, fun base => ?bd0, FunD.bindsN FD fun kV doc pm an cdv ct us hl => ?b1, FunD.kwb FD fun kV doc pm an cdv ct us ws hl hl2 => ?b2, FD⟩
  case bd0 =>
    have F__law_labels := F__law_labels base
    have F__law_dip := F__law_dip base
    have F__law_some_kind := F__law_some_kind base
    refine fn_g (N := N__law_full) (m := m__law_full) FD ⟨rfl, rfl, rfl, by decide +kernel, rfl, by decide +kernel, by decide +kernel⟩ (by decide) ?_
    intro cdv A outer s H E hG hr
    have hN : (cxOf CX0 PG w K mg base N__law_full "_law_full" (defScope (top 46)) (ga K "_law_full") cdv A outer s H E).nox.N.Nodup := (by decide : N__law_full.Nodup)
    exact ⟨_, _, (tss_cons (s_par 1 2 rfl (tms_cons (tm_frz (tm_call (F__law_labels.monoG (by decide)) hG hr (by rfl) g__law_labels k__law_labels b__law_labels (tmc_lend (nv 0) tmc_nil))) (tms_cons (tm_lst tms_nil) tms_nil)) hN) (tss_cons (ts_for passNox rfl (it_range1 (by rfl) h_free_range (tms_cons tm_int tms_nil)) (gN 3 hN) (tss_one (ts_expr (l_append (hv 2) (tm_lst (tms_cons (tm_im (x_ix hr (v 1) (v 3))) (tms_cons (tm_lst tms_nil) (tms_cons (tm_lst tms_nil) tms_nil)))))))) (tss_cons (ts_for passNox rfl (it_any rfl (x_cut (v 1) (tmo_some tm_int) tmo_none)) (gN 4 hN) (tss_one (ts_expr (l_append (pl_sub rfl (pl_sub rfl (hv 2) (tm_call (F__law_dip.monoG (by decide)) hG hr (by rfl) g__law_dip k__law_dip b__law_dip (tmc_lend (nv 0) (tmc_arg tm_int tmc_nil)))) tm_int) (vi 4))))) (tss_cons (ts_for passNox rfl (it_range1 (by rfl) h_free_range (tms_cons tm_int tms_nil)) (gN 5 hN) (tss_cons (s_set 3 (tm_frz (tm_call (F__law_dip.monoG (by decide)) hG hr (by rfl) g__law_dip k__law_dip b__law_dip (tmc_lend (nv 0) (tmc_arg tm_int tmc_nil)))) hN) (tss_cons (s_par 6 7 rfl (tms_cons (tm_im (x_ix hr (v 1) (x_add tm_int (v 3)))) (tms_cons (tm_im (x_ix hr (v 1) (x_add tm_int (v 3)))) tms_nil)) hN) (tss_one (ts_expr (l_append (pl_sub rfl (pl_sub rfl (hv 2) (tm_call (F__law_dip.monoG (by decide)) hG hr (by rfl) g__law_dip k__law_dip b__law_dip (tmc_lend (nv 0) (tmc_arg tm_int tmc_nil)))) tm_int) (tm_frz (tm_tup (tms_cons (b_min rfl h_free_min (tms_cons (v 6) (tms_cons (v 7) tms_nil))) (tms_cons (b_max rfl h_free_max (tms_cons (v 6) (tms_cons (v 7) tms_nil))) tms_nil)))))))))) (tss_one (ts_ret (tm_lst (tms_cons (tm_frz (tm_call (F__law_some_kind.monoG (by decide)) hG hr (by rfl) g__law_some_kind k__law_some_kind b__law_some_kind (tmc_lend (nv 0) tmc_nil))) (tms_cons (vf 2) tms_nil))))))))), by decide⟩
  case b1 => exact match us, hl with | [_], _ => rfl
  case b2 => exact match us, ws, hl, hl2 with | [], [_], _, _ => rfl
def N__law_chart : List Str := ["_law_jar_here", "_law_most", "_law_sums_most", "_law_data_most", "_law_labels_here", "_law_many", "_law_tags_here", "_law_found", "_law_k", "_law_tag", "_law_turn", "_law_one", "_law_two"]
def m__law_chart : M Fl := (mSeq (mPar 4 5 (mCons (mFrz (mCall c__law_labels [(some 0)] (mCons (mLn 0) mNil))) (mCons (mFrz (m2 fAdd (mC (.int 1)) (mCall c__law_dip [(some 0), none] (mCons (mLn 0) (mCons (mIm (mRd 1)) mNil))))) mNil))) (mSeq (mPar 6 7 (mCons (mFrz (mSl fCut (mRd 4) (mPt (mC (.int 8))) (mPt (m2 fAdd (mC (.int 9)) (mCall c__law_dip [(some 0), none] (mCons (mLn 0) (mCons (mIm (mRd 2)) mNil))))))) (mCons (mLst mNil) mNil))) (mSeq (mFor (mRng rng1 (mCons (mRd 5) mNil)) (mPut 8) (mDrop (mMut 7 (mHere 7) isLst (mCons (mLst (mCons (mIm (m2 fIx (mRd 4) (mRd 8))) (mCons (mLst mNil) (mCons (mLst mNil) mNil)))) mNil) fAppend))) (mSeq (mFor (mItA (mRd 6)) (mPut 9) (mDrop (mMut 7 (mStepL 7 (mStepL 7 (mHere 7) (mCall c__law_dip [(some 0), none] (mCons (mLn 0) (mCons (mIm (mRd 5)) mNil)))) (mC (.int 1))) isLst (mCons (mIm (mRd 9)) mNil) fAppend))) (mSeq (mFor (mRng rng1 (mCons (mIf (asB (m2 fGt (mF (c1 fLen) (mCons (mRd 6) mNil)) (mC (.int 1)))) (mCall c__law_dip [(some 0), none] (mCons (mLn 0) (mCons (mFrz (m2 fAdd (mRd 3) (mC (.int 1)))) mNil))) (mC (.int 0))) mNil)) (mPut 10) (mSeq (mPar 11 12 (mCons (mFrz (mCall c__law_one_of [(some 0), none] (mCons (mLn 0) (mCons (mIm (mRd 6)) mNil)))) (mCons (mFrz (mCall c__law_one_of [(some 0), none] (mCons (mLn 0) (mCons (mIm (mRd 6)) mNil)))) mNil))) (mIfS (asB (m2 fNe (mRd 11) (mRd 12))) (mDrop (mMut 7 (mStepL 7 (mStepL 7 (mHere 7) (mCall c__law_dip [(some 0), none] (mCons (mLn 0) (mCons (mIm (mRd 5)) mNil)))) (mC (.int 2))) isLst (mCons (mFrz (mTup (mCons (mF (c2 fMin) (mCons (mRd 11) (mCons (mRd 12) mNil))) (mCons (mF (c2 fMax) (mCons (mRd 11) (mCons (mRd 12) mNil))) mNil)))) mNil) fAppend)) (ret .nx)))) (mRet (mLst (mCons (mFrz (mCall c__law_some_kind [(some 0)] (mCons (mLn 0) mNil))) (mCons (mFz 7) mNil)))))))))
def c__law_chart : Cal := runB 4 13 [0] m__law_chart
theorem f__law_chart (c : SaysM fa fn K) (KX : K.In h) (Gm : h.Ns mainGlobals mg) : ∃ fd, (∀ base : Heap, FnG PG w K mg base CX0 8 (ga K "_law_chart") fd ["_law_jar_here", "_law_most", "_law_sums_most", "_law_data_most"] (spT (GG K) [0] c__law_chart)) ∧ Binds K fd ["_law_jar_here", "_law_most", "_law_sums_most", "_law_data_most"] [] ∧ KwB K fd ["_law_jar_here", "_law_most", "_law_sums_most", "_law_data_most"] 0 ∧ FunD K "_law_chart" "_law_chart" (defArgs (top 39)) (defBody (top 39)) (defScope (top 39)) [] [] (ga K "_law_chart") fd := by
  obtain ⟨fd, FD⟩ := c.defs.def_ 5
  have h_free_range := free_ok KX Gm (c.fact 4)
  have h_free_len := free_ok KX Gm (c.fact 2)
  have h_free_max := free_ok KX Gm (c.fact 6)
  have h_free_min := free_ok KX Gm (c.fact 7)
  obtain ⟨fd__law_dip, F__law_dip, b__law_dip, w__law_dip, d__law_dip⟩ := f__law_dip (w := w) c KX Gm
  have k__law_dip := d__law_dip.kp
  have g__law_dip := glo_ok KX Gm (c.fact 3)
  obtain ⟨fd__law_labels, F__law_labels, b__law_labels, w__law_labels, d__law_labels⟩ := f__law_labels (w := w) c KX Gm
  have k__law_labels := d__law_labels.kp
  have g__law_labels := glo_ok KX Gm (c.fact 8)
  obtain ⟨fd__law_one_of, F__law_one_of, b__law_one_of, w__law_one_of, d__law_one_of⟩ := f__law_one_of (w := w) c KX Gm
  have k__law_one_of := d__law_one_of.kp
  have g__law_one_of := glo_ok KX Gm (c.fact 5)
  obtain ⟨fd__law_some_kind, F__law_some_kind, b__law_some_kind, w__law_some_kind, d__law_some_kind⟩ := f__law_some_kind (w := w) c KX Gm
  have k__law_some_kind := d__law_some_kind.kp
  have g__law_some_kind := glo_ok KX Gm (c.fact 9)
  refine ⟨fd, fun base => ?bd0, FunD.bindsN FD fun kV doc pm an cdv ct us hl => ?b1, FunD.kwb FD fun kV doc pm an cdv ct us ws hl hl2 => ?b2, FD⟩
  case bd0 =>
    have F__law_dip := F__law_dip base
    have F__law_labels := F__law_labels base
    have F__law_one_of := F__law_one_of base
    have F__law_some_kind := F__law_some_kind base
    refine fn_g (N := N__law_chart) (m := m__law_chart) FD ⟨rfl, rfl, rfl, by decide +kernel, rfl, by decide +kernel, by decide +kernel⟩ (by decide) ?_
    intro cdv A outer s H E hG hr
    have hN : (cxOf CX0 PG w K mg base N__law_chart "_law_chart" (defScope (top 39)) (ga K "_law_chart") cdv A outer s H E).nox.N.Nodup := (by decide : N__law_chart.Nodup)
    exact ⟨_, _, (tss_cons (s_par 4 5 rfl (tms_cons (tm_frz (tm_call (F__law_labels.monoG (by decide)) hG hr (by rfl) g__law_labels k__law_labels b__law_labels (tmc_lend (nv 0) tmc_nil))) (tms_cons (tm_frz (x_add tm_int (tm_call (F__law_dip.monoG (by decide)) hG hr (by rfl) g__law_dip k__law_dip b__law_dip (tmc_lend (nv 0) (tmc_arg (vi 1) tmc_nil))))) tms_nil)) hN) (tss_cons (s_par 6 7 rfl (tms_cons (tm_frz (x_cut (v 4) (tmo_some tm_int) (tmo_some (x_add tm_int (tm_call (F__law_dip.monoG (by decide)) hG hr (by rfl) g__law_dip k__law_dip b__law_dip (tmc_lend (nv 0) (tmc_arg (vi 2) tmc_nil))))))) (tms_cons (tm_lst tms_nil) tms_nil)) hN) (tss_cons (ts_for passNox rfl (it_range1 (by rfl) h_free_range (tms_cons (v 5) tms_nil)) (gN 8 hN) (tss_one (ts_expr (l_append (hv 7) (tm_lst (tms_cons (tm_im (x_ix hr (v 4) (v 8))) (tms_cons (tm_lst tms_nil) (tms_cons (tm_lst tms_nil) tms_nil)))))))) (tss_cons (ts_for passNox rfl (it_any rfl (v 6)) (gN 9 hN) (tss_one (ts_expr (l_append (pl_sub rfl (pl_sub rfl (hv 7) (tm_call (F__law_dip.monoG (by decide)) hG hr (by rfl) g__law_dip k__law_dip b__law_dip (tmc_lend (nv 0) (tmc_arg (vi 5) tmc_nil)))) tm_int) (vi 9))))) (tss_cons (ts_for passNox rfl (it_range1 (by rfl) h_free_range (tms_cons (tm_if (t_cmp cGt (b_len h_free_len (tms_cons (v 6) tms_nil)) tm_int) (tm_call (F__law_dip.monoG (by decide)) hG hr (by rfl) g__law_dip k__law_dip b__law_dip (tmc_lend (nv 0) (tmc_arg (tm_frz (x_add (v 3) tm_int)) tmc_nil))) tm_int) tms_nil)) (gN 10 hN) (tss_cons (s_par 11 12 rfl (tms_cons (tm_frz (tm_call (F__law_one_of.monoG (by decide)) hG hr (by rfl) g__law_one_of k__law_one_of b__law_one_of (tmc_lend (nv 0) (tmc_arg (vi 6) tmc_nil)))) (tms_cons (tm_frz (tm_call (F__law_one_of.monoG (by decide)) hG hr (by rfl) g__law_one_of k__law_one_of b__law_one_of (tmc_lend (nv 0) (tmc_arg (vi 6) tmc_nil)))) tms_nil)) hN) (tss_one (ts_if (t_cmp (cNe hr) (v 11) (v 12)) (tss_one (ts_expr (l_append (pl_sub rfl (pl_sub rfl (hv 7) (tm_call (F__law_dip.monoG (by decide)) hG hr (by rfl) g__law_dip k__law_dip b__law_dip (tmc_lend (nv 0) (tmc_arg (vi 5) tmc_nil)))) tm_int) (tm_frz (tm_tup (tms_cons (b_min rfl h_free_min (tms_cons (v 11) (tms_cons (v 12) tms_nil))) (tms_cons (b_max rfl h_free_max (tms_cons (v 11) (tms_cons (v 12) tms_nil))) tms_nil))))))) tss_nil)))) (tss_one (ts_ret (tm_lst (tms_cons (tm_frz (tm_call (F__law_some_kind.monoG (by decide)) hG hr (by rfl) g__law_some_kind k__law_some_kind b__law_some_kind (tmc_lend (nv 0) tmc_nil))) (tms_cons (vf 7) tms_nil)))))))))), by decide⟩
  case b1 => exact match us, hl with | [_, _, _, _], _ => rfl
  case b2 => exact match us, ws, hl, hl2 with | [], [_, _, _, _], _, _ => rfl
def N__law_page : List Str := ["_law_chart_here", "_law_tag", "_law_one", "_law_two", "_law_lines", "_law_label", "_law_tags_here", "_law_pairs_here"]
def m__law_page : M Fl := (mSeq (mSet 4 (mFrz (mLst (mCons (mFrz (m2 fAdd (mC (.str "kind ")) (mF (c1 fStr1) (mCons (m2 fIx (mRd 0) (mC (.int 0))) mNil)))) mNil)))) (mSeq (mFor (mItA (m2 fIx (mRd 0) (mC (.int 1)))) (mUn 3 (mGcons (mPut 5) (mGcons (mPut 6) (mGcons (mPut 7) mGnil)))) (mSeq (mSet 4 (mFrz (m2 fAdd (m2 fAdd (mRd 4) (mLst (mCons (mFrz (m2 fAdd (mC (.str "column ")) (mRd 5))) mNil))) (mLc (mItA (mRd 6)) (mPut 1) (ret true) (mFrz (m2 fAdd (mC (.str "sum ")) (mRd 1))) [1])))) (mSet 4 (mFrz (m2 fAdd (mRd 4) (mLc (mItA (mRd 7)) (mUn 2 (mGcons (mPut 2) (mGcons (mPut 3) mGnil))) (ret true) (mFrz (m2 fAdd (m2 fAdd (m2 fAdd (mC (.str "datum ")) (mRd 2)) (mC (.str " "))) (mRd 3))) [2, 3])))))) (mRet (mMet1 isTx fJoin (mC (.str "\n")) (mRd 4)))))
def c__law_page : Cal := runB 1 8 [] m__law_page
theorem f__law_page (c : SaysM fa fn K) (KX : K.In h) (Gm : h.Ns mainGlobals mg) : ∃ fd, (∀ base : Heap, FnG PG w K mg base CX0 2 (ga K "_law_page") fd ["_law_chart_here"] (spT (GG K) [] c__law_page)) ∧ Binds K fd ["_law_chart_here"] [] ∧ KwB K fd ["_law_chart_here"] 0 ∧ FunD K "_law_page" "_law_page" (defArgs (top 41)) (defBody (top 41)) (defScope (top 41)) [] [] (ga K "_law_page") fd := by
  obtain ⟨fd, FD⟩ := c.defs.def_ 6
  have h_free_str := free_ok KX Gm (c.fact 10)
  refine ⟨fd, fun base => ?bd0, FunD.bindsN FD fun kV doc pm an cdv ct us hl => ?b1, FunD.kwb FD fun kV doc pm an cdv ct us ws hl hl2 => ?b2, FD⟩
  case bd0 =>
    refine fn_g (N := N__law_page) (m := m__law_page) FD ⟨rfl, rfl, rfl, by decide +kernel, rfl, by decide +kernel, by decide +kernel⟩ (by decide) ?_
    intro cdv A outer s H E hG hr
    have hN : (cxOf CX0 PG w K mg base N__law_page "_law_page" (defScope (top 41)) (ga K "_law_page") cdv A outer s H E).nox.N.Nodup := (by decide : N__law_page.Nodup)
    exact ⟨_, _, (tss_cons (s_set 4 (tm_frz (tm_lst (tms_cons (tm_frz (x_add tm_str (b_str h_free_str (tms_cons (x_ix hr (v 0) tm_int) tms_nil)))) tms_nil))) hN) (tss_cons (ts_for passNox rfl (it_any rfl (x_ix hr (v 0) tm_int)) (tg_un rfl rfl (tgs_cons (gN 5 hN) (tgs_cons (gN 6 hN) (tgs_cons (gN 7 hN) tgs_nil)))) (tss_cons (s_set 4 (tm_frz (x_add (x_add (v 4) (tm_lst (tms_cons (tm_frz (x_add tm_str (v 5))) tms_nil))) (x_lc [("_law_tag", 1)] rfl hN (blk_of (by kernel_rfl)) (it_any rfl (v 6)) (fun _ _ _ _ _ => (gN 1 hN)) (fun _ _ _ _ _ => tmts_nil) (fun _ _ _ _ _ => (tm_frz (x_add tm_str (v 1))))))) hN) (tss_one (s_set 4 (tm_frz (x_add (v 4) (x_lc [("_law_one", 2), ("_law_two", 3)] rfl hN (blk_of (by kernel_rfl)) (it_any rfl (v 7)) (fun _ _ _ _ _ => (tg_un rfl rfl (tgs_cons (gN 2 hN) (tgs_cons (gN 3 hN) tgs_nil)))) (fun _ _ _ _ _ => tmts_nil) (fun _ _ _ _ _ => (tm_frz (x_add (x_add (x_add tm_str (v 2)) tm_str) (v 3))))))) hN)))) (tss_one (ts_ret (l_join tm_str (v 4)))))), by decide⟩
  case b1 => exact match us, hl with | [_], _ => rfl
  case b2 => exact match us, ws, hl, hl2 with | [], [_], _, _ => rfl
def N_is_one_of : List Str := ["value", "names"]
def m_is_one_of : M Fl := (mRet (mAndV (m1 (isB .str) (mRd 0)) (m2 fIn (mRd 0) (mRd 1))))
def c_is_one_of : Cal := runB 2 2 [] m_is_one_of
theorem f_is_one_of (c : SaysM fa fn K) (KX : K.In h) (Gm : h.Ns mainGlobals mg) : ∃ fd, (∀ base : Heap, FnG PG w K mg base CX0 2 (ga K "is_one_of") fd ["value", "names"] (spT (GG K) [] c_is_one_of)) ∧ Binds K fd ["value", "names"] [] ∧ KwB K fd ["value", "names"] 0 ∧ FunD K "is_one_of" "is_one_of" (defArgs (top 20)) (defBody (top 20)) (defScope (top 20)) [] [] (ga K "is_one_of") fd := by
  obtain ⟨fd, FD⟩ := c.defs.def_ 7
  have h_free_isinstance := free_ok KX Gm (c.fact 11)
  have h_free_str := free_ok KX Gm (c.fact 10)
  refine ⟨fd, fun base => ?bd0, FunD.bindsN FD fun kV doc pm an cdv ct us hl => ?b1, FunD.kwb FD fun kV doc pm an cdv ct us ws hl hl2 => ?b2, FD⟩
  case bd0 =>
    refine fn_g (N := N_is_one_of) (m := m_is_one_of) FD ⟨rfl, rfl, rfl, by decide +kernel, rfl, by decide +kernel, by decide +kernel⟩ (by decide) ?_
    intro cdv A outer s H E hG hr
    have hN : (cxOf CX0 PG w K mg base N_is_one_of "is_one_of" (defScope (top 20)) (ga K "is_one_of") cdv A outer s H E).nox.N.Nodup := (by decide : N_is_one_of.Nodup)
    exact ⟨_, _, (tss_one (ts_ret (tm_and (b_is .str h_free_isinstance h_free_str (v 0)) (tm_one (x_cmp (cIn hr) (v 0) (v 1)))))), by decide⟩
  case b1 => exact match us, hl with | [_, _], _ => rfl
  case b2 => exact match us, ws, hl, hl2 with | [], [_, _], _, _ => rfl
def N_is_integer : List Str := ["value"]
def m_is_integer : M Fl := (mRet (mAndV (m1 (isB .int) (mRd 0)) (mNotV (m1 (isB .bool) (mRd 0)))))
def c_is_integer : Cal := runB 1 1 [] m_is_integer
theorem f_is_integer (c : SaysM fa fn K) (KX : K.In h) (Gm : h.Ns mainGlobals mg) : ∃ fd, (∀ base : Heap, FnG PG w K mg base CX0 2 (ga K "is_integer") fd ["value"] (spT (GG K) [] c_is_integer)) ∧ Binds K fd ["value"] [] ∧ KwB K fd ["value"] 0 ∧ FunD K "is_integer" "is_integer" (defArgs (top 17)) (defBody (top 17)) (defScope (top 17)) [] [] (ga K "is_integer") fd := by
  obtain ⟨fd, FD⟩ := c.defs.def_ 8
  have h_free_isinstance := free_ok KX Gm (c.fact 11)
  have h_free_int := free_ok KX Gm (c.fact 1)
  have h_free_bool := free_ok KX Gm (c.fact 12)
  refine ⟨fd, fun base => ?bd0, FunD.bindsN FD fun kV doc pm an cdv ct us hl => ?b1, FunD.kwb FD fun kV doc pm an cdv ct us ws hl hl2 => ?b2, FD⟩
  case bd0 =>
    refine fn_g (N := N_is_integer) (m := m_is_integer) FD ⟨rfl, rfl, rfl, by decide +kernel, rfl, by decide +kernel, by decide +kernel⟩ (by decide) ?_
    intro cdv A outer s H E hG hr
    have hN : (cxOf CX0 PG w K mg base N_is_integer "is_integer" (defScope (top 17)) (ga K "is_integer") cdv A outer s H E).nox.N.Nodup := (by decide : N_is_integer.Nodup)
    exact ⟨_, _, (tss_one (ts_ret (tm_and (b_is .int h_free_isinstance h_free_int (v 0)) (tm_one (tm_not (b_is .bool h_free_isinstance h_free_bool (v 0))))))), by decide⟩
  case b1 => exact match us, hl with | [_], _ => rfl
  case b2 => exact match us, ws, hl, hl2 with | [], [_], _, _ => rfl
def N_is_between : List Str := ["value", "low", "high"]
def m_is_between : M Fl := (mRet (mAndV (mCall c_is_integer [none] (mCons (mIm (mRd 0)) mNil)) (mChain fLe fLe (mRd 1) (mRd 0) (mRd 2))))
def c_is_between : Cal := runB 3 3 [] m_is_between
theorem f_is_between (c : SaysM fa fn K) (KX : K.In h) (Gm : h.Ns mainGlobals mg) : ∃ fd, (∀ base : Heap, FnG PG w K mg base CX0 4 (ga K "is_between") fd ["value", "low", "high"] (spT (GG K) [] c_is_between)) ∧ Binds K fd ["value", "low", "high"] [] ∧ KwB K fd ["value", "low", "high"] 0 ∧ FunD K "is_between" "is_between" (defArgs (top 18)) (defBody (top 18)) (defScope (top 18)) [] [] (ga K "is_between") fd := by
  obtain ⟨fd, FD⟩ := c.defs.def_ 9
  obtain ⟨fd_is_integer, F_is_integer, b_is_integer, w_is_integer, d_is_integer⟩ := f_is_integer (w := w) c KX Gm
  have k_is_integer := d_is_integer.kp
  have g_is_integer := glo_ok KX Gm (c.fact 13)
  refine ⟨fd, fun base => ?bd0, FunD.bindsN FD fun kV doc pm an cdv ct us hl => ?b1, FunD.kwb FD fun kV doc pm an cdv ct us ws hl hl2 => ?b2, FD⟩
  case bd0 =>
    have F_is_integer := F_is_integer base
    refine fn_g (N := N_is_between) (m := m_is_between) FD ⟨rfl, rfl, rfl, by decide +kernel, rfl, by decide +kernel, by decide +kernel⟩ (by decide) ?_
    intro cdv A outer s H E hG hr
    have hN : (cxOf CX0 PG w K mg base N_is_between "is_between" (defScope (top 18)) (ga K "is_between") cdv A outer s H E).nox.N.Nodup := (by decide : N_is_between.Nodup)
    exact ⟨_, _, (tss_one (ts_ret (tm_and (tm_call (F_is_integer.monoG (by decide)) hG hr (by rfl) g_is_integer k_is_integer b_is_integer (tmc_arg (vi 0) tmc_nil)) (tm_one (x_chain cLe cLe (v 1) (v 0) (v 2)))))), by decide⟩
  case b1 => exact match us, hl with | [_, _, _], _ => rfl
  case b2 => exact match us, ws, hl, hl2 with | [], [_, _, _], _, _ => rfl
def N_is_kind : List Str := ["value"]
def m_is_kind : M Fl := (mRet (mOrV (mCall c_is_one_of [none, none] (mCons (mIm (mRd 0)) (mCons (mFrz (mTup (mCons (mFrz (mC (.str "bits"))) (mCons (mFrz (mC (.str "plain"))) mNil)))) mNil))) (mCall c_is_between [none, none, none] (mCons (mIm (mRd 0)) (mCons (mFrz (mC (.int 3))) (mCons (mFrz (mC (.int 1000000000))) mNil))))))
def c_is_kind : Cal := runB 1 1 [] m_is_kind
theorem f_is_kind (c : SaysM fa fn K) (KX : K.In h) (Gm : h.Ns mainGlobals mg) : ∃ fd, (∀ base : Heap, FnG PG w K mg base CX0 6 (ga K "is_kind") fd ["value"] (spT (GG K) [] c_is_kind)) ∧ Binds K fd ["value"] [] ∧ KwB K fd ["value"] 0 ∧ FunD K "is_kind" "is_kind" (defArgs (top 23)) (defBody (top 23)) (defScope (top 23)) [] [] (ga K "is_kind") fd := by
  obtain ⟨fd, FD⟩ := c.defs.def_ 10
  have h_str_PLAIN_plain := str_ok KX Gm (c.fact 14)
  have h_str_BITS_bits := str_ok KX Gm (c.fact 15)
  have h_int_MOST_DIAL_1000000000 := int_ok KX Gm (c.fact 16)
  have h_int_LEAST_DIAL_3 := int_ok KX Gm (c.fact 17)
  obtain ⟨fd_is_one_of, F_is_one_of, b_is_one_of, w_is_one_of, d_is_one_of⟩ := f_is_one_of (w := w) c KX Gm
  have k_is_one_of := d_is_one_of.kp
  have g_is_one_of := glo_ok KX Gm (c.fact 18)
  obtain ⟨fd_is_between, F_is_between, b_is_between, w_is_between, d_is_between⟩ := f_is_between (w := w) c KX Gm
  have k_is_between := d_is_between.kp
  have g_is_between := glo_ok KX Gm (c.fact 19)
  refine ⟨fd, fun base => ?bd0, FunD.bindsN FD fun kV doc pm an cdv ct us hl => ?b1, FunD.kwb FD fun kV doc pm an cdv ct us ws hl hl2 => ?b2, FD⟩
  case bd0 =>
    have F_is_one_of := F_is_one_of base
    have F_is_between := F_is_between base
    refine fn_g (N := N_is_kind) (m := m_is_kind) FD ⟨rfl, rfl, rfl, by decide +kernel, rfl, by decide +kernel, by decide +kernel⟩ (by decide) ?_
    intro cdv A outer s H E hG hr
    have hN : (cxOf CX0 PG w K mg base N_is_kind "is_kind" (defScope (top 23)) (ga K "is_kind") cdv A outer s H E).nox.N.Nodup := (by decide : N_is_kind.Nodup)
    exact ⟨_, _, (tss_one (ts_ret (tm_or (tm_call (F_is_one_of.monoG (by decide)) hG hr (by rfl) g_is_one_of k_is_one_of b_is_one_of (tmc_arg (vi 0) (tmc_arg (tm_frz (tm_tup (tms_cons (tm_frz (gS h_str_BITS_bits)) (tms_cons (tm_frz (gS h_str_PLAIN_plain)) tms_nil)))) tmc_nil))) (tm_one (tm_call (F_is_between.monoG (by decide)) hG hr (by rfl) g_is_between k_is_between b_is_between (tmc_arg (vi 0) (tmc_arg (tm_frz (gI h_int_LEAST_DIAL_3)) (tmc_arg (tm_frz (gI h_int_MOST_DIAL_1000000000)) tmc_nil)))))))), by decide⟩
  case b1 => exact match us, hl with | [_], _ => rfl
  case b2 => exact match us, ws, hl, hl2 with | [], [_], _, _ => rfl
def N_is_name : List Str := ["value", "sign"]
def m_is_name : M Fl := (mRet (mAndV (m1 (isB .str) (mRd 0)) (mAndV (mChain fLe fLe (mC (.int 1)) (mF (c1 fLen) (mCons (mRd 0) mNil)) (mC (.int 8))) (mF (c1 (fBools fun bs => bs.all id)) (mCons (mLc (mItA (mRd 0)) (mPut 1) (ret true) (m2 fIn (mRd 1) (mC (.str "abcdefghijklmnopqrstuvwxyz"))) [1]) mNil)))))
def c_is_name : Cal := runB 1 2 [] m_is_name
theorem f_is_name (c : SaysM fa fn K) (KX : K.In h) (Gm : h.Ns mainGlobals mg) : ∃ fd, (∀ base : Heap, FnG PG w K mg base CX0 2 (ga K "is_name") fd ["value"] (spT (GG K) [] c_is_name)) ∧ Binds K fd ["value"] [] ∧ KwB K fd ["value"] 0 ∧ FunD K "is_name" "is_name" (defArgs (top 19)) (defBody (top 19)) (defScope (top 19)) [] [] (ga K "is_name") fd := by
  obtain ⟨fd, FD⟩ := c.defs.def_ 11
  have h_free_isinstance := free_ok KX Gm (c.fact 11)
  have h_free_str := free_ok KX Gm (c.fact 10)
  have h_free_len := free_ok KX Gm (c.fact 2)
  have h_int_MOST_LETTERS_8 := int_ok KX Gm (c.fact 20)
  have h_str_LETTERS_abcdefghijklmnopqrstuvwxyz := str_ok KX Gm (c.fact 21)
  have h_free_all := free_ok KX Gm (c.fact 22)
  refine ⟨fd, fun base => ?bd0, FunD.bindsN FD fun kV doc pm an cdv ct us hl => ?b1, FunD.kwb FD fun kV doc pm an cdv ct us ws hl hl2 => ?b2, FD⟩
  case bd0 =>
    refine fn_g (N := N_is_name) (m := m_is_name) FD ⟨rfl, rfl, rfl, by decide +kernel, rfl, by decide +kernel, by decide +kernel⟩ (by decide) ?_
    intro cdv A outer s H E hG hr
    have hN : (cxOf CX0 PG w K mg base N_is_name "is_name" (defScope (top 19)) (ga K "is_name") cdv A outer s H E).nox.N.Nodup := (by decide : N_is_name.Nodup)
    exact ⟨_, _, (tss_one (ts_ret (tm_and (b_is .str h_free_isinstance h_free_str (v 0)) (tm_and (x_chain cLe cLe tm_int (b_len h_free_len (tms_cons (v 0) tms_nil)) (gI h_int_MOST_LETTERS_8)) (tm_one (b_all rfl h_free_all (tms_cons (x_lc [("sign", 1)] rfl hN (blk_of (by kernel_rfl)) (it_any rfl (v 0)) (fun _ _ _ _ _ => (gN 1 hN)) (fun _ _ _ _ _ => tmts_nil) (fun _ _ _ _ _ => (x_cmp (cIn hr) (v 1) (gS h_str_LETTERS_abcdefghijklmnopqrstuvwxyz)))) tms_nil))))))), by decide⟩
  case b1 => exact match us, hl with | [_], _ => rfl
  case b2 => exact match us, ws, hl, hl2 with | [], [_], _, _ => rfl
def N_are_fresh : List Str := ["names", "taken", "name"]
def m_are_fresh : M Fl := (mSeq (mIfS (mOr (mNot (mTru (m1 (isB .tuple) (mRd 0)))) (mNot (mTru (mF (c1 (fBools fun bs => bs.all id)) (mCons (mLc (mItA (mRd 0)) (mPut 2) (ret true) (mFrz (mAndV (mCall c_is_name [none] (mCons (mIm (mRd 2)) mNil)) (m2 fNotIn (mRd 2) (mRd 1)))) [2]) mNil))))) (mRet (mC (.bl false))) (ret .nx)) (mRet (m2 fEq (m1 fLenS (mRd 0)) (mF (c1 fLen) (mCons (mRd 0) mNil)))))
def c_are_fresh : Cal := runB 2 3 [] m_are_fresh
theorem f_are_fresh (c : SaysM fa fn K) (KX : K.In h) (Gm : h.Ns mainGlobals mg) : ∃ fd, (∀ base : Heap, FnG PG w K mg base CX0 4 (ga K "are_fresh") fd ["names", "taken"] (spT (GG K) [] c_are_fresh)) ∧ Binds K fd ["names", "taken"] [] ∧ KwB K fd ["names", "taken"] 0 ∧ FunD K "are_fresh" "are_fresh" (defArgs (top 25)) (defBody (top 25)) (defScope (top 25)) [] [] (ga K "are_fresh") fd := by
  obtain ⟨fd, FD⟩ := c.defs.def_ 12
  have h_free_isinstance := free_ok KX Gm (c.fact 11)
  have h_free_tuple := free_ok KX Gm (c.fact 23)
  have h_free_all := free_ok KX Gm (c.fact 22)
  have h_free_len := free_ok KX Gm (c.fact 2)
  have h_free_set := free_ok KX Gm (c.fact 24)
  obtain ⟨fd_is_name, F_is_name, b_is_name, w_is_name, d_is_name⟩ := f_is_name (w := w) c KX Gm
  have k_is_name := d_is_name.kp
  have g_is_name := glo_ok KX Gm (c.fact 25)
  refine ⟨fd, fun base => ?bd0, FunD.bindsN FD fun kV doc pm an cdv ct us hl => ?b1, FunD.kwb FD fun kV doc pm an cdv ct us ws hl hl2 => ?b2, FD⟩
  case bd0 =>
    have F_is_name := F_is_name base
    refine fn_g (N := N_are_fresh) (m := m_are_fresh) FD ⟨rfl, rfl, rfl, by decide +kernel, rfl, by decide +kernel, by decide +kernel⟩ (by decide) ?_
    intro cdv A outer s H E hG hr
    have hN : (cxOf CX0 PG w K mg base N_are_fresh "are_fresh" (defScope (top 25)) (ga K "are_fresh") cdv A outer s H E).nox.N.Nodup := (by decide : N_are_fresh.Nodup)
    exact ⟨_, _, (tss_cons (ts_if (tmt_w (tmt_or (tmt_not (tmt_tru rfl (b_is .tuple h_free_isinstance h_free_tuple (v 0)))) (tmt_or1 (tmt_not (tmt_tru rfl (b_all rfl h_free_all (tms_cons (x_lc [("name", 2)] rfl hN (blk_of (by kernel_rfl)) (it_any rfl (v 0)) (fun _ _ _ _ _ => (gN 2 hN)) (fun _ _ _ _ _ => tmts_nil) (fun _ _ _ _ _ => (tm_frz (tm_and (tm_call (F_is_name.monoG (by decide)) hG hr (by rfl) g_is_name k_is_name b_is_name (tmc_arg (vi 2) tmc_nil)) (tm_one (x_cmp (cNotIn hr) (v 2) (v 1))))))) tms_nil))))))) (tss_one (ts_ret tm_bl)) tss_nil) (tss_one (ts_ret (x_cmp (cEq hr) (tm_lenS rfl rfl (by rfl) h_free_len (by rfl) h_free_set (v 0)) (b_len h_free_len (tms_cons (v 0) tms_nil)))))), by decide⟩
  case b1 => exact match us, hl with | [_, _], _ => rfl
  case b2 => exact match us, ws, hl, hl2 with | [], [_, _], _, _ => rfl
def N_is_column : List Str := ["value", "names", "sums"]
def m_is_column : M Fl := (mSeq (mIfS (mOr (mNot (mTru (m1 (isB .tuple) (mRd 0)))) (mOr (asB (m2 fNe (mF (c1 fLen) (mCons (mRd 0) mNil)) (mC (.int 3)))) (mOr (mNot (mTru (mCall c_is_name [none] (mCons (mIm (m2 fIx (mRd 0) (mC (.int 0)))) mNil)))) (asB (m2 fIn (m2 fIx (mRd 0) (mC (.int 0))) (mRd 1)))))) (mRet (mC (.bl false))) (ret .nx)) (mRet (mAndV (mCall c_are_fresh [none, none] (mCons (mIm (m2 fIx (mRd 0) (mC (.int 1)))) (mCons (mIm (mRd 2)) mNil))) (m1 (isB .tuple) (m2 fIx (mRd 0) (mC (.int 2)))))))
def c_is_column : Cal := runB 3 3 [] m_is_column
theorem f_is_column (c : SaysM fa fn K) (KX : K.In h) (Gm : h.Ns mainGlobals mg) : ∃ fd, (∀ base : Heap, FnG PG w K mg base CX0 6 (ga K "is_column") fd ["value", "names", "sums"] (spT (GG K) [] c_is_column)) ∧ Binds K fd ["value", "names", "sums"] [] ∧ KwB K fd ["value", "names", "sums"] 0 ∧ FunD K "is_column" "is_column" (defArgs (top 26)) (defBody (top 26)) (defScope (top 26)) [] [] (ga K "is_column") fd := by
  obtain ⟨fd, FD⟩ := c.defs.def_ 13
  have h_free_isinstance := free_ok KX Gm (c.fact 11)
  have h_free_tuple := free_ok KX Gm (c.fact 23)
  have h_free_len := free_ok KX Gm (c.fact 2)
  obtain ⟨fd_is_name, F_is_name, b_is_name, w_is_name, d_is_name⟩ := f_is_name (w := w) c KX Gm
  have k_is_name := d_is_name.kp
  have g_is_name := glo_ok KX Gm (c.fact 25)
  obtain ⟨fd_are_fresh, F_are_fresh, b_are_fresh, w_are_fresh, d_are_fresh⟩ := f_are_fresh (w := w) c KX Gm
  have k_are_fresh := d_are_fresh.kp
  have g_are_fresh := glo_ok KX Gm (c.fact 26)
  refine ⟨fd, fun base => ?bd0, FunD.bindsN FD fun kV doc pm an cdv ct us hl => ?b1, FunD.kwb FD fun kV doc pm an cdv ct us ws hl hl2 => ?b2, FD⟩
  case bd0 =>
    have F_is_name := F_is_name base
    have F_are_fresh := F_are_fresh base
    refine fn_g (N := N_is_column) (m := m_is_column) FD ⟨rfl, rfl, rfl, by decide +kernel, rfl, by decide +kernel, by decide +kernel⟩ (by decide) ?_
    intro cdv A outer s H E hG hr
    have hN : (cxOf CX0 PG w K mg base N_is_column "is_column" (defScope (top 26)) (ga K "is_column") cdv A outer s H E).nox.N.Nodup := (by decide : N_is_column.Nodup)
    exact ⟨_, _, (tss_cons (ts_if (tmt_w (tmt_or (tmt_not (tmt_tru rfl (b_is .tuple h_free_isinstance h_free_tuple (v 0)))) (tmt_or (t_cmp (cNe hr) (b_len h_free_len (tms_cons (v 0) tms_nil)) tm_int) (tmt_or (tmt_not (tmt_tru rfl (tm_call (F_is_name.monoG (by decide)) hG hr (by rfl) g_is_name k_is_name b_is_name (tmc_arg (tm_im (x_ix hr (v 0) tm_int)) tmc_nil)))) (tmt_or1 (t_cmp (cIn hr) (x_ix hr (v 0) tm_int) (v 1))))))) (tss_one (ts_ret tm_bl)) tss_nil) (tss_one (ts_ret (tm_and (tm_call (F_are_fresh.monoG (by decide)) hG hr (by rfl) g_are_fresh k_are_fresh b_are_fresh (tmc_arg (tm_im (x_ix hr (v 0) tm_int)) (tmc_arg (vi 2) tmc_nil))) (tm_one (b_is .tuple h_free_isinstance h_free_tuple (x_ix hr (v 0) tm_int))))))), by decide⟩
  case b1 => exact match us, hl with | [_, _, _], _ => rfl
  case b2 => exact match us, ws, hl, hl2 with | [], [_, _, _], _, _ => rfl
def N_form_until : List Str := ["columns", "names", "sums", "index", "value"]
def m_form_until : M Fl := (mSeq (mPar 1 2 (mCons (mLst mNil) (mCons (mLst mNil) mNil))) (mSeq (mFor (mRng enumF (mCons (mRd 0) mNil)) (mUn 2 (mGcons (mPut 3) (mGcons (mPut 4) mGnil))) (mSeq (mIfS (mOr (asB (m2 fGe (mRd 3) (mC (.int 8)))) (mNot (mTru (mCallP c_is_column [none, none, none] (mCons (mIm (mRd 4)) (mCons (mRd 1) (mCons (mRd 2) mNil))))))) (mRet (mIm (mRd 3))) (ret .nx)) (mSeq (mDrop (mMut 1 (mHere 1) isLst (mCons (mIm (m2 fIx (mRd 4) (mC (.int 0)))) mNil) fAppend)) (mDrop (mMut 2 (mHere 2) isLst (mCons (mIm (m2 fIx (mRd 4) (mC (.int 1)))) mNil) fExtend))))) (mRet (mC .non))))
def c_form_until : Cal := runB 1 5 [] m_form_until
theorem f_form_until (c : SaysM fa fn K) (KX : K.In h) (Gm : h.Ns mainGlobals mg) : ∃ fd, (∀ base : Heap, FnG PG w K mg base CX0 8 (ga K "form_until") fd ["columns"] (spT (GG K) [] c_form_until)) ∧ Binds K fd ["columns"] [] ∧ KwB K fd ["columns"] 0 ∧ FunD K "form_until" "form_until" (defArgs (top 27)) (defBody (top 27)) (defScope (top 27)) [] [] (ga K "form_until") fd := by
  obtain ⟨fd, FD⟩ := c.defs.def_ 14
  have h_free_enumerate := free_ok KX Gm (c.fact 27)
  have h_int_MOST_COLUMNS_8 := int_ok KX Gm (c.fact 28)
  obtain ⟨fd_is_column, F_is_column, b_is_column, w_is_column, d_is_column⟩ := f_is_column (w := w) c KX Gm
  have k_is_column := d_is_column.kp
  have g_is_column := glo_ok KX Gm (c.fact 29)
  refine ⟨fd, fun base => ?bd0, FunD.bindsN FD fun kV doc pm an cdv ct us hl => ?b1, FunD.kwb FD fun kV doc pm an cdv ct us ws hl hl2 => ?b2, FD⟩
  case bd0 =>
    have F_is_column := F_is_column base
    refine fn_g (N := N_form_until) (m := m_form_until) FD ⟨rfl, rfl, rfl, by decide +kernel, rfl, by decide +kernel, by decide +kernel⟩ (by decide) ?_
    intro cdv A outer s H E hG hr
    have hN : (cxOf CX0 PG w K mg base N_form_until "form_until" (defScope (top 27)) (ga K "form_until") cdv A outer s H E).nox.N.Nodup := (by decide : N_form_until.Nodup)
    exact ⟨_, _, (tss_cons (s_par 1 2 rfl (tms_cons (tm_lst tms_nil) (tms_cons (tm_lst tms_nil) tms_nil)) hN) (tss_cons (ts_for passNox rfl (it_enum (by rfl) (by rfl) h_free_enumerate (tms_cons (v 0) tms_nil)) (tg_un rfl rfl (tgs_cons (gN 3 hN) (tgs_cons (gN 4 hN) tgs_nil))) (tss_cons (ts_if (tmt_w (tmt_or (t_cmp cGe (v 3) (gI h_int_MOST_COLUMNS_8)) (tmt_or1 (tmt_not (tmt_tru rfl (tm_callP (F_is_column.monoG (by decide)) hG hr (by rfl) g_is_column k_is_column b_is_column (tmc_arg (vi 4) (tmc_arg (v 1) (tmc_arg (v 2) tmc_nil))))))))) (tss_one (ts_ret (vi 3))) tss_nil) (tss_cons (ts_expr (l_append (hv 1) (tm_im (x_ix hr (v 4) tm_int)))) (tss_one (ts_expr (l_extend (hv 2) (tm_im (x_ix hr (v 4) tm_int)))))))) (tss_one (ts_ret tm_non)))), by decide⟩
  case b1 => exact match us, hl with | [_], _ => rfl
  case b2 => exact match us, ws, hl, hl2 with | [], [_], _, _ => rfl
def N_are_different : List Str := ["values", "names", "value"]
def m_are_different : M Fl := (mSeq (mIfS (mOr (mNot (mTru (m1 (isB .tuple) (mRd 0)))) (mNot (mTru (mF (c1 (fBools fun bs => bs.all id)) (mCons (mLc (mItA (mRd 0)) (mPut 2) (ret true) (mFrz (mCall c_is_one_of [none, none] (mCons (mIm (mRd 2)) (mCons (mIm (mRd 1)) mNil)))) [2]) mNil))))) (mRet (mC (.bl false))) (ret .nx)) (mRet (m2 fEq (m1 fLenS (mRd 0)) (mF (c1 fLen) (mCons (mRd 0) mNil)))))
def c_are_different : Cal := runB 2 3 [] m_are_different
theorem f_are_different (c : SaysM fa fn K) (KX : K.In h) (Gm : h.Ns mainGlobals mg) : ∃ fd, (∀ base : Heap, FnG PG w K mg base CX0 4 (ga K "are_different") fd ["values", "names"] (spT (GG K) [] c_are_different)) ∧ Binds K fd ["values", "names"] [] ∧ KwB K fd ["values", "names"] 0 ∧ FunD K "are_different" "are_different" (defArgs (top 21)) (defBody (top 21)) (defScope (top 21)) [] [] (ga K "are_different") fd := by
  obtain ⟨fd, FD⟩ := c.defs.def_ 15
  have h_free_isinstance := free_ok KX Gm (c.fact 11)
  have h_free_tuple := free_ok KX Gm (c.fact 23)
  have h_free_all := free_ok KX Gm (c.fact 22)
  have h_free_len := free_ok KX Gm (c.fact 2)
  have h_free_set := free_ok KX Gm (c.fact 24)
  obtain ⟨fd_is_one_of, F_is_one_of, b_is_one_of, w_is_one_of, d_is_one_of⟩ := f_is_one_of (w := w) c KX Gm
  have k_is_one_of := d_is_one_of.kp
  have g_is_one_of := glo_ok KX Gm (c.fact 18)
  refine ⟨fd, fun base => ?bd0, FunD.bindsN FD fun kV doc pm an cdv ct us hl => ?b1, FunD.kwb FD fun kV doc pm an cdv ct us ws hl hl2 => ?b2, FD⟩
  case bd0 =>
    have F_is_one_of := F_is_one_of base
    refine fn_g (N := N_are_different) (m := m_are_different) FD ⟨rfl, rfl, rfl, by decide +kernel, rfl, by decide +kernel, by decide +kernel⟩ (by decide) ?_
    intro cdv A outer s H E hG hr
    have hN : (cxOf CX0 PG w K mg base N_are_different "are_different" (defScope (top 21)) (ga K "are_different") cdv A outer s H E).nox.N.Nodup := (by decide : N_are_different.Nodup)
    exact ⟨_, _, (tss_cons (ts_if (tmt_w (tmt_or (tmt_not (tmt_tru rfl (b_is .tuple h_free_isinstance h_free_tuple (v 0)))) (tmt_or1 (tmt_not (tmt_tru rfl (b_all rfl h_free_all (tms_cons (x_lc [("value", 2)] rfl hN (blk_of (by kernel_rfl)) (it_any rfl (v 0)) (fun _ _ _ _ _ => (gN 2 hN)) (fun _ _ _ _ _ => tmts_nil) (fun _ _ _ _ _ => (tm_frz (tm_call (F_is_one_of.monoG (by decide)) hG hr (by rfl) g_is_one_of k_is_one_of b_is_one_of (tmc_arg (vi 2) (tmc_arg (vi 1) tmc_nil)))))) tms_nil))))))) (tss_one (ts_ret tm_bl)) tss_nil) (tss_one (ts_ret (x_cmp (cEq hr) (tm_lenS rfl rfl (by rfl) h_free_len (by rfl) h_free_set (v 0)) (b_len h_free_len (tms_cons (v 0) tms_nil)))))), by decide⟩
  case b1 => exact match us, hl with | [_, _], _ => rfl
  case b2 => exact match us, ws, hl, hl2 with | [], [_, _], _, _ => rfl
def N_is_pair : List Str := ["sums", "value"]
def m_is_pair : M Fl := (mRet (mAndV (mCall c_are_different [none, none] (mCons (mIm (mRd 1)) (mCons (mIm (mRd 0)) mNil))) (mAndV (m2 fEq (mF (c1 fLen) (mCons (mRd 1) mNil)) (mC (.int 2))) (m2 fLt (m2 fIx (mRd 1) (mC (.int 0))) (m2 fIx (mRd 1) (mC (.int 1)))))))
def c_is_pair : Cal := runB 2 2 [] m_is_pair
theorem f_is_pair (c : SaysM fa fn K) (KX : K.In h) (Gm : h.Ns mainGlobals mg) : ∃ fd, (∀ base : Heap, FnG PG w K mg base CX0 6 (ga K "is_pair") fd ["sums", "value"] (spT (GG K) [] c_is_pair)) ∧ Binds K fd ["sums", "value"] [] ∧ KwB K fd ["sums", "value"] 0 ∧ FunD K "is_pair" "is_pair" (defArgs (top 28)) (defBody (top 28)) (defScope (top 28)) [] [] (ga K "is_pair") fd := by
  obtain ⟨fd, FD⟩ := c.defs.def_ 16
  have h_free_len := free_ok KX Gm (c.fact 2)
  obtain ⟨fd_are_different, F_are_different, b_are_different, w_are_different, d_are_different⟩ := f_are_different (w := w) c KX Gm
  have k_are_different := d_are_different.kp
  have g_are_different := glo_ok KX Gm (c.fact 30)
  refine ⟨fd, fun base => ?bd0, FunD.bindsN FD fun kV doc pm an cdv ct us hl => ?b1, FunD.kwb FD fun kV doc pm an cdv ct us ws hl hl2 => ?b2, FD⟩
  case bd0 =>
    have F_are_different := F_are_different base
    refine fn_g (N := N_is_pair) (m := m_is_pair) FD ⟨rfl, rfl, rfl, by decide +kernel, rfl, by decide +kernel, by decide +kernel⟩ (by decide) ?_
    intro cdv A outer s H E hG hr
    have hN : (cxOf CX0 PG w K mg base N_is_pair "is_pair" (defScope (top 28)) (ga K "is_pair") cdv A outer s H E).nox.N.Nodup := (by decide : N_is_pair.Nodup)
    exact ⟨_, _, (tss_one (ts_ret (tm_and (tm_call (F_are_different.monoG (by decide)) hG hr (by rfl) g_are_different k_are_different b_are_different (tmc_arg (vi 1) (tmc_arg (vi 0) tmc_nil))) (tm_and (x_cmp (cEq hr) (b_len h_free_len (tms_cons (v 1) tms_nil)) tm_int) (tm_one (x_cmp cLt (x_ix hr (v 1) tm_int) (x_ix hr (v 1) tm_int))))))), by decide⟩
  case b1 => exact match us, hl with | [_, _], _ => rfl
  case b2 => exact match us, ws, hl, hl2 with | [], [_, _], _, _ => rfl
def N_data_until : List Str := ["columns", "column", "name", "value", "sums", "many", "number", "index"]
def m_data_until : M Fl := (mSeq (mSet 4 (mFrz (mLc2 (mItA (mRd 0)) (mPut 1) (mItA (m2 fIx (mRd 1) (mC (.int 1)))) (mPut 2) (ret true) (mIm (mRd 2)) [1, 2] [2]))) (mSeq (mAsg (mTup (mCons (mC (.int 0)) (mCons (mC (.int 0)) mNil))) (mUn 2 (mGcons (mPut 5) (mGcons (mPut 6) mGnil)))) (mSeq (mFor (mRng enumF (mCons (mRd 0) mNil)) (mUn 2 (mGcons (mPut 7) (mGcons (mPut 1) mGnil))) (mSeq (mAug 5 (fII iAdd) (mF (c1 fLen) (mCons (m2 fIx (mRd 1) (mC (.int 1))) mNil))) (mSeq (mAug 6 (fII iAdd) (mF (c1 fLen) (mCons (m2 fIx (mRd 1) (mC (.int 2))) mNil))) (mIfS (mOr (asB (m2 fGt (mRd 5) (mC (.int 10)))) (mOr (asB (m2 fGt (mRd 6) (mC (.int 24)))) (mNot (mTru (mF (c1 (fBools fun bs => bs.all id)) (mCons (mLc (mItA (m2 fIx (mRd 1) (mC (.int 2)))) (mPut 3) (ret true) (mFrz (mCall c_is_pair [none, none] (mCons (mFz 4) (mCons (mIm (mRd 3)) mNil)))) [3]) mNil)))))) (mRet (mIm (mRd 7))) (ret .nx))))) (mRet (mC .non)))))
def c_data_until : Cal := runB 1 8 [] m_data_until
theorem f_data_until (c : SaysM fa fn K) (KX : K.In h) (Gm : h.Ns mainGlobals mg) : ∃ fd, (∀ base : Heap, FnG PG w K mg base CX0 8 (ga K "data_until") fd ["columns"] (spT (GG K) [] c_data_until)) ∧ Binds K fd ["columns"] [] ∧ KwB K fd ["columns"] 0 ∧ FunD K "data_until" "data_until" (defArgs (top 29)) (defBody (top 29)) (defScope (top 29)) [] [] (ga K "data_until") fd := by
  obtain ⟨fd, FD⟩ := c.defs.def_ 17
  have h_free_enumerate := free_ok KX Gm (c.fact 27)
  have h_free_len := free_ok KX Gm (c.fact 2)
  have h_int_MOST_SUMS_10 := int_ok KX Gm (c.fact 31)
  have h_int_MOST_DATA_24 := int_ok KX Gm (c.fact 32)
  have h_free_all := free_ok KX Gm (c.fact 22)
  obtain ⟨fd_is_pair, F_is_pair, b_is_pair, w_is_pair, d_is_pair⟩ := f_is_pair (w := w) c KX Gm
  have k_is_pair := d_is_pair.kp
  have g_is_pair := glo_ok KX Gm (c.fact 33)
  refine ⟨fd, fun base => ?bd0, FunD.bindsN FD fun kV doc pm an cdv ct us hl => ?b1, FunD.kwb FD fun kV doc pm an cdv ct us ws hl hl2 => ?b2, FD⟩
  case bd0 =>
    have F_is_pair := F_is_pair base
    refine fn_g (N := N_data_until) (m := m_data_until) FD ⟨rfl, rfl, rfl, by decide +kernel, rfl, by decide +kernel, by decide +kernel⟩ (by decide) ?_
    intro cdv A outer s H E hG hr
    have hN : (cxOf CX0 PG w K mg base N_data_until "data_until" (defScope (top 29)) (ga K "data_until") cdv A outer s H E).nox.N.Nodup := (by decide : N_data_until.Nodup)
    exact ⟨_, _, (tss_cons (s_set 4 (tm_frz (tm_lc2 (own := [("column", 1), ("name", 2)]) (vs1 := [2]) rfl hN (it_any rfl (v 0)) (blk_of (by kernel_rfl)) (fun _ _ _ _ _ => (gN 1 hN)) (fun _ _ _ _ _ => (it_any rfl (x_ix hr (v 1) tm_int))) (fun _ _ _ _ _ => (gN 2 hN)) (fun _ _ _ _ _ => tmts_nil) (fun _ _ _ _ _ => (vi 2)))) hN) (tss_cons (ts_asg (tm_tup (tms_cons tm_int (tms_cons tm_int tms_nil))) (tg_un rfl rfl (tgs_cons (gN 5 hN) (tgs_cons (gN 6 hN) tgs_nil)))) (tss_cons (ts_for passNox rfl (it_enum (by rfl) (by rfl) h_free_enumerate (tms_cons (v 0) tms_nil)) (tg_un rfl rfl (tgs_cons (gN 7 hN) (tgs_cons (gN 1 hN) tgs_nil))) (tss_cons (s_addTo 5 (b_len h_free_len (tms_cons (x_ix hr (v 1) tm_int) tms_nil)) hN) (tss_cons (s_addTo 6 (b_len h_free_len (tms_cons (x_ix hr (v 1) tm_int) tms_nil)) hN) (tss_one (ts_if (tmt_w (tmt_or (t_cmp cGt (v 5) (gI h_int_MOST_SUMS_10)) (tmt_or (t_cmp cGt (v 6) (gI h_int_MOST_DATA_24)) (tmt_or1 (tmt_not (tmt_tru rfl (b_all rfl h_free_all (tms_cons (x_lc [("value", 3)] rfl hN (blk_of (by kernel_rfl)) (it_any rfl (x_ix hr (v 1) tm_int)) (fun _ _ _ _ _ => (gN 3 hN)) (fun _ _ _ _ _ => tmts_nil) (fun _ _ _ _ _ => (tm_frz (tm_call (F_is_pair.monoG (by decide)) hG hr (by rfl) g_is_pair k_is_pair b_is_pair (tmc_arg (vf 4) (tmc_arg (vi 3) tmc_nil)))))) tms_nil)))))))) (tss_one (ts_ret (vi 7))) tss_nil))))) (tss_one (ts_ret tm_non))))), by decide⟩
  case b1 => exact match us, hl with | [_], _ => rfl
  case b2 => exact match us, ws, hl, hl2 with | [], [_], _, _ => rfl
def N_parts_from : List Str := ["columns", "each", "found", "number", "name", "sums", "data", "numbers"]
def m_parts_from : M Fl := (mSeq (mPar 2 3 (mCons (mLst mNil) (mCons (mC (.int 0)) mNil))) (mSeq (mFor (mItA (mRd 0)) (mUn 3 (mGcons (mPut 4) (mGcons (mPut 5) (mGcons (mPut 6) mGnil)))) (mSeq (mSet 7 (mFrz (m2 fRngL2 (mRd 3) (m2 fAdd (mRd 3) (mF (c1 fLen) (mCons (mRd 6) mNil)))))) (mSeq (mDrop (mMut 2 (mHere 2) isLst (mCons (mFrz (mTup (mStar (mLc (mItA (mRd 5)) (mPut 1) (ret true) (mFrz (mTup (mCons (mC (.str "sum")) (mCons (mIm (mRd 1)) mNil)))) [1]) (mStar (mLc (mItA (mRd 7)) (mPut 1) (ret true) (mFrz (mTup (mCons (mC (.str "datum")) (mCons (mIm (mRd 1)) mNil)))) [1]) mNil)))) mNil) fAppend)) (mAug 3 (fII iAdd) (mF (c1 fLen) (mCons (mRd 6) mNil)))))) (mRet (mF (c1 fTuple) (mCons (mRd 2) mNil)))))
def c_parts_from : Cal := runB 1 8 [] m_parts_from
theorem f_parts_from (c : SaysM fa fn K) (KX : K.In h) (Gm : h.Ns mainGlobals mg) : ∃ fd, (∀ base : Heap, FnG PG w K mg base CX0 2 (ga K "parts_from") fd ["columns"] (spT (GG K) [] c_parts_from)) ∧ Binds K fd ["columns"] [] ∧ KwB K fd ["columns"] 0 ∧ FunD K "parts_from" "parts_from" (defArgs (top 33)) (defBody (top 33)) (defScope (top 33)) [] [] (ga K "parts_from") fd := by
  obtain ⟨fd, FD⟩ := c.defs.def_ 18
  have h_free_len := free_ok KX Gm (c.fact 2)
  have h_free_list := free_ok KX Gm (c.fact 34)
  have h_free_range := free_ok KX Gm (c.fact 4)
  have h_free_tuple := free_ok KX Gm (c.fact 23)
  refine ⟨fd, fun base => ?bd0, FunD.bindsN FD fun kV doc pm an cdv ct us hl => ?b1, FunD.kwb FD fun kV doc pm an cdv ct us ws hl hl2 => ?b2, FD⟩
  case bd0 =>
    refine fn_g (N := N_parts_from) (m := m_parts_from) FD ⟨rfl, rfl, rfl, by decide +kernel, rfl, by decide +kernel, by decide +kernel⟩ (by decide) ?_
    intro cdv A outer s H E hG hr
    have hN : (cxOf CX0 PG w K mg base N_parts_from "parts_from" (defScope (top 33)) (ga K "parts_from") cdv A outer s H E).nox.N.Nodup := (by decide : N_parts_from.Nodup)
    exact ⟨_, _, (tss_cons (s_par 2 3 rfl (tms_cons (tm_lst tms_nil) (tms_cons tm_int tms_nil)) hN) (tss_cons (ts_for passNox rfl (it_any rfl (v 0)) (tg_un rfl rfl (tgs_cons (gN 4 hN) (tgs_cons (gN 5 hN) (tgs_cons (gN 6 hN) tgs_nil)))) (tss_cons (s_set 7 (tm_frz (b_listRng2 h_free_list h_free_range rfl (v 3) (x_add (v 3) (b_len h_free_len (tms_cons (v 6) tms_nil))))) hN) (tss_cons (ts_expr (l_append (hv 2) (tm_frz (tm_tup (tms_star rfl (x_lc [("each", 1)] rfl hN (blk_of (by kernel_rfl)) (it_any rfl (v 5)) (fun _ _ _ _ _ => (gN 1 hN)) (fun _ _ _ _ _ => tmts_nil) (fun _ _ _ _ _ => (tm_frz (tm_tup (tms_cons tm_str (tms_cons (vi 1) tms_nil)))))) (tms_star rfl (x_lc [("each", 1)] rfl hN (blk_of (by kernel_rfl)) (it_any rfl (v 7)) (fun _ _ _ _ _ => (gN 1 hN)) (fun _ _ _ _ _ => tmts_nil) (fun _ _ _ _ _ => (tm_frz (tm_tup (tms_cons tm_str (tms_cons (vi 1) tms_nil)))))) tms_nil)))))) (tss_one (s_addTo 3 (b_len h_free_len (tms_cons (v 6) tms_nil)) hN))))) (tss_one (ts_ret (b_tuple h_free_tuple (tms_cons (v 2) tms_nil)))))), by decide⟩
  case b1 => exact match us, hl with | [_], _ => rfl
  case b2 => exact match us, ws, hl, hl2 with | [], [_], _, _ => rfl
def N_Table___init__ : List Str := ["self", "kind", "columns", "column", "index"]
def m_Table___init__ : M Fl := (mSeq (mIfS (mNot (mTru (mCall c_is_kind [none] (mCons (mIm (mRd 1)) mNil)))) (fun _ => none) (ret .nx)) (mSeq (mIfS (mOr (mNot (mTru (m1 (isB .tuple) (mRd 2)))) (asB (m2 fEq (mRd 2) (mTup mNil)))) (fun _ => none) (ret .nx)) (mSeq (mSet 4 (mFrz (mCall c_form_until [none] (mCons (mIm (mRd 2)) mNil)))) (mSeq (mIfS (asB (m2 fIsNot (mRd 4) (mC .non))) (fun _ => none) (ret .nx)) (mSeq (mIfS (mTru (mF (c1 (fBools fun bs => bs.all id)) (mCons (mLc (mItA (mRd 2)) (mPut 3) (ret true) (m2 fEq (m2 fIx (mRd 3) (mC (.int 1))) (mTup mNil)) [3]) mNil))) (fun _ => none) (ret .nx)) (mSeq (mSet 4 (mFrz (mCall c_data_until [none] (mCons (mIm (mRd 2)) mNil)))) (mSeq (mIfS (asB (m2 fIsNot (mRd 4) (mC .non))) (fun _ => none) (ret .nx)) (mSeq (mSetF 0 (mHere 0) "Table" "kind" (mIm (mRd 1))) (mSeq (mSetF 0 (mHere 0) "Table" "columns" (mIm (mRd 2))) (mSetF 0 (mHere 0) "Table" "held" (mFrz (mCall c_parts_from [none] (mCons (mIm (mRd 2)) mNil)))))))))))))
def c_Table___init__ : Cal := runB 3 5 [0] m_Table___init__
theorem f_Table___init__ (c : SaysM fa fn K) (KX : K.In h) (Gm : h.Ns mainGlobals mg) : ∃ fd, (∀ base : Heap, FnG PG w K mg base CX0 10 (ma K (ga K "Table") "__init__") fd ["self", "kind", "columns"] (spT (GG K) [0] c_Table___init__)) ∧ Binds K fd ["self", "kind", "columns"] [] ∧ KwB K fd ["self", "kind", "columns"] 1 ∧ FunD K "__init__" "Table.__init__" (defArgs (sub 32 0)) (defBody (sub 32 0)) (defScope (sub 32 0)) [] [] (ma K (ga K "Table") "__init__") fd := by
  obtain ⟨fd, FD⟩ := c.defs.def_ 19
  have h_free_isinstance := free_ok KX Gm (c.fact 11)
  have h_free_tuple := free_ok KX Gm (c.fact 23)
  have h_free_all := free_ok KX Gm (c.fact 22)
  have h_cls_Table := cls_ok (c.fact 35)
  have h_noat_Table_kind := noat_ok (c.fact 36)
  have h_noat_Table_columns := noat_ok (c.fact 37)
  have h_noat_Table_held := noat_ok (c.fact 38)
  obtain ⟨fd_is_kind, F_is_kind, b_is_kind, w_is_kind, d_is_kind⟩ := f_is_kind (w := w) c KX Gm
  have k_is_kind := d_is_kind.kp
  have g_is_kind := glo_ok KX Gm (c.fact 39)
  obtain ⟨fd_form_until, F_form_until, b_form_until, w_form_until, d_form_until⟩ := f_form_until (w := w) c KX Gm
  have k_form_until := d_form_until.kp
  have g_form_until := glo_ok KX Gm (c.fact 40)
  obtain ⟨fd_data_until, F_data_until, b_data_until, w_data_until, d_data_until⟩ := f_data_until (w := w) c KX Gm
  have k_data_until := d_data_until.kp
  have g_data_until := glo_ok KX Gm (c.fact 41)
  obtain ⟨fd_parts_from, F_parts_from, b_parts_from, w_parts_from, d_parts_from⟩ := f_parts_from (w := w) c KX Gm
  have k_parts_from := d_parts_from.kp
  have g_parts_from := glo_ok KX Gm (c.fact 42)
  refine ⟨fd, fun base => ?bd0, FunD.bindsN FD fun kV doc pm an cdv ct us hl => ?b1, FunD.kwb FD fun kV doc pm an cdv ct us ws hl hl2 => ?b2, FD⟩
  case bd0 =>
    have F_is_kind := F_is_kind base
    have F_form_until := F_form_until base
    have F_data_until := F_data_until base
    have F_parts_from := F_parts_from base
    refine fn_g (N := N_Table___init__) (m := m_Table___init__) FD ⟨rfl, rfl, rfl, by decide +kernel, rfl, by decide +kernel, by decide +kernel⟩ (by decide) ?_
    intro cdv A outer s H E hG hr
    have hN : (cxOf CX0 PG w K mg base N_Table___init__ "Table.__init__" (defScope (sub 32 0)) (ma K (ga K "Table") "__init__") cdv A outer s H E).nox.N.Nodup := (by decide : N_Table___init__.Nodup)
    exact ⟨_, _, (tss_cons (ts_if (tmt_not (tmt_tru rfl (tm_call (F_is_kind.monoG (by decide)) hG hr (by rfl) g_is_kind k_is_kind b_is_kind (tmc_arg (vi 1) tmc_nil)))) (tss_one ts_never) tss_nil) (tss_cons (ts_if (tmt_w (tmt_or (tmt_not (tmt_tru rfl (b_is .tuple h_free_isinstance h_free_tuple (v 2)))) (tmt_or1 (t_cmp (cEq hr) (v 2) (tm_tup tms_nil))))) (tss_one ts_never) tss_nil) (tss_cons (s_set 4 (tm_frz (tm_call (F_form_until.monoG (by decide)) hG hr (by rfl) g_form_until k_form_until b_form_until (tmc_arg (vi 2) tmc_nil))) hN) (tss_cons (ts_if (t_cmp cIsNot (v 4) tm_non) (tss_one ts_never) tss_nil) (tss_cons (ts_if (tmt_tru rfl (b_all rfl h_free_all (tms_cons (x_lc [("column", 3)] rfl hN (blk_of (by kernel_rfl)) (it_any rfl (v 2)) (fun _ _ _ _ _ => (gN 3 hN)) (fun _ _ _ _ _ => tmts_nil) (fun _ _ _ _ _ => (x_cmp (cEq hr) (x_ix hr (v 3) tm_int) (tm_tup tms_nil)))) tms_nil))) (tss_one ts_never) tss_nil) (tss_cons (s_set 4 (tm_frz (tm_call (F_data_until.monoG (by decide)) hG hr (by rfl) g_data_until k_data_until b_data_until (tmc_arg (vi 2) tmc_nil))) hN) (tss_cons (ts_if (t_cmp cIsNot (v 4) tm_non) (tss_one ts_never) tss_nil) (tss_cons (ts_setF rfl h_cls_Table h_noat_Table_kind (vi 1) (hv 0)) (tss_cons (ts_setF rfl h_cls_Table h_noat_Table_columns (vi 2) (hv 0)) (tss_one (ts_setF rfl h_cls_Table h_noat_Table_held (tm_frz (tm_call (F_parts_from.monoG (by decide)) hG hr (by rfl) g_parts_from k_parts_from b_parts_from (tmc_arg (vi 2) tmc_nil))) (hv 0)))))))))))), by decide⟩
  case b1 => exact match us, hl with | [_, _, _], _ => rfl
  case b2 => exact match us, ws, hl, hl2 with | [_], [_, _], _, _ => rfl
def N__law_made : List Str := ["_law_chart_here", "_law_label", "_law_tags_here", "_law_pairs_here", "_law_columns_here"]
def m__law_made : M Fl := (mSeq (mSet 4 (mLc (mItA (m2 fIx (mRd 0) (mC (.int 1)))) (mUn 3 (mGcons (mPut 1) (mGcons (mPut 2) (mGcons (mPut 3) mGnil)))) (ret true) (mFrz (mTup (mCons (mIm (mRd 1)) (mCons (mFrz (mF (c1 fTuple) (mCons (mRd 2) mNil))) (mCons (mFrz (mF (c1 fTuple) (mCons (mRd 3) mNil))) mNil))))) [1, 2, 3])) (mRet (mMake c_Table___init__ "Table" [none, none] (mCons (mIm (m2 fIx (mRd 0) (mC (.int 0)))) (mCons (mFrz (mF (c1 fTuple) (mCons (mRd 4) mNil))) mNil)))))
def c__law_made : Cal := runB 1 5 [] m__law_made
theorem f__law_made (c : SaysM fa fn K) (KX : K.In h) (Gm : h.Ns mainGlobals mg) : ∃ fd, (∀ base : Heap, FnG PG w K mg base CX0 12 (ga K "_law_made") fd ["_law_chart_here"] (spT (GG K) [] c__law_made)) ∧ Binds K fd ["_law_chart_here"] [] ∧ KwB K fd ["_law_chart_here"] 0 ∧ FunD K "_law_made" "_law_made" (defArgs (top 40)) (defBody (top 40)) (defScope (top 40)) [] [] (ga K "_law_made") fd := by
  obtain ⟨fd, FD⟩ := c.defs.def_ 20
  have h_free_tuple := free_ok KX Gm (c.fact 23)
  have h_glo_Table := glo_ok KX Gm (c.fact 43)
  have h_mkr_Table := mkr_ok (c.fact 44)
  obtain ⟨fd_Table___init__, F_Table___init__, b_Table___init__, w_Table___init__, d_Table___init__⟩ := f_Table___init__ (w := w) c KX Gm
  have k_Table___init__ := d_Table___init__.kp
  refine ⟨fd, fun base => ?bd0, FunD.bindsN FD fun kV doc pm an cdv ct us hl => ?b1, FunD.kwb FD fun kV doc pm an cdv ct us ws hl hl2 => ?b2, FD⟩
  case bd0 =>
    have F_Table___init__ := F_Table___init__ base
    refine fn_g (N := N__law_made) (m := m__law_made) FD ⟨rfl, rfl, rfl, by decide +kernel, rfl, by decide +kernel, by decide +kernel⟩ (by decide) ?_
    intro cdv A outer s H E hG hr
    have hN : (cxOf CX0 PG w K mg base N__law_made "_law_made" (defScope (top 40)) (ga K "_law_made") cdv A outer s H E).nox.N.Nodup := (by decide : N__law_made.Nodup)
    exact ⟨_, _, (tss_cons (s_setLc 4 [("_law_label", 1), ("_law_tags_here", 2), ("_law_pairs_here", 3)] rfl hN (blk_of (by kernel_rfl)) (it_any rfl (x_ix hr (v 0) tm_int)) (fun _ _ _ _ _ => (tg_un rfl rfl (tgs_cons (gN 1 hN) (tgs_cons (gN 2 hN) (tgs_cons (gN 3 hN) tgs_nil))))) (fun _ _ _ _ _ => tmts_nil) (fun _ _ _ _ _ => (tm_frz (tm_tup (tms_cons (vi 1) (tms_cons (tm_frz (b_tuple h_free_tuple (tms_cons (v 2) tms_nil))) (tms_cons (tm_frz (b_tuple h_free_tuple (tms_cons (v 3) tms_nil))) tms_nil))))))) (tss_one (ts_ret (tm_make h_glo_Table h_mkr_Table (F_Table___init__.monoG (by decide)) hG hr (by rfl) b_Table___init__ (tmc_arg (tm_im (x_ix hr (v 0) tm_int)) (tmc_arg (tm_frz (b_tuple h_free_tuple (tms_cons (v 4) tms_nil))) tmc_nil)))))), by decide⟩
  case b1 => exact match us, hl with | [_], _ => rfl
  case b2 => exact match us, ws, hl, hl2 with | [], [_], _, _ => rfl
def N_Table___str__ : List Str := ["self", "each", "pair", "lines", "name", "sums", "data"]
def m_Table___str__ : M Fl := (mSeq (mSet 3 (mLst (mCons (mFrz (mJs [(mC (.str "kind ")), (m1 fFmt (m1 (fFld "Table" "kind") (mRd 0)))] Str.empty)) mNil))) (mSeq (mFor (mItA (m1 (fFld "Table" "columns") (mRd 0))) (mUn 3 (mGcons (mPut 4) (mGcons (mPut 5) (mGcons (mPut 6) mGnil)))) (mSeq (mDrop (mMut 3 (mHere 3) isLst (mCons (mFrz (mJs [(mC (.str "column ")), (m1 fFmt (mRd 4))] Str.empty)) mNil) fAppend)) (mSeq (mDrop (mMut 3 (mHere 3) isLst (mCons (mFrz (mLc (mItA (mRd 5)) (mPut 1) (ret true) (mFrz (mJs [(mC (.str "sum ")), (m1 fFmt (mRd 1))] Str.empty)) [1])) mNil) fExtend)) (mDrop (mMut 3 (mHere 3) isLst (mCons (mFrz (mLc (mItA (mRd 6)) (mPut 2) (ret true) (mFrz (mJs [(mC (.str "datum ")), (m1 fFmt (m2 fIx (mRd 2) (mC (.int 0)))), (mC (.str " ")), (m1 fFmt (m2 fIx (mRd 2) (mC (.int 1))))] Str.empty)) [2])) mNil) fExtend))))) (mRet (mMet1 isTx fJoin (mC (.str "\n")) (mRd 3)))))
def c_Table___str__ : Cal := runB 1 7 [] m_Table___str__
theorem f_Table___str__ (c : SaysM fa fn K) (KX : K.In h) (Gm : h.Ns mainGlobals mg) : ∃ fd, (∀ base : Heap, FnG PG w K mg base CX0 2 (ma K (ga K "Table") "__str__") fd ["self"] (spT (GG K) [] c_Table___str__)) ∧ Binds K fd ["self"] [] ∧ KwB K fd ["self"] 1 ∧ FunD K "__str__" "Table.__str__" (defArgs (sub 32 11)) (defBody (sub 32 11)) (defScope (sub 32 11)) [] [] (ma K (ga K "Table") "__str__") fd := by
  obtain ⟨fd, FD⟩ := c.defs.def_ 21
  have h_cls_Table := cls_ok (c.fact 35)
  have h_noat_Table_kind := noat_ok (c.fact 36)
  have h_noat_Table_columns := noat_ok (c.fact 37)
  refine ⟨fd, fun base => ?bd0, FunD.bindsN FD fun kV doc pm an cdv ct us hl => ?b1, FunD.kwb FD fun kV doc pm an cdv ct us ws hl hl2 => ?b2, FD⟩
  case bd0 =>
    refine fn_g (N := N_Table___str__) (m := m_Table___str__) FD ⟨rfl, rfl, rfl, by decide +kernel, rfl, by decide +kernel, by decide +kernel⟩ (by decide) ?_
    intro cdv A outer s H E hG hr
    have hN : (cxOf CX0 PG w K mg base N_Table___str__ "Table.__str__" (defScope (sub 32 11)) (ma K (ga K "Table") "__str__") cdv A outer s H E).nox.N.Nodup := (by decide : N_Table___str__.Nodup)
    exact ⟨_, _, (tss_cons (s_set 3 (tm_lst (tms_cons (tm_frz (tm_js (.cons tm_str (.cons (tm_fmt (tm_fld (g := (GG K)) rfl h_cls_Table h_noat_Table_kind (v 0))) .nil)))) tms_nil)) hN) (tss_cons (ts_for passNox rfl (it_any rfl (tm_fld (g := (GG K)) rfl h_cls_Table h_noat_Table_columns (v 0))) (tg_un rfl rfl (tgs_cons (gN 4 hN) (tgs_cons (gN 5 hN) (tgs_cons (gN 6 hN) tgs_nil)))) (tss_cons (ts_expr (l_append (hv 3) (tm_frz (tm_js (.cons tm_str (.cons (tm_fmt (v 4)) .nil)))))) (tss_cons (ts_expr (l_extend (hv 3) (tm_frz (x_lc [("each", 1)] rfl hN (blk_of (by kernel_rfl)) (it_any rfl (v 5)) (fun _ _ _ _ _ => (gN 1 hN)) (fun _ _ _ _ _ => tmts_nil) (fun _ _ _ _ _ => (tm_frz (tm_js (.cons tm_str (.cons (tm_fmt (v 1)) .nil))))))))) (tss_one (ts_expr (l_extend (hv 3) (tm_frz (x_lc [("pair", 2)] rfl hN (blk_of (by kernel_rfl)) (it_any rfl (v 6)) (fun _ _ _ _ _ => (gN 2 hN)) (fun _ _ _ _ _ => tmts_nil) (fun _ _ _ _ _ => (tm_frz (tm_js (.cons tm_str (.cons (tm_fmt (x_ix hr (v 2) tm_int)) (.cons tm_str (.cons (tm_fmt (x_ix hr (v 2) tm_int)) .nil))))))))))))))) (tss_one (ts_ret (l_join tm_str (v 3)))))), by decide⟩
  case b1 => exact match us, hl with | [_], _ => rfl
  case b2 => exact match us, ws, hl, hl2 with | [_], [], _, _ => rfl
def N_Table_cells : List Str := ["self", "part", "cell"]
def m_Table_cells : M Fl := (mRet (mF (c1 fTuple) (mCons (mLc2 (mItA (m1 (fFld "Table" "held") (mRd 0))) (mPut 1) (mItA (mRd 1)) (mPut 2) (ret true) (mIm (mRd 2)) [1, 2] [2]) mNil)))
def c_Table_cells : Cal := runB 1 3 [] m_Table_cells
theorem f_Table_cells (c : SaysM fa fn K) (KX : K.In h) (Gm : h.Ns mainGlobals mg) : ∃ fd, (∀ base : Heap, FnG PG w K mg base CX0 2 (pgA K "Table" "cells") fd ["self"] (spT (GG K) [] c_Table_cells)) ∧ Binds K fd ["self"] [] ∧ KwB K fd ["self"] 1 ∧ FunD K "cells" "Table.cells" (defArgs (sub 32 5)) (defBody (sub 32 5)) (defScope (sub 32 5)) [] [] (pgA K "Table" "cells") fd := by
  obtain ⟨fd, FD⟩ := c.defs.def_ 22
  have h_cls_Table := cls_ok (c.fact 35)
  have h_noat_Table_held := noat_ok (c.fact 38)
  have h_free_tuple := free_ok KX Gm (c.fact 23)
  refine ⟨fd, fun base => ?bd0, FunD.bindsN FD fun kV doc pm an cdv ct us hl => ?b1, FunD.kwb FD fun kV doc pm an cdv ct us ws hl hl2 => ?b2, FD⟩
  case bd0 =>
    refine fn_g (N := N_Table_cells) (m := m_Table_cells) FD ⟨rfl, rfl, rfl, by decide +kernel, rfl, by decide +kernel, by decide +kernel⟩ (by decide) ?_
    intro cdv A outer s H E hG hr
    have hN : (cxOf CX0 PG w K mg base N_Table_cells "Table.cells" (defScope (sub 32 5)) (pgA K "Table" "cells") cdv A outer s H E).nox.N.Nodup := (by decide : N_Table_cells.Nodup)
    exact ⟨_, _, (tss_one (ts_ret (b_tuple h_free_tuple (tms_cons (tm_lc2 (own := [("part", 1), ("cell", 2)]) (vs1 := [2]) rfl hN (it_any rfl (tm_fld (g := (GG K)) rfl h_cls_Table h_noat_Table_held (v 0))) (blk_of (by kernel_rfl)) (fun _ _ _ _ _ => (gN 1 hN)) (fun _ _ _ _ _ => (it_any rfl (v 1))) (fun _ _ _ _ _ => (gN 2 hN)) (fun _ _ _ _ _ => tmts_nil) (fun _ _ _ _ _ => (vi 2))) tms_nil)))), by decide⟩
  case b1 => exact match us, hl with | [_], _ => rfl
  case b2 => exact match us, ws, hl, hl2 with | [_], [], _, _ => rfl
def N_Table_data : List Str := ["self", "column", "pair"]
def m_Table_data : M Fl := (mRet (mF (c1 fTuple) (mCons (mLc2 (mItA (m1 (fFld "Table" "columns") (mRd 0))) (mPut 1) (mItA (m2 fIx (mRd 1) (mC (.int 2)))) (mPut 2) (ret true) (mIm (mRd 2)) [1, 2] [2]) mNil)))
def c_Table_data : Cal := runB 1 3 [] m_Table_data
theorem f_Table_data (c : SaysM fa fn K) (KX : K.In h) (Gm : h.Ns mainGlobals mg) : ∃ fd, (∀ base : Heap, FnG PG w K mg base CX0 2 (pgA K "Table" "data") fd ["self"] (spT (GG K) [] c_Table_data)) ∧ Binds K fd ["self"] [] ∧ KwB K fd ["self"] 1 ∧ FunD K "data" "Table.data" (defArgs (sub 32 4)) (defBody (sub 32 4)) (defScope (sub 32 4)) [] [] (pgA K "Table" "data") fd := by
  obtain ⟨fd, FD⟩ := c.defs.def_ 23
  have h_cls_Table := cls_ok (c.fact 35)
  have h_noat_Table_columns := noat_ok (c.fact 37)
  have h_free_tuple := free_ok KX Gm (c.fact 23)
  refine ⟨fd, fun base => ?bd0, FunD.bindsN FD fun kV doc pm an cdv ct us hl => ?b1, FunD.kwb FD fun kV doc pm an cdv ct us ws hl hl2 => ?b2, FD⟩
  case bd0 =>
    refine fn_g (N := N_Table_data) (m := m_Table_data) FD ⟨rfl, rfl, rfl, by decide +kernel, rfl, by decide +kernel, by decide +kernel⟩ (by decide) ?_
    intro cdv A outer s H E hG hr
    have hN : (cxOf CX0 PG w K mg base N_Table_data "Table.data" (defScope (sub 32 4)) (pgA K "Table" "data") cdv A outer s H E).nox.N.Nodup := (by decide : N_Table_data.Nodup)
    exact ⟨_, _, (tss_one (ts_ret (b_tuple h_free_tuple (tms_cons (tm_lc2 (own := [("column", 1), ("pair", 2)]) (vs1 := [2]) rfl hN (it_any rfl (tm_fld (g := (GG K)) rfl h_cls_Table h_noat_Table_columns (v 0))) (blk_of (by kernel_rfl)) (fun _ _ _ _ _ => (gN 1 hN)) (fun _ _ _ _ _ => (it_any rfl (x_ix hr (v 1) tm_int))) (fun _ _ _ _ _ => (gN 2 hN)) (fun _ _ _ _ _ => tmts_nil) (fun _ _ _ _ _ => (vi 2))) tms_nil)))), by decide⟩
  case b1 => exact match us, hl with | [_], _ => rfl
  case b2 => exact match us, ws, hl, hl2 with | [_], [], _, _ => rfl
def N_Table_sums : List Str := ["self", "column", "name"]
def m_Table_sums : M Fl := (mRet (mF (c1 fTuple) (mCons (mLc2 (mItA (m1 (fFld "Table" "columns") (mRd 0))) (mPut 1) (mItA (m2 fIx (mRd 1) (mC (.int 1)))) (mPut 2) (ret true) (mIm (mRd 2)) [1, 2] [2]) mNil)))
def c_Table_sums : Cal := runB 1 3 [] m_Table_sums
theorem f_Table_sums (c : SaysM fa fn K) (KX : K.In h) (Gm : h.Ns mainGlobals mg) : ∃ fd, (∀ base : Heap, FnG PG w K mg base CX0 2 (pgA K "Table" "sums") fd ["self"] (spT (GG K) [] c_Table_sums)) ∧ Binds K fd ["self"] [] ∧ KwB K fd ["self"] 1 ∧ FunD K "sums" "Table.sums" (defArgs (sub 32 3)) (defBody (sub 32 3)) (defScope (sub 32 3)) [] [] (pgA K "Table" "sums") fd := by
  obtain ⟨fd, FD⟩ := c.defs.def_ 24
  have h_cls_Table := cls_ok (c.fact 35)
  have h_noat_Table_columns := noat_ok (c.fact 37)
  have h_free_tuple := free_ok KX Gm (c.fact 23)
  refine ⟨fd, fun base => ?bd0, FunD.bindsN FD fun kV doc pm an cdv ct us hl => ?b1, FunD.kwb FD fun kV doc pm an cdv ct us ws hl hl2 => ?b2, FD⟩
  case bd0 =>
    refine fn_g (N := N_Table_sums) (m := m_Table_sums) FD ⟨rfl, rfl, rfl, by decide +kernel, rfl, by decide +kernel, by decide +kernel⟩ (by decide) ?_
    intro cdv A outer s H E hG hr
    have hN : (cxOf CX0 PG w K mg base N_Table_sums "Table.sums" (defScope (sub 32 3)) (pgA K "Table" "sums") cdv A outer s H E).nox.N.Nodup := (by decide : N_Table_sums.Nodup)
    exact ⟨_, _, (tss_one (ts_ret (b_tuple h_free_tuple (tms_cons (tm_lc2 (own := [("column", 1), ("name", 2)]) (vs1 := [2]) rfl hN (it_any rfl (tm_fld (g := (GG K)) rfl h_cls_Table h_noat_Table_columns (v 0))) (blk_of (by kernel_rfl)) (fun _ _ _ _ _ => (gN 1 hN)) (fun _ _ _ _ _ => (it_any rfl (x_ix hr (v 1) tm_int))) (fun _ _ _ _ _ => (gN 2 hN)) (fun _ _ _ _ _ => tmts_nil) (fun _ _ _ _ _ => (vi 2))) tms_nil)))), by decide⟩
  case b1 => exact match us, hl with | [_], _ => rfl
  case b2 => exact match us, ws, hl, hl2 with | [_], [], _, _ => rfl
def N_Table_names : List Str := ["self", "column"]
def m_Table_names : M Fl := (mRet (mF (c1 fTuple) (mCons (mLc (mItA (m1 (fFld "Table" "columns") (mRd 0))) (mPut 1) (ret true) (mIm (m2 fIx (mRd 1) (mC (.int 0)))) [1]) mNil)))
def c_Table_names : Cal := runB 1 2 [] m_Table_names
theorem f_Table_names (c : SaysM fa fn K) (KX : K.In h) (Gm : h.Ns mainGlobals mg) : ∃ fd, (∀ base : Heap, FnG PG w K mg base CX0 2 (pgA K "Table" "names") fd ["self"] (spT (GG K) [] c_Table_names)) ∧ Binds K fd ["self"] [] ∧ KwB K fd ["self"] 1 ∧ FunD K "names" "Table.names" (defArgs (sub 32 2)) (defBody (sub 32 2)) (defScope (sub 32 2)) [] [] (pgA K "Table" "names") fd := by
  obtain ⟨fd, FD⟩ := c.defs.def_ 25
  have h_cls_Table := cls_ok (c.fact 35)
  have h_noat_Table_columns := noat_ok (c.fact 37)
  have h_free_tuple := free_ok KX Gm (c.fact 23)
  refine ⟨fd, fun base => ?bd0, FunD.bindsN FD fun kV doc pm an cdv ct us hl => ?b1, FunD.kwb FD fun kV doc pm an cdv ct us ws hl hl2 => ?b2, FD⟩
  case bd0 =>
    refine fn_g (N := N_Table_names) (m := m_Table_names) FD ⟨rfl, rfl, rfl, by decide +kernel, rfl, by decide +kernel, by decide +kernel⟩ (by decide) ?_
    intro cdv A outer s H E hG hr
    have hN : (cxOf CX0 PG w K mg base N_Table_names "Table.names" (defScope (sub 32 2)) (pgA K "Table" "names") cdv A outer s H E).nox.N.Nodup := (by decide : N_Table_names.Nodup)
    exact ⟨_, _, (tss_one (ts_ret (b_tuple h_free_tuple (tms_cons (x_lc [("column", 1)] rfl hN (blk_of (by kernel_rfl)) (it_any rfl (tm_fld (g := (GG K)) rfl h_cls_Table h_noat_Table_columns (v 0))) (fun _ _ _ _ _ => (gN 1 hN)) (fun _ _ _ _ _ => tmts_nil) (fun _ _ _ _ _ => (tm_im (x_ix hr (v 1) tm_int)))) tms_nil)))), by decide⟩
  case b1 => exact match us, hl with | [_], _ => rfl
  case b2 => exact match us, ws, hl, hl2 with | [_], [], _, _ => rfl
def mB_Table_names : M T := (mLc (mItA (m1 (fFld "Table" "columns") (mRd 0))) (mPut 1) (ret true) (mIm (m2 fIx (mRd 1) (mC (.int 0)))) [1])
def cB_Table_names : List T → Option (List T) := runL 1 2 mB_Table_names
def N__law_pairs : List Str := ["_law_chart_here", "_law_found", "_law_label", "_law_tags_here", "_law_pairs_here"]
def m__law_pairs : M Fl := (mSeq (mSet 1 (mFrz (mLst mNil))) (mSeq (mFor (mItA (m2 fIx (mRd 0) (mC (.int 1)))) (mUn 3 (mGcons (mPut 2) (mGcons (mPut 3) (mGcons (mPut 4) mGnil)))) (mSet 1 (mFrz (m2 fAdd (mRd 1) (mRd 4))))) (mRet (mIm (mRd 1)))))
def c__law_pairs : Cal := runB 1 5 [] m__law_pairs
theorem f__law_pairs (c : SaysM fa fn K) (KX : K.In h) (Gm : h.Ns mainGlobals mg) : ∃ fd, (∀ base : Heap, FnG PG w K mg base CX0 2 (ga K "_law_pairs") fd ["_law_chart_here"] (spT (GG K) [] c__law_pairs)) ∧ Binds K fd ["_law_chart_here"] [] ∧ KwB K fd ["_law_chart_here"] 0 ∧ FunD K "_law_pairs" "_law_pairs" (defArgs (top 43)) (defBody (top 43)) (defScope (top 43)) [] [] (ga K "_law_pairs") fd := by
  obtain ⟨fd, FD⟩ := c.defs.def_ 26
  refine ⟨fd, fun base => ?bd0, FunD.bindsN FD fun kV doc pm an cdv ct us hl => ?b1, FunD.kwb FD fun kV doc pm an cdv ct us ws hl hl2 => ?b2, FD⟩
  case bd0 =>
    refine fn_g (N := N__law_pairs) (m := m__law_pairs) FD ⟨rfl, rfl, rfl, by decide +kernel, rfl, by decide +kernel, by decide +kernel⟩ (by decide) ?_
    intro cdv A outer s H E hG hr
    have hN : (cxOf CX0 PG w K mg base N__law_pairs "_law_pairs" (defScope (top 43)) (ga K "_law_pairs") cdv A outer s H E).nox.N.Nodup := (by decide : N__law_pairs.Nodup)
    exact ⟨_, _, (tss_cons (s_set 1 (tm_frz (tm_lst tms_nil)) hN) (tss_cons (ts_for passNox rfl (it_any rfl (x_ix hr (v 0) tm_int)) (tg_un rfl rfl (tgs_cons (gN 2 hN) (tgs_cons (gN 3 hN) (tgs_cons (gN 4 hN) tgs_nil)))) (tss_one (s_set 1 (tm_frz (x_add (v 1) (v 4))) hN))) (tss_one (ts_ret (vi 1))))), by decide⟩
  case b1 => exact match us, hl with | [_], _ => rfl
  case b2 => exact match us, ws, hl, hl2 with | [], [_], _, _ => rfl
def N__law_tags : List Str := ["_law_chart_here", "_law_found", "_law_label", "_law_tags_here", "_law_pairs_here"]
def m__law_tags : M Fl := (mSeq (mSet 1 (mFrz (mLst mNil))) (mSeq (mFor (mItA (m2 fIx (mRd 0) (mC (.int 1)))) (mUn 3 (mGcons (mPut 2) (mGcons (mPut 3) (mGcons (mPut 4) mGnil)))) (mSet 1 (mFrz (m2 fAdd (mRd 1) (mRd 3))))) (mRet (mIm (mRd 1)))))
def c__law_tags : Cal := runB 1 5 [] m__law_tags
theorem f__law_tags (c : SaysM fa fn K) (KX : K.In h) (Gm : h.Ns mainGlobals mg) : ∃ fd, (∀ base : Heap, FnG PG w K mg base CX0 2 (ga K "_law_tags") fd ["_law_chart_here"] (spT (GG K) [] c__law_tags)) ∧ Binds K fd ["_law_chart_here"] [] ∧ KwB K fd ["_law_chart_here"] 0 ∧ FunD K "_law_tags" "_law_tags" (defArgs (top 42)) (defBody (top 42)) (defScope (top 42)) [] [] (ga K "_law_tags") fd := by
  obtain ⟨fd, FD⟩ := c.defs.def_ 27
  refine ⟨fd, fun base => ?bd0, FunD.bindsN FD fun kV doc pm an cdv ct us hl => ?b1, FunD.kwb FD fun kV doc pm an cdv ct us ws hl hl2 => ?b2, FD⟩
  case bd0 =>
    refine fn_g (N := N__law_tags) (m := m__law_tags) FD ⟨rfl, rfl, rfl, by decide +kernel, rfl, by decide +kernel, by decide +kernel⟩ (by decide) ?_
    intro cdv A outer s H E hG hr
    have hN : (cxOf CX0 PG w K mg base N__law_tags "_law_tags" (defScope (top 42)) (ga K "_law_tags") cdv A outer s H E).nox.N.Nodup := (by decide : N__law_tags.Nodup)
    exact ⟨_, _, (tss_cons (s_set 1 (tm_frz (tm_lst tms_nil)) hN) (tss_cons (ts_for passNox rfl (it_any rfl (x_ix hr (v 0) tm_int)) (tg_un rfl rfl (tgs_cons (gN 2 hN) (tgs_cons (gN 3 hN) (tgs_cons (gN 4 hN) tgs_nil)))) (tss_one (s_set 1 (tm_frz (x_add (v 1) (v 3))) hN))) (tss_one (ts_ret (vi 1))))), by decide⟩
  case b1 => exact match us, hl with | [_], _ => rfl
  case b2 => exact match us, ws, hl, hl2 with | [], [_], _, _ => rfl
def N__law_places : List Str := ["_law_chart_here", "_law_tag", "_law_k", "_law_found", "_law_number", "_law_label", "_law_tags_here", "_law_pairs_here"]
def m__law_places : M Fl := (mSeq (mAsg (mTup (mCons (mFrz (mLst mNil)) (mCons (mC (.int 0)) mNil))) (mUn 2 (mGcons (mPut 3) (mGcons (mPut 4) mGnil)))) (mSeq (mFor (mItA (m2 fIx (mRd 0) (mC (.int 1)))) (mUn 3 (mGcons (mPut 5) (mGcons (mPut 6) (mGcons (mPut 7) mGnil)))) (mSeq (mSet 3 (mFrz (m2 fAdd (mRd 3) (mLc (mItA (mRd 6)) (mPut 1) (ret true) (mFrz (mTup (mCons (mC (.str "sum")) (mCons (mIm (mRd 1)) mNil)))) [1])))) (mSeq (mSet 3 (mFrz (m2 fAdd (mRd 3) (mLc (mRng rng1 (mCons (mF (c1 fLen) (mCons (mRd 7) mNil)) mNil)) (mPut 2) (ret true) (mFrz (mTup (mCons (mC (.str "datum")) (mCons (mFrz (m2 fAdd (mRd 4) (mRd 2))) mNil)))) [2])))) (mSet 4 (mFrz (m2 fAdd (mRd 4) (mF (c1 fLen) (mCons (mRd 7) mNil)))))))) (mRet (mIm (mRd 3)))))
def c__law_places : Cal := runB 1 8 [] m__law_places
theorem f__law_places (c : SaysM fa fn K) (KX : K.In h) (Gm : h.Ns mainGlobals mg) : ∃ fd, (∀ base : Heap, FnG PG w K mg base CX0 2 (ga K "_law_places") fd ["_law_chart_here"] (spT (GG K) [] c__law_places)) ∧ Binds K fd ["_law_chart_here"] [] ∧ KwB K fd ["_law_chart_here"] 0 ∧ FunD K "_law_places" "_law_places" (defArgs (top 44)) (defBody (top 44)) (defScope (top 44)) [] [] (ga K "_law_places") fd := by
  obtain ⟨fd, FD⟩ := c.defs.def_ 28
  have h_free_len := free_ok KX Gm (c.fact 2)
  have h_free_range := free_ok KX Gm (c.fact 4)
  refine ⟨fd, fun base => ?bd0, FunD.bindsN FD fun kV doc pm an cdv ct us hl => ?b1, FunD.kwb FD fun kV doc pm an cdv ct us ws hl hl2 => ?b2, FD⟩
  case bd0 =>
    refine fn_g (N := N__law_places) (m := m__law_places) FD ⟨rfl, rfl, rfl, by decide +kernel, rfl, by decide +kernel, by decide +kernel⟩ (by decide) ?_
    intro cdv A outer s H E hG hr
    have hN : (cxOf CX0 PG w K mg base N__law_places "_law_places" (defScope (top 44)) (ga K "_law_places") cdv A outer s H E).nox.N.Nodup := (by decide : N__law_places.Nodup)
    exact ⟨_, _, (tss_cons (ts_asg (tm_tup (tms_cons (tm_frz (tm_lst tms_nil)) (tms_cons tm_int tms_nil))) (tg_un rfl rfl (tgs_cons (gN 3 hN) (tgs_cons (gN 4 hN) tgs_nil)))) (tss_cons (ts_for passNox rfl (it_any rfl (x_ix hr (v 0) tm_int)) (tg_un rfl rfl (tgs_cons (gN 5 hN) (tgs_cons (gN 6 hN) (tgs_cons (gN 7 hN) tgs_nil)))) (tss_cons (s_set 3 (tm_frz (x_add (v 3) (x_lc [("_law_tag", 1)] rfl hN (blk_of (by kernel_rfl)) (it_any rfl (v 6)) (fun _ _ _ _ _ => (gN 1 hN)) (fun _ _ _ _ _ => tmts_nil) (fun _ _ _ _ _ => (tm_frz (tm_tup (tms_cons tm_str (tms_cons (vi 1) tms_nil)))))))) hN) (tss_cons (s_set 3 (tm_frz (x_add (v 3) (x_lc [("_law_k", 2)] rfl hN (blk_of (by kernel_rfl)) (it_range1 (by rfl) h_free_range (tms_cons (b_len h_free_len (tms_cons (v 7) tms_nil)) tms_nil)) (fun _ _ _ _ _ => (gN 2 hN)) (fun _ _ _ _ _ => tmts_nil) (fun _ _ _ _ _ => (tm_frz (tm_tup (tms_cons tm_str (tms_cons (tm_frz (x_add (v 4) (v 2))) tms_nil)))))))) hN) (tss_one (s_set 4 (tm_frz (x_add (v 4) (b_len h_free_len (tms_cons (v 7) tms_nil)))) hN))))) (tss_one (ts_ret (vi 3))))), by decide⟩
  case b1 => exact match us, hl with | [_], _ => rfl
  case b2 => exact match us, ws, hl, hl2 with | [], [_], _, _ => rfl
def N_Table___repr__ : List Str := ["self"]
def m_Table___repr__ : M Fl := (mRet (mJs [(mC (.str "Table of ")), (m1 fFmt (mF (c1 fLen) (mCons (m1 (fFld "Table" "columns") (mRd 0)) mNil))), (mC (.str " columns, ")), (m1 fFmt (mF (c1 fLen) (mCons (mCall c_Table_sums [none] (mCons (mIns "Table" Str.empty (mIm (mRd 0))) mNil)) mNil))), (mC (.str " sums and ")), (m1 fFmt (mF (c1 fLen) (mCons (mCall c_Table_data [none] (mCons (mIns "Table" Str.empty (mIm (mRd 0))) mNil)) mNil))), (mC (.str " data"))] Str.empty))
def c_Table___repr__ : Cal := runB 1 1 [] m_Table___repr__
theorem f_Table___repr__ (c : SaysM fa fn K) (KX : K.In h) (Gm : h.Ns mainGlobals mg) : ∃ fd, (∀ base : Heap, FnG PG w K mg base CX0 4 (ma K (ga K "Table") "__repr__") fd ["self"] (spT (GG K) [] c_Table___repr__)) ∧ Binds K fd ["self"] [] ∧ KwB K fd ["self"] 1 ∧ FunD K "__repr__" "Table.__repr__" (defArgs (sub 32 12)) (defBody (sub 32 12)) (defScope (sub 32 12)) [] [] (ma K (ga K "Table") "__repr__") fd := by
  obtain ⟨fd, FD⟩ := c.defs.def_ 29
  have h_cls_Table := cls_ok (c.fact 35)
  have h_prop_Table_data := prB_ok (c.fact 45)
  have h_free_len := free_ok KX Gm (c.fact 2)
  have h_prop_Table_sums := prB_ok (c.fact 46)
  have h_noat_Table_columns := noat_ok (c.fact 37)
  obtain ⟨fd_Table_data, F_Table_data, b_Table_data, w_Table_data, d_Table_data⟩ := f_Table_data (w := w) c KX Gm
  have k_Table_data := d_Table_data.kp
  obtain ⟨fd_Table_sums, F_Table_sums, b_Table_sums, w_Table_sums, d_Table_sums⟩ := f_Table_sums (w := w) c KX Gm
  have k_Table_sums := d_Table_sums.kp
  refine ⟨fd, fun base => ?bd0, FunD.bindsN FD fun kV doc pm an cdv ct us hl => ?b1, FunD.kwb FD fun kV doc pm an cdv ct us ws hl hl2 => ?b2, FD⟩
  case bd0 =>
    have F_Table_data := F_Table_data base
    have F_Table_sums := F_Table_sums base
    refine fn_g (N := N_Table___repr__) (m := m_Table___repr__) FD ⟨rfl, rfl, rfl, by decide +kernel, rfl, by decide +kernel, by decide +kernel⟩ (by decide) ?_
    intro cdv A outer s H E hG hr
    have hN : (cxOf CX0 PG w K mg base N_Table___repr__ "Table.__repr__" (defScope (sub 32 12)) (ma K (ga K "Table") "__repr__") cdv A outer s H E).nox.N.Nodup := (by decide : N_Table___repr__.Nodup)
    exact ⟨_, _, (tss_one (ts_ret (tm_js (.cons tm_str (.cons (tm_fmt (b_len h_free_len (tms_cons (tm_fld (g := (GG K)) rfl h_cls_Table h_noat_Table_columns (v 0)) tms_nil))) (.cons tm_str (.cons (tm_fmt (b_len h_free_len (tms_cons (tm_prop (g := (GG K)) h_cls_Table h_prop_Table_sums (F_Table_sums.monoG (by decide)) hG hr b_Table_sums (vi 0)) tms_nil))) (.cons tm_str (.cons (tm_fmt (b_len h_free_len (tms_cons (tm_prop (g := (GG K)) h_cls_Table h_prop_Table_data (F_Table_data.monoG (by decide)) hG hr b_Table_data (vi 0)) tms_nil))) (.cons tm_str .nil)))))))))), by decide⟩
  case b1 => exact match us, hl with | [_], _ => rfl
  case b2 => exact match us, ws, hl, hl2 with | [_], [], _, _ => rfl
def N_Table___eq__ : List Str := ["self", "other"]
def m_Table___eq__ : M Fl := (mSeq (mIfS (mNot (mTru (m1 (isC "Table" ["Table"]) (mRd 1)))) (mRet (mC (.bl false))) (ret .nx)) (mRet (m2 fEq (mTx (mCall c_Table___str__ [none] (mCons (mIns "Table" Str.empty (mIm (mRd 0))) mNil))) (mTx (mCall c_Table___str__ [none] (mCons (mIns "Table" Str.empty (mIm (mRd 1))) mNil))))))
def c_Table___eq__ : Cal := runB 2 2 [] m_Table___eq__
theorem f_Table___eq__ (c : SaysM fa fn K) (KX : K.In h) (Gm : h.Ns mainGlobals mg) : ∃ fd, (∀ base : Heap, FnG PG w K mg base CX0 5 (ma K (ga K "Table") "__eq__") fd ["self", "other"] (spT (GG K) [] c_Table___eq__)) ∧ Binds K fd ["self", "other"] [] ∧ KwB K fd ["self", "other"] 1 ∧ FunD K "__eq__" "Table.__eq__" (defArgs (sub 32 10)) (defBody (sub 32 10)) (defScope (sub 32 10)) [] [] (ma K (ga K "Table") "__eq__") fd := by
  obtain ⟨fd, FD⟩ := c.defs.def_ 30
  have h_free_isinstance := free_ok KX Gm (c.fact 11)
  have h_glo_Table := glo_ok KX Gm (c.fact 43)
  have h_isi_Table := isi_ok (c.fact 47)
  have h_free_str := free_ok KX Gm (c.fact 10)
  have h_meth_Table___str__ := meth_ok (c.fact 48)
  obtain ⟨fd_Table___str__, F_Table___str__, b_Table___str__, w_Table___str__, d_Table___str__⟩ := f_Table___str__ (w := w) c KX Gm
  have k_Table___str__ := d_Table___str__.kp
  refine ⟨fd, fun base => ?bd0, FunD.bindsN FD fun kV doc pm an cdv ct us hl => ?b1, FunD.kwb FD fun kV doc pm an cdv ct us ws hl hl2 => ?b2, FD⟩
  case bd0 =>
    have F_Table___str__ := F_Table___str__ base
    refine fn_g (N := N_Table___eq__) (m := m_Table___eq__) FD ⟨rfl, rfl, rfl, by decide +kernel, rfl, by decide +kernel, by decide +kernel⟩ (by decide) ?_
    intro cdv A outer s H E hG hr
    have hN : (cxOf CX0 PG w K mg base N_Table___eq__ "Table.__eq__" (defScope (sub 32 10)) (ma K (ga K "Table") "__eq__") cdv A outer s H E).nox.N.Nodup := (by decide : N_Table___eq__.Nodup)
    exact ⟨_, _, (tss_cons (ts_if (tmt_not (tmt_tru rfl (x_isC h_free_isinstance h_glo_Table h_isi_Table (v 1)))) (tss_one (ts_ret tm_bl)) tss_nil) (tss_one (ts_ret (x_cmp (cEq hr) (b_strO h_free_str h_meth_Table___str__ (F_Table___str__.monoG (by decide)) hG hr b_Table___str__ (vi 0)) (b_strO h_free_str h_meth_Table___str__ (F_Table___str__.monoG (by decide)) hG hr b_Table___str__ (vi 1)))))), by decide⟩
  case b1 => exact match us, hl with | [_, _], _ => rfl
  case b2 => exact match us, ws, hl, hl2 with | [_], [_], _, _ => rfl
def N_number_in : List Str := ["text", "sign"]
def m_number_in : M Fl := (mSeq (mIfS (mOr (asB (m2 fEq (mRd 0) (mC (.str "")))) (mNot (mTru (mF (c1 (fBools fun bs => bs.all id)) (mCons (mLc (mItA (mRd 0)) (mPut 1) (ret true) (m2 fIn (mRd 1) (mC (.str "0123456789"))) [1]) mNil))))) (mRet (mC .non)) (ret .nx)) (mRet (mIf (mAnd (asB (m2 fEq (m2 fIx (mRd 0) (mC (.int 0))) (mC (.str "0")))) (asB (m2 fNe (mRd 0) (mC (.str "0"))))) (mC .non) (mF (c1 fIntS) (mCons (mRd 0) mNil)))))
def c_number_in : Cal := runB 1 2 [] m_number_in
theorem f_number_in (c : SaysM fa fn K) (KX : K.In h) (Gm : h.Ns mainGlobals mg) : ∃ fd, (∀ base : Heap, FnG PG w K mg base CX0 2 (ga K "number_in") fd ["text"] (spT (GG K) [] c_number_in)) ∧ Binds K fd ["text"] [] ∧ KwB K fd ["text"] 0 ∧ FunD K "number_in" "number_in" (defArgs (top 22)) (defBody (top 22)) (defScope (top 22)) [] [] (ga K "number_in") fd := by
  obtain ⟨fd, FD⟩ := c.defs.def_ 31
  have h_str_DIGITS_0123456789 := str_ok KX Gm (c.fact 49)
  have h_free_all := free_ok KX Gm (c.fact 22)
  have h_free_int := free_ok KX Gm (c.fact 1)
  refine ⟨fd, fun base => ?bd0, FunD.bindsN FD fun kV doc pm an cdv ct us hl => ?b1, FunD.kwb FD fun kV doc pm an cdv ct us ws hl hl2 => ?b2, FD⟩
  case bd0 =>
    refine fn_g (N := N_number_in) (m := m_number_in) FD ⟨rfl, rfl, rfl, by decide +kernel, rfl, by decide +kernel, by decide +kernel⟩ (by decide) ?_
    intro cdv A outer s H E hG hr
    have hN : (cxOf CX0 PG w K mg base N_number_in "number_in" (defScope (top 22)) (ga K "number_in") cdv A outer s H E).nox.N.Nodup := (by decide : N_number_in.Nodup)
    exact ⟨_, _, (tss_cons (ts_if (tmt_w (tmt_or (t_cmp (cEq hr) (v 0) tm_str) (tmt_or1 (tmt_not (tmt_tru rfl (b_all rfl h_free_all (tms_cons (x_lc [("sign", 1)] rfl hN (blk_of (by kernel_rfl)) (it_any rfl (v 0)) (fun _ _ _ _ _ => (gN 1 hN)) (fun _ _ _ _ _ => tmts_nil) (fun _ _ _ _ _ => (x_cmp (cIn hr) (v 1) (gS h_str_DIGITS_0123456789)))) tms_nil))))))) (tss_one (ts_ret tm_non)) tss_nil) (tss_one (ts_ret (tm_if (tmt_w (tmt_and (t_cmp (cEq hr) (x_ix hr (v 0) tm_int) tm_str) (tmt_and1 (t_cmp (cNe hr) (v 0) tm_str)))) tm_non (b_intS h_free_int (tms_cons (v 0) tms_nil)))))), by decide⟩
  case b1 => exact match us, hl with | [_], _ => rfl
  case b2 => exact match us, ws, hl, hl2 with | [], [_], _, _ => rfl
def N_parts_in : List Str := ["text", "line", "lines", "number", "columns", "words", "name", "sums", "data"]
def m_parts_in : M Fl := (mSeq (mSet 2 (mLc (mItA (mMet1 isTx fSplit (mRd 0) (mC (.str "\n")))) (mPut 1) (ret true) (mFrz (mMet1 isTx fSplit (mRd 1) (mC (.str " ")))) [1])) (mSeq (mIfS (mOr (asB (m2 fNe (m2 fIx (m2 fIx (mRd 2) (mC (.int 0))) (mC (.int 0))) (mC (.str "kind")))) (asB (m2 fNe (mF (c1 fLen) (mCons (m2 fIx (mRd 2) (mC (.int 0))) mNil)) (mC (.int 2))))) (mRet (mC .non)) (ret .nx)) (mSeq (mSet 3 (mFrz (mCall c_number_in [none] (mCons (mIm (m2 fIx (m2 fIx (mRd 2) (mC (.int 0))) (mC (.int 1)))) mNil)))) (mSeq (mSet 4 (mLst mNil)) (mSeq (mFor (mItA (mSl fCut (mRd 2) (mPt (mC (.int 1))) mNoP)) (mPut 5) (mIfS (mAnd (asB (m2 fEq (m2 fIx (mRd 5) (mC (.int 0))) (mC (.str "column")))) (asB (m2 fEq (mF (c1 fLen) (mCons (mRd 5) mNil)) (mC (.int 2))))) (mDrop (mMut 4 (mHere 4) isLst (mCons (mFrz (mTup (mCons (mIm (m2 fIx (mRd 5) (mC (.int 1)))) (mCons (mFrz (mTup mNil)) (mCons (mFrz (mTup mNil)) mNil))))) mNil) fAppend)) (mIfS (mAnd (asB (m2 fNe (mRd 4) (mLst mNil))) (mAnd (asB (m2 fEq (m2 fIx (mRd 5) (mC (.int 0))) (mC (.str "sum")))) (asB (m2 fEq (mF (c1 fLen) (mCons (mRd 5) mNil)) (mC (.int 2)))))) (mSeq (mAsg (mFrz (mMut 4 (mHere 4) isLst mNil fPop)) (mUn 3 (mGcons (mPut 6) (mGcons (mPut 7) (mGcons (mPut 8) mGnil))))) (mDrop (mMut 4 (mHere 4) isLst (mCons (mFrz (mTup (mCons (mIm (mRd 6)) (mCons (mFrz (mTup (mStar (mRd 7) (mCons (mIm (m2 fIx (mRd 5) (mC (.int 1)))) mNil)))) (mCons (mIm (mRd 8)) mNil))))) mNil) fAppend))) (mIfS (mAnd (asB (m2 fNe (mRd 4) (mLst mNil))) (mAnd (asB (m2 fEq (m2 fIx (mRd 5) (mC (.int 0))) (mC (.str "datum")))) (asB (m2 fEq (mF (c1 fLen) (mCons (mRd 5) mNil)) (mC (.int 3)))))) (mSeq (mAsg (mFrz (mMut 4 (mHere 4) isLst mNil fPop)) (mUn 3 (mGcons (mPut 6) (mGcons (mPut 7) (mGcons (mPut 8) mGnil))))) (mDrop (mMut 4 (mHere 4) isLst (mCons (mFrz (mTup (mCons (mIm (mRd 6)) (mCons (mIm (mRd 7)) (mCons (mFrz (mTup (mStar (mRd 8) (mCons (mFrz (mTup (mCons (mIm (m2 fIx (mRd 5) (mC (.int 1)))) (mCons (mIm (m2 fIx (mRd 5) (mC (.int 2)))) mNil)))) mNil)))) mNil))))) mNil) fAppend))) (mRet (mC .non)))))) (mRet (mTup (mCons (mIf (asB (m2 fIs (mRd 3) (mC .non))) (mIm (m2 fIx (m2 fIx (mRd 2) (mC (.int 0))) (mC (.int 1)))) (mIm (mRd 3))) (mCons (mFrz (mF (c1 fTuple) (mCons (mRd 4) mNil))) mNil)))))))))
def c_parts_in : Cal := runB 1 9 [] m_parts_in
theorem f_parts_in (c : SaysM fa fn K) (KX : K.In h) (Gm : h.Ns mainGlobals mg) : ∃ fd, (∀ base : Heap, FnG PG w K mg base CX0 4 (ga K "parts_in") fd ["text"] (spT (GG K) [] c_parts_in)) ∧ Binds K fd ["text"] [] ∧ KwB K fd ["text"] 0 ∧ FunD K "parts_in" "parts_in" (defArgs (top 30)) (defBody (top 30)) (defScope (top 30)) [] [] (ga K "parts_in") fd := by
  obtain ⟨fd, FD⟩ := c.defs.def_ 32
  have h_free_len := free_ok KX Gm (c.fact 2)
  have h_free_tuple := free_ok KX Gm (c.fact 23)
  obtain ⟨fd_number_in, F_number_in, b_number_in, w_number_in, d_number_in⟩ := f_number_in (w := w) c KX Gm
  have k_number_in := d_number_in.kp
  have g_number_in := glo_ok KX Gm (c.fact 50)
  refine ⟨fd, fun base => ?bd0, FunD.bindsN FD fun kV doc pm an cdv ct us hl => ?b1, FunD.kwb FD fun kV doc pm an cdv ct us ws hl hl2 => ?b2, FD⟩
  case bd0 =>
    have F_number_in := F_number_in base
    refine fn_g (N := N_parts_in) (m := m_parts_in) FD ⟨rfl, rfl, rfl, by decide +kernel, rfl, by decide +kernel, by decide +kernel⟩ (by decide) ?_
    intro cdv A outer s H E hG hr
    have hN : (cxOf CX0 PG w K mg base N_parts_in "parts_in" (defScope (top 30)) (ga K "parts_in") cdv A outer s H E).nox.N.Nodup := (by decide : N_parts_in.Nodup)
    exact ⟨_, _, (tss_cons (s_setLc 2 [("line", 1)] rfl hN (blk_of (by kernel_rfl)) (it_any rfl (l_split (v 0) tm_str)) (fun _ _ _ _ _ => (gN 1 hN)) (fun _ _ _ _ _ => tmts_nil) (fun _ _ _ _ _ => (tm_frz (l_split (v 1) tm_str)))) (tss_cons (ts_if (tmt_w (tmt_or (t_cmp (cNe hr) (x_ix hr (x_ix hr (v 2) tm_int) tm_int) tm_str) (tmt_or1 (t_cmp (cNe hr) (b_len h_free_len (tms_cons (x_ix hr (v 2) tm_int) tms_nil)) tm_int)))) (tss_one (ts_ret tm_non)) tss_nil) (tss_cons (s_set 3 (tm_frz (tm_call (F_number_in.monoG (by decide)) hG hr (by rfl) g_number_in k_number_in b_number_in (tmc_arg (tm_im (x_ix hr (x_ix hr (v 2) tm_int) tm_int)) tmc_nil))) hN) (tss_cons (s_set 4 (tm_lst tms_nil) hN) (tss_cons (ts_for passNox rfl (it_any rfl (x_cut (v 2) (tmo_some tm_int) tmo_none)) (gN 5 hN) (tss_one (ts_if (tmt_w (tmt_and (t_cmp (cEq hr) (x_ix hr (v 5) tm_int) tm_str) (tmt_and1 (t_cmp (cEq hr) (b_len h_free_len (tms_cons (v 5) tms_nil)) tm_int)))) (tss_one (ts_expr (l_append (hv 4) (tm_frz (tm_tup (tms_cons (tm_im (x_ix hr (v 5) tm_int)) (tms_cons (tm_frz (tm_tup tms_nil)) (tms_cons (tm_frz (tm_tup tms_nil)) tms_nil)))))))) (tss_one (ts_if (tmt_w (tmt_and (t_cmp (cNe hr) (v 4) (tm_lst tms_nil)) (tmt_and (t_cmp (cEq hr) (x_ix hr (v 5) tm_int) tm_str) (tmt_and1 (t_cmp (cEq hr) (b_len h_free_len (tms_cons (v 5) tms_nil)) tm_int))))) (tss_cons (ts_asg (tm_frz (l_pop (hv 4))) (tg_un rfl rfl (tgs_cons (gN 6 hN) (tgs_cons (gN 7 hN) (tgs_cons (gN 8 hN) tgs_nil))))) (tss_one (ts_expr (l_append (hv 4) (tm_frz (tm_tup (tms_cons (vi 6) (tms_cons (tm_frz (tm_tup (tms_star rfl (v 7) (tms_cons (tm_im (x_ix hr (v 5) tm_int)) tms_nil)))) (tms_cons (vi 8) tms_nil))))))))) (tss_one (ts_if (tmt_w (tmt_and (t_cmp (cNe hr) (v 4) (tm_lst tms_nil)) (tmt_and (t_cmp (cEq hr) (x_ix hr (v 5) tm_int) tm_str) (tmt_and1 (t_cmp (cEq hr) (b_len h_free_len (tms_cons (v 5) tms_nil)) tm_int))))) (tss_cons (ts_asg (tm_frz (l_pop (hv 4))) (tg_un rfl rfl (tgs_cons (gN 6 hN) (tgs_cons (gN 7 hN) (tgs_cons (gN 8 hN) tgs_nil))))) (tss_one (ts_expr (l_append (hv 4) (tm_frz (tm_tup (tms_cons (vi 6) (tms_cons (vi 7) (tms_cons (tm_frz (tm_tup (tms_star rfl (v 8) (tms_cons (tm_frz (tm_tup (tms_cons (tm_im (x_ix hr (v 5) tm_int)) (tms_cons (tm_im (x_ix hr (v 5) tm_int)) tms_nil)))) tms_nil)))) tms_nil))))))))) (tss_one (ts_ret tm_non))))))))) (tss_one (ts_ret (tm_tup (tms_cons (tm_if (t_cmp cIs (v 3) tm_non) (tm_im (x_ix hr (x_ix hr (v 2) tm_int) tm_int)) (vi 3)) (tms_cons (tm_frz (b_tuple h_free_tuple (tms_cons (v 4) tms_nil))) tms_nil)))))))))), by decide⟩
  case b1 => exact match us, hl with | [_], _ => rfl
  case b2 => exact match us, ws, hl, hl2 with | [], [_], _, _ => rfl
def N_table_with : List Str := ["kind", "columns"]
def m_table_with : M Fl := (mRet (mMake c_Table___init__ "Table" [none, none] (mCons (mIm (mRd 0)) (mCons (mIm (mRd 1)) mNil))))
def c_table_with : Cal := runB 2 2 [] m_table_with
theorem f_table_with (c : SaysM fa fn K) (KX : K.In h) (Gm : h.Ns mainGlobals mg) : ∃ fd, (∀ base : Heap, FnG PG w K mg base CX0 12 (ga K "table_with") fd ["kind", "columns"] (spT (GG K) [] c_table_with)) ∧ Binds K fd ["kind", "columns"] [] ∧ KwB K fd ["kind", "columns"] 0 ∧ FunD K "table_with" "table_with" (defArgs (top 31)) (defBody (top 31)) (defScope (top 31)) [] [] (ga K "table_with") fd := by
  obtain ⟨fd, FD⟩ := c.defs.def_ 33
  have h_glo_Table := glo_ok KX Gm (c.fact 43)
  have h_mkr_Table := mkr_ok (c.fact 44)
  obtain ⟨fd_Table___init__, F_Table___init__, b_Table___init__, w_Table___init__, d_Table___init__⟩ := f_Table___init__ (w := w) c KX Gm
  have k_Table___init__ := d_Table___init__.kp
  refine ⟨fd, fun base => ?bd0, FunD.bindsN FD fun kV doc pm an cdv ct us hl => ?b1, FunD.kwb FD fun kV doc pm an cdv ct us ws hl hl2 => ?b2, FD⟩
  case bd0 =>
    have F_Table___init__ := F_Table___init__ base
    refine fn_g (N := N_table_with) (m := m_table_with) FD ⟨rfl, rfl, rfl, by decide +kernel, rfl, by decide +kernel, by decide +kernel⟩ (by decide) ?_
    intro cdv A outer s H E hG hr
    have hN : (cxOf CX0 PG w K mg base N_table_with "table_with" (defScope (top 31)) (ga K "table_with") cdv A outer s H E).nox.N.Nodup := (by decide : N_table_with.Nodup)
    exact ⟨_, _, (tss_one (ts_try0 (tss_one (ts_ret (tm_make h_glo_Table h_mkr_Table (F_Table___init__.monoG (by decide)) hG hr (by rfl) b_Table___init__ (tmc_arg (vi 0) (tmc_arg (vi 1) tmc_nil))))))), by decide⟩
  case b1 => exact match us, hl with | [_, _], _ => rfl
  case b2 => exact match us, ws, hl, hl2 with | [], [_, _], _, _ => rfl
def N_Table_read : List Str := ["text", "found", "table"]
def m_Table_read : M Fl := (mSeq (mSet 1 (mIf (mTru (m1 (isB .str) (mRd 0))) (mFrz (mCall c_parts_in [none] (mCons (mIm (mRd 0)) mNil))) (mC .non))) (mSeq (mSet 2 (mIf (asB (m2 fIsNot (mRd 1) (mC .non))) (mFrz (mCall c_table_with [none, none] (mCons (mIm (m2 fIx (mRd 1) (mC (.int 0)))) (mCons (mIm (m2 fIx (mRd 1) (mC (.int 1)))) mNil)))) (mC .non))) (mSeq (mIfS (mOr (asB (m2 fIs (mRd 2) (mC .non))) (asB (m2 fNe (mTx (mCall c_Table___str__ [none] (mCons (mIns "Table" Str.empty (mIm (mRd 2))) mNil))) (mRd 0)))) (fun _ => none) (ret .nx)) (mRet (mIm (mRd 2))))))
def c_Table_read : Cal := runB 1 3 [] m_Table_read
theorem f_Table_read (c : SaysM fa fn K) (KX : K.In h) (Gm : h.Ns mainGlobals mg) : ∃ fd, (∀ base : Heap, FnG PG w K mg base CX0 15 (sta K "Table" "read") fd ["text"] (spT (GG K) [] c_Table_read)) ∧ Binds K fd ["text"] [] ∧ KwB K fd ["text"] 0 ∧ FunD K "read" "Table.read" (defArgs (sub 32 1)) (defBody (sub 32 1)) (defScope (sub 32 1)) [] [] (sta K "Table" "read") fd := by
  obtain ⟨fd, FD⟩ := c.defs.def_ 34
  have h_free_isinstance := free_ok KX Gm (c.fact 11)
  have h_free_str := free_ok KX Gm (c.fact 10)
  have h_meth_Table___str__ := meth_ok (c.fact 48)
  obtain ⟨fd_parts_in, F_parts_in, b_parts_in, w_parts_in, d_parts_in⟩ := f_parts_in (w := w) c KX Gm
  have k_parts_in := d_parts_in.kp
  have g_parts_in := glo_ok KX Gm (c.fact 51)
  obtain ⟨fd_table_with, F_table_with, b_table_with, w_table_with, d_table_with⟩ := f_table_with (w := w) c KX Gm
  have k_table_with := d_table_with.kp
  have g_table_with := glo_ok KX Gm (c.fact 52)
  obtain ⟨fd_Table___str__, F_Table___str__, b_Table___str__, w_Table___str__, d_Table___str__⟩ := f_Table___str__ (w := w) c KX Gm
  have k_Table___str__ := d_Table___str__.kp
  refine ⟨fd, fun base => ?bd0, FunD.bindsN FD fun kV doc pm an cdv ct us hl => ?b1, FunD.kwb FD fun kV doc pm an cdv ct us ws hl hl2 => ?b2, FD⟩
  case bd0 =>
    have F_parts_in := F_parts_in base
    have F_table_with := F_table_with base
    have F_Table___str__ := F_Table___str__ base
    refine fn_g (N := N_Table_read) (m := m_Table_read) FD ⟨rfl, rfl, rfl, by decide +kernel, rfl, by decide +kernel, by decide +kernel⟩ (by decide) ?_
    intro cdv A outer s H E hG hr
    have hN : (cxOf CX0 PG w K mg base N_Table_read "Table.read" (defScope (sub 32 1)) (sta K "Table" "read") cdv A outer s H E).nox.N.Nodup := (by decide : N_Table_read.Nodup)
    exact ⟨_, _, (tss_cons (s_set 1 (tm_if (tmt_tru rfl (b_is .str h_free_isinstance h_free_str (v 0))) (tm_frz (tm_call (F_parts_in.monoG (by decide)) hG hr (by rfl) g_parts_in k_parts_in b_parts_in (tmc_arg (vi 0) tmc_nil))) tm_non) hN) (tss_cons (s_set 2 (tm_if (t_cmp cIsNot (v 1) tm_non) (tm_frz (tm_call (F_table_with.monoG (by decide)) hG hr (by rfl) g_table_with k_table_with b_table_with (tmc_arg (tm_im (x_ix hr (v 1) tm_int)) (tmc_arg (tm_im (x_ix hr (v 1) tm_int)) tmc_nil)))) tm_non) hN) (tss_cons (ts_if (tmt_w (tmt_or (t_cmp cIs (v 2) tm_non) (tmt_or1 (t_cmp (cNe hr) (b_strO h_free_str h_meth_Table___str__ (F_Table___str__.monoG (by decide)) hG hr b_Table___str__ (vi 2)) (v 0))))) (tss_one ts_never) tss_nil) (tss_one (ts_ret (vi 2)))))), by decide⟩
  case b1 => exact match us, hl with | [_], _ => rfl
  case b2 => exact match us, ws, hl, hl2 with | [], [_], _, _ => rfl
def N__law_right_k02 : List Str := ["_law_jar_here", "_law_part", "_law_label", "_law_tags_here", "_law_pairs_here", "_law_two", "_law_each", "_law_kept", "_law_turn", "_law_one", "_law_chart_here", "_law_mine", "_law_page_here", "_law_passed", "_law_told", "_law_due", "_law_sizes", "_law_line"]
def m__law_right_k02 : M Fl := (mSeq (mSet 7 (mLst mNil)) (mSeq (mFor (mRng rng1 (mCons (mC (.int 4)) mNil)) (mPut 8) (mSeq (mSet 10 (mIf (asB (m2 fEq (mCall c__law_dip [(some 0), none] (mCons (mLn 0) (mCons (mC (.int 4)) mNil))) (mC (.int 0)))) (mFrz (mCall c__law_full [(some 0)] (mCons (mLn 0) mNil))) (mFrz (mCall c__law_chart [(some 0), none, none, none] (mCons (mLn 0) (mCons (mC (.int 6)) (mCons (mC (.int 6)) (mCons (mC (.int 10)) mNil)))))))) (mSeq (mPar 11 12 (mCons (mFrz (mCall c__law_made [none] (mCons (mIm (mRd 10)) mNil))) (mCons (mFrz (mCall c__law_page [none] (mCons (mIm (mRd 10)) mNil))) mNil))) (mSeq (mSet 13 (mFrz (mF (c1 fTuple) (mCons (mLc (mItA (m2 fIx (mRd 10) (mC (.int 1)))) (mUn 3 (mGcons (mPut 2) (mGcons (mPut 3) (mGcons (mPut 4) mGnil)))) (ret true) (mFrz (mTup (mCons (mIm (mRd 2)) (mCons (mFrz (mF (c1 fTuple) (mCons (mRd 3) mNil))) (mCons (mFrz (mF (c1 fTuple) (mCons (mRd 4) mNil))) mNil))))) [2, 3, 4]) mNil)))) (mSeq (mIfS (mOr (asB (m2 fNe (mF (c1 fRepr) (mCons (mLst (mCons (mIm (m1 (fFld "Table" "kind") (mRd 11))) (mCons (mIm (m1 (fFld "Table" "columns") (mRd 11))) mNil))) mNil)) (mF (c1 fRepr) (mCons (mLst (mCons (mIm (m2 fIx (mRd 10) (mC (.int 0)))) (mCons (mIm (mRd 13)) mNil))) mNil)))) (mOr (asB (m2 fNe (mTx (mCall c_Table___str__ [none] (mCons (mIns "Table" Str.empty (mIm (mRd 11))) mNil))) (mRd 12))) (mNot (mOwnT "Table" (mIm (mRd 11)))))) (mRet (mC (.bl false))) (ret .nx)) (mSeq (mSet 14 (mFrz (mLst (mCons (mFrz (mCall c_Table_names [none] (mCons (mIns "Table" Str.empty (mIm (mRd 11))) mNil))) (mCons (mFrz (mCall c_Table_sums [none] (mCons (mIns "Table" Str.empty (mIm (mRd 11))) mNil))) (mCons (mFrz (mCall c_Table_data [none] (mCons (mIns "Table" Str.empty (mIm (mRd 11))) mNil))) (mCons (mFrz (mCall c_Table_cells [none] (mCons (mIns "Table" Str.empty (mIm (mRd 11))) mNil))) mNil))))))) (mSeq (mSet 15 (mFrz (mLst (mCons (mFrz (mF (c1 fTuple) (mCons (mLc (mItA (m2 fIx (mRd 10) (mC (.int 1)))) (mPut 6) (ret true) (mIm (m2 fIx (mRd 6) (mC (.int 0)))) [6]) mNil))) (mCons (mFrz (mF (c1 fTuple) (mCons (mCall c__law_tags [none] (mCons (mIm (mRd 10)) mNil)) mNil))) (mCons (mFrz (mF (c1 fTuple) (mCons (mCall c__law_pairs [none] (mCons (mIm (mRd 10)) mNil)) mNil))) mNil)))))) (mSeq (mIfS (asB (m2 fNe (mF (c1 fRepr) (mCons (mRd 14) mNil)) (mF (c1 fRepr) (mCons (m2 fAdd (mRd 15) (mLst (mCons (mFrz (mF (c1 fTuple) (mCons (mCall c__law_places [none] (mCons (mIm (mRd 10)) mNil)) mNil))) mNil))) mNil)))) (mRet (mC (.bl false))) (ret .nx)) (mSeq (mSet 16 (mLc (mItA (mRd 15)) (mPut 1) (ret true) (mF (c1 fLen) (mCons (mRd 1) mNil)) [1])) (mSeq (mSet 17 (mFrz (m2 fAdd (m2 fAdd (m2 fAdd (m2 fAdd (m2 fAdd (m2 fAdd (mC (.str "Table of ")) (mF (c1 fStr1) (mCons (m2 fIx (mRd 16) (mC (.int 0))) mNil))) (mC (.str " columns, "))) (mF (c1 fStr1) (mCons (m2 fIx (mRd 16) (mC (.int 1))) mNil))) (mC (.str " sums and "))) (mF (c1 fStr1) (mCons (m2 fIx (mRd 16) (mC (.int 2))) mNil))) (mC (.str " data"))))) (mSeq (mIfS (mOr (asB (m2 fNe (mTx (mCall c_Table___repr__ [none] (mCons (mIns "Table" Str.empty (mIm (mRd 11))) mNil))) (mRd 17))) (mOr (asB (m1 fNt (mBl (mCall c_Table___eq__ [none, none] (mChk (pEq "Table") (mCons (mFrz (mCall c_Table_read [none] (mCons (mIm (mRd 12)) mNil))) (mCons (mIm (mRd 11)) mNil))))))) (asB (mBl (mCall c_Table___eq__ [none, none] (mChk (pEq "Table") (mCons (mIm (mRd 11)) (mCons (mIm (mRd 12)) mNil)))))))) (mRet (mC (.bl false))) (ret .nx)) (mSeq (mIfS (mOr (asB (m1 fNt (mBl (mCall c_Table___eq__ [none, none] (mChk (pEq "Table") (mCons (mFrz (mMake c_Table___init__ "Table" [none, none] (mPick [1, 0] 2 (mCons (mIm (m1 (fFld "Table" "columns") (mRd 11))) (mCons (mIm (m1 (fFld "Table" "kind") (mRd 11))) mNil))))) (mCons (mIm (mRd 11)) mNil))))))) (asB (m1 fNt (mBl (mCall c_Table___eq__ [none, none] (mChk (pEq "Table") (mCons (mFrz (mCall c_Table_read [none] (mCons (mIm (mRd 12)) mNil))) (mCons (mIm (mRd 11)) mNil)))))))) (mRet (mC (.bl false))) (ret .nx)) (mDrop (mMut 7 (mHere 7) isLst (mCons (mIm (mRd 11)) mNil) fAppend)))))))))))))) (mSeq (mFor (mItA (mRd 7)) (mPut 9) (mIfS (asB (m2 fNe (mLc (mItA (mRd 7)) (mPut 5) (ret true) (m2 fEq (mBl (mCall c_Table___eq__ [none, none] (mChk (pEq "Table") (mCons (mIm (mRd 9)) (mCons (mIm (mRd 5)) mNil))))) (m2 fEq (mTx (mCall c_Table___str__ [none] (mCons (mIns "Table" Str.empty (mIm (mRd 9))) mNil))) (mTx (mCall c_Table___str__ [none] (mCons (mIns "Table" Str.empty (mIm (mRd 5))) mNil))))) [5]) (m2 fMul (mLst (mCons (mC (.bl true)) mNil)) (mC (.int 4))))) (mRet (mC (.bl false))) (ret .nx))) (mRet (mC (.bl true))))))
def c__law_right_k02 : Cal := runB 1 18 [0] m__law_right_k02
theorem f__law_right_k02 (c : SaysM fa fn K) (KX : K.In h) (Gm : h.Ns mainGlobals mg) : ∃ fd, (∀ base : Heap, FnG PG w K mg base CX0 18 (ga K "_law_right") fd ["_law_jar_here"] (spT (GG K) [0] c__law_right_k02)) ∧ Binds K fd ["_law_jar_here"] [] ∧ KwB K fd ["_law_jar_here"] 0 ∧ FunD K "_law_right" "_law_right" (defArgs (top 47)) (defBody (top 47)) (defScope (top 47)) [] [] (ga K "_law_right") fd := by
  obtain ⟨fd, FD⟩ := c.defs.def_ 35
  have h_free_range := free_ok KX Gm (c.fact 4)
  have h_free_tuple := free_ok KX Gm (c.fact 23)
  have h_cls_Table := cls_ok (c.fact 35)
  have h_noat_Table_columns := noat_ok (c.fact 37)
  have h_noat_Table_kind := noat_ok (c.fact 36)
  have h_free_repr := free_ok KX Gm (c.fact 53)
  have h_free_str := free_ok KX Gm (c.fact 10)
  have h_meth_Table___str__ := meth_ok (c.fact 48)
  have h_noat_Table___bool__ := noat_ok (c.fact 54)
  have h_noat_Table___len__ := noat_ok (c.fact 55)
  have h_prop_Table_cells := prB_ok (c.fact 56)
  have h_prop_Table_data := prB_ok (c.fact 45)
  have h_prop_Table_sums := prB_ok (c.fact 46)
  have h_prop_Table_names := prB_ok (c.fact 57)
  have h_free_len := free_ok KX Gm (c.fact 2)
  have h_meth_Table___repr__ := meth_ok (c.fact 58)
  have h_sta_Table_read := sta_ok (c.fact 59)
  have h_glo_Table := glo_ok KX Gm (c.fact 43)
  have h_owneq_Table := (c.fact 60)
  have h_meth_Table___eq__ := meth_ok (c.fact 61)
  have h_mkr_Table := mkr_ok (c.fact 44)
  obtain ⟨fd__law_dip, F__law_dip, b__law_dip, w__law_dip, d__law_dip⟩ := f__law_dip (w := w) c KX Gm
  have k__law_dip := d__law_dip.kp
  have g__law_dip := glo_ok KX Gm (c.fact 3)
  obtain ⟨fd__law_full, F__law_full, b__law_full, w__law_full, d__law_full⟩ := f__law_full (w := w) c KX Gm
  have k__law_full := d__law_full.kp
  have g__law_full := glo_ok KX Gm (c.fact 62)
  obtain ⟨fd__law_chart, F__law_chart, b__law_chart, w__law_chart, d__law_chart⟩ := f__law_chart (w := w) c KX Gm
  have k__law_chart := d__law_chart.kp
  have g__law_chart := glo_ok KX Gm (c.fact 63)
  obtain ⟨fd__law_page, F__law_page, b__law_page, w__law_page, d__law_page⟩ := f__law_page (w := w) c KX Gm
  have k__law_page := d__law_page.kp
  have g__law_page := glo_ok KX Gm (c.fact 64)
  obtain ⟨fd__law_made, F__law_made, b__law_made, w__law_made, d__law_made⟩ := f__law_made (w := w) c KX Gm
  have k__law_made := d__law_made.kp
  have g__law_made := glo_ok KX Gm (c.fact 65)
  obtain ⟨fd_Table___str__, F_Table___str__, b_Table___str__, w_Table___str__, d_Table___str__⟩ := f_Table___str__ (w := w) c KX Gm
  have k_Table___str__ := d_Table___str__.kp
  obtain ⟨fd_Table_cells, F_Table_cells, b_Table_cells, w_Table_cells, d_Table_cells⟩ := f_Table_cells (w := w) c KX Gm
  have k_Table_cells := d_Table_cells.kp
  obtain ⟨fd_Table_data, F_Table_data, b_Table_data, w_Table_data, d_Table_data⟩ := f_Table_data (w := w) c KX Gm
  have k_Table_data := d_Table_data.kp
  obtain ⟨fd_Table_sums, F_Table_sums, b_Table_sums, w_Table_sums, d_Table_sums⟩ := f_Table_sums (w := w) c KX Gm
  have k_Table_sums := d_Table_sums.kp
  obtain ⟨fd_Table_names, F_Table_names, b_Table_names, w_Table_names, d_Table_names⟩ := f_Table_names (w := w) c KX Gm
  have k_Table_names := d_Table_names.kp
  obtain ⟨fd__law_pairs, F__law_pairs, b__law_pairs, w__law_pairs, d__law_pairs⟩ := f__law_pairs (w := w) c KX Gm
  have k__law_pairs := d__law_pairs.kp
  have g__law_pairs := glo_ok KX Gm (c.fact 66)
  obtain ⟨fd__law_tags, F__law_tags, b__law_tags, w__law_tags, d__law_tags⟩ := f__law_tags (w := w) c KX Gm
  have k__law_tags := d__law_tags.kp
  have g__law_tags := glo_ok KX Gm (c.fact 67)
  obtain ⟨fd__law_places, F__law_places, b__law_places, w__law_places, d__law_places⟩ := f__law_places (w := w) c KX Gm
  have k__law_places := d__law_places.kp
  have g__law_places := glo_ok KX Gm (c.fact 68)
  obtain ⟨fd_Table___repr__, F_Table___repr__, b_Table___repr__, w_Table___repr__, d_Table___repr__⟩ := f_Table___repr__ (w := w) c KX Gm
  have k_Table___repr__ := d_Table___repr__.kp
  obtain ⟨fd_Table___eq__, F_Table___eq__, b_Table___eq__, w_Table___eq__, d_Table___eq__⟩ := f_Table___eq__ (w := w) c KX Gm
  have k_Table___eq__ := d_Table___eq__.kp
  obtain ⟨fd_Table_read, F_Table_read, b_Table_read, w_Table_read, d_Table_read⟩ := f_Table_read (w := w) c KX Gm
  have k_Table_read := d_Table_read.kp
  obtain ⟨fd_Table___init__, F_Table___init__, b_Table___init__, w_Table___init__, d_Table___init__⟩ := f_Table___init__ (w := w) c KX Gm
  have k_Table___init__ := d_Table___init__.kp
  refine ⟨fd, fun base => ?bd0, FunD.bindsN FD fun kV doc pm an cdv ct us hl => ?b1, FunD.kwb FD fun kV doc pm an cdv ct us ws hl hl2 => ?b2, FD⟩
  case bd0 =>
    have F__law_dip := F__law_dip base
    have F__law_full := F__law_full base
    have F__law_chart := F__law_chart base
    have F__law_page := F__law_page base
    have F__law_made := F__law_made base
    have F_Table___str__ := F_Table___str__ base
    have F_Table_cells := F_Table_cells base
    have F_Table_data := F_Table_data base
    have F_Table_sums := F_Table_sums base
    have F_Table_names := F_Table_names base
    have F__law_pairs := F__law_pairs base
    have F__law_tags := F__law_tags base
    have F__law_places := F__law_places base
    have F_Table___repr__ := F_Table___repr__ base
    have F_Table___eq__ := F_Table___eq__ base
    have F_Table_read := F_Table_read base
    have F_Table___init__ := F_Table___init__ base
    refine fn_g (N := N__law_right_k02) (m := m__law_right_k02) FD ⟨rfl, rfl, rfl, by decide +kernel, rfl, by decide +kernel, by decide +kernel⟩ (by decide) ?_
    intro cdv A outer s H E hG hr
    have hN : (cxOf CX0 PG w K mg base N__law_right_k02 "_law_right" (defScope (top 47)) (ga K "_law_right") cdv A outer s H E).nox.N.Nodup := (by decide : N__law_right_k02.Nodup)
    exact ⟨_, _, (tss_cons (s_set 7 (tm_lst tms_nil) hN) (tss_cons (ts_for passNox rfl (it_range1 (by rfl) h_free_range (tms_cons tm_int tms_nil)) (gN 8 hN) (tss_cons (s_set 10 (tm_if (t_cmp (cEq hr) (tm_call (F__law_dip.monoG (by decide)) hG hr (by rfl) g__law_dip k__law_dip b__law_dip (tmc_lend (nv 0) (tmc_arg tm_int tmc_nil))) tm_int) (tm_frz (tm_call (F__law_full.monoG (by decide)) hG hr (by rfl) g__law_full k__law_full b__law_full (tmc_lend (nv 0) tmc_nil))) (tm_frz (tm_call (F__law_chart.monoG (by decide)) hG hr (by rfl) g__law_chart k__law_chart b__law_chart (tmc_lend (nv 0) (tmc_arg tm_int (tmc_arg tm_int (tmc_arg tm_int tmc_nil))))))) hN) (tss_cons (s_par 11 12 rfl (tms_cons (tm_frz (tm_call (F__law_made.monoG (by decide)) hG hr (by rfl) g__law_made k__law_made b__law_made (tmc_arg (vi 10) tmc_nil))) (tms_cons (tm_frz (tm_call (F__law_page.monoG (by decide)) hG hr (by rfl) g__law_page k__law_page b__law_page (tmc_arg (vi 10) tmc_nil))) tms_nil)) hN) (tss_cons (s_set 13 (tm_frz (b_tuple h_free_tuple (tms_cons (x_lc [("_law_label", 2), ("_law_tags_here", 3), ("_law_pairs_here", 4)] rfl hN (blk_of (by kernel_rfl)) (it_any rfl (x_ix hr (v 10) tm_int)) (fun _ _ _ _ _ => (tg_un rfl rfl (tgs_cons (gN 2 hN) (tgs_cons (gN 3 hN) (tgs_cons (gN 4 hN) tgs_nil))))) (fun _ _ _ _ _ => tmts_nil) (fun _ _ _ _ _ => (tm_frz (tm_tup (tms_cons (vi 2) (tms_cons (tm_frz (b_tuple h_free_tuple (tms_cons (v 3) tms_nil))) (tms_cons (tm_frz (b_tuple h_free_tuple (tms_cons (v 4) tms_nil))) tms_nil))))))) tms_nil))) hN) (tss_cons (ts_if (tmt_w (tmt_or (t_cmp (cNe hr) (b_repr hG hr h_free_repr (tms_cons (tm_lst (tms_cons (tm_im (tm_fld (g := (GG K)) rfl h_cls_Table h_noat_Table_kind (v 11))) (tms_cons (tm_im (tm_fld (g := (GG K)) rfl h_cls_Table h_noat_Table_columns (v 11))) tms_nil))) tms_nil)) (b_repr hG hr h_free_repr (tms_cons (tm_lst (tms_cons (tm_im (x_ix hr (v 10) tm_int)) (tms_cons (vi 13) tms_nil))) tms_nil))) (tmt_or (t_cmp (cNe hr) (b_strO h_free_str h_meth_Table___str__ (F_Table___str__.monoG (by decide)) hG hr b_Table___str__ (vi 11)) (v 12)) (tmt_or1 (tmt_not (tmt_own rfl h_noat_Table___bool__ h_noat_Table___len__ (vi 11))))))) (tss_one (ts_ret tm_bl)) tss_nil) (tss_cons (s_set 14 (tm_frz (tm_lst (tms_cons (tm_frz (tm_prop (g := (GG K)) h_cls_Table h_prop_Table_names (F_Table_names.monoG (by decide)) hG hr b_Table_names (vi 11))) (tms_cons (tm_frz (tm_prop (g := (GG K)) h_cls_Table h_prop_Table_sums (F_Table_sums.monoG (by decide)) hG hr b_Table_sums (vi 11))) (tms_cons (tm_frz (tm_prop (g := (GG K)) h_cls_Table h_prop_Table_data (F_Table_data.monoG (by decide)) hG hr b_Table_data (vi 11))) (tms_cons (tm_frz (tm_prop (g := (GG K)) h_cls_Table h_prop_Table_cells (F_Table_cells.monoG (by decide)) hG hr b_Table_cells (vi 11))) tms_nil)))))) hN) (tss_cons (s_set 15 (tm_frz (tm_lst (tms_cons (tm_frz (b_tuple h_free_tuple (tms_cons (x_lc [("_law_each", 6)] rfl hN (blk_of (by kernel_rfl)) (it_any rfl (x_ix hr (v 10) tm_int)) (fun _ _ _ _ _ => (gN 6 hN)) (fun _ _ _ _ _ => tmts_nil) (fun _ _ _ _ _ => (tm_im (x_ix hr (v 6) tm_int)))) tms_nil))) (tms_cons (tm_frz (b_tuple h_free_tuple (tms_cons (tm_call (F__law_tags.monoG (by decide)) hG hr (by rfl) g__law_tags k__law_tags b__law_tags (tmc_arg (vi 10) tmc_nil)) tms_nil))) (tms_cons (tm_frz (b_tuple h_free_tuple (tms_cons (tm_call (F__law_pairs.monoG (by decide)) hG hr (by rfl) g__law_pairs k__law_pairs b__law_pairs (tmc_arg (vi 10) tmc_nil)) tms_nil))) tms_nil))))) hN) (tss_cons (ts_if (t_cmp (cNe hr) (b_repr hG hr h_free_repr (tms_cons (v 14) tms_nil)) (b_repr hG hr h_free_repr (tms_cons (x_add (v 15) (tm_lst (tms_cons (tm_frz (b_tuple h_free_tuple (tms_cons (tm_call (F__law_places.monoG (by decide)) hG hr (by rfl) g__law_places k__law_places b__law_places (tmc_arg (vi 10) tmc_nil)) tms_nil))) tms_nil))) tms_nil))) (tss_one (ts_ret tm_bl)) tss_nil) (tss_cons (s_setLc 16 [("_law_part", 1)] rfl hN (blk_of (by kernel_rfl)) (it_any rfl (v 15)) (fun _ _ _ _ _ => (gN 1 hN)) (fun _ _ _ _ _ => tmts_nil) (fun _ _ _ _ _ => (b_len h_free_len (tms_cons (v 1) tms_nil)))) (tss_cons (s_set 17 (tm_frz (x_add (x_add (x_add (x_add (x_add (x_add tm_str (b_str h_free_str (tms_cons (x_ix hr (v 16) tm_int) tms_nil))) tm_str) (b_str h_free_str (tms_cons (x_ix hr (v 16) tm_int) tms_nil))) tm_str) (b_str h_free_str (tms_cons (x_ix hr (v 16) tm_int) tms_nil))) tm_str)) hN) (tss_cons (ts_if (tmt_w (tmt_or (t_cmp (cNe hr) (b_reprO h_free_repr h_meth_Table___repr__ (F_Table___repr__.monoG (by decide)) hG hr b_Table___repr__ (vi 11)) (v 17)) (tmt_or (t_neO (ownEq_ok h_owneq_Table h_meth_Table___eq__) (F_Table___eq__.monoG (by decide)) hG hr b_Table___eq__ (tm_frz (tm_static h_sta_Table_read (F_Table_read.monoG (by decide)) hG hr k_Table_read b_Table_read h_glo_Table (tmc_arg (vi 12) tmc_nil))) (vi 11)) (tmt_or1 (t_eqO (ownEq_ok h_owneq_Table h_meth_Table___eq__) (F_Table___eq__.monoG (by decide)) hG hr b_Table___eq__ (vi 11) (vi 12)))))) (tss_one (ts_ret tm_bl)) tss_nil) (tss_cons (ts_if (tmt_w (tmt_or (t_neO (ownEq_ok h_owneq_Table h_meth_Table___eq__) (F_Table___eq__.monoG (by decide)) hG hr b_Table___eq__ (tm_frz (tm_makeQ h_glo_Table h_mkr_Table (F_Table___init__.monoG (by decide)) hG hr (by rfl) (FunD.kwq (π := [1, 0]) (ks := ["columns", "kind"]) d_Table___init__ fun kV doc pm an cdv ct us ws hl hl2 => match us, ws, hl, hl2 with | [_], [_, _], _, _ => rfl) (tkc_arg (tm_im (tm_fld (g := (GG K)) rfl h_cls_Table h_noat_Table_columns (v 11))) (tkc_arg (tm_im (tm_fld (g := (GG K)) rfl h_cls_Table h_noat_Table_kind (v 11))) tkc_nil)))) (vi 11)) (tmt_or1 (t_neO (ownEq_ok h_owneq_Table h_meth_Table___eq__) (F_Table___eq__.monoG (by decide)) hG hr b_Table___eq__ (tm_frz (tm_staticK h_sta_Table_read (F_Table_read.monoG (by decide)) hG hr k_Table_read w_Table_read h_glo_Table (tkc_arg (vi 12) tkc_nil))) (vi 11))))) (tss_one (ts_ret tm_bl)) tss_nil) (tss_one (ts_expr (l_append (hv 7) (vi 11)))))))))))))))) (tss_cons (ts_for passNox rfl (it_any rfl (v 7)) (gN 9 hN) (tss_one (ts_if (t_cmp (cNe hr) (x_lc [("_law_two", 5)] rfl hN (blk_of (by kernel_rfl)) (it_any rfl (v 7)) (fun _ _ _ _ _ => (gN 5 hN)) (fun _ _ _ _ _ => tmts_nil) (fun _ _ _ _ _ => (x_cmp (cEq hr) (tm_eqO (ownEq_ok h_owneq_Table h_meth_Table___eq__) (F_Table___eq__.monoG (by decide)) hG hr b_Table___eq__ (vi 9) (vi 5)) (x_cmp (cEq hr) (b_strO h_free_str h_meth_Table___str__ (F_Table___str__.monoG (by decide)) hG hr b_Table___str__ (vi 9)) (b_strO h_free_str h_meth_Table___str__ (F_Table___str__.monoG (by decide)) hG hr b_Table___str__ (vi 5)))))) (x_mul (tm_lst (tms_cons tm_bl tms_nil)) tm_int)) (tss_one (ts_ret tm_bl)) tss_nil))) (tss_one (ts_ret tm_bl))))), by decide⟩
  case b1 => exact match us, hl with | [_], _ => rfl
  case b2 => exact match us, ws, hl, hl2 with | [], [_], _, _ => rfl
def N__law_jar : List Str := ["_law_cells", "_law_turn", "_law_cell", "_law_mixed", "_law_each"]
def m__law_jar : M Fl := (mSeq (mSet 2 (mIf (asB (m2 fLt (mRd 1) (mF (c1 fLen) (mCons (mRd 0) mNil)))) (mIm (m2 fIx (mRd 0) (mRd 1))) (mFrz (m2 fAdd (m2 fMul (mC (.int 11)) (mRd 1)) (mC (.int 4)))))) (mSeq (mSet 3 (mFrz (m2 fAdd (mC (.int 60013)) (m2 fMul (mC (.int 8009)) (mRd 1))))) (mSeq (mFor (mItA (m2 fAdd (mSl fCut (mRd 0) mNoP (mPt (mC (.int 5)))) (mLst (mCons (mIm (mRd 2)) mNil)))) (mPut 4) (mSet 3 (m2 (fII iMod) (mF (c1 fInt) (mCons (m2 fAdd (m2 fMul (mRd 3) (mC (.int 28411))) (mRd 4)) mNil)) (mC (.int 2147483087))))) (mRet (mLst (mCons (mIf (mOr (asB (m2 fLt (mRd 2) (mC (.int 0)))) (asB (m2 fGe (mRd 2) (m2 (fII iPow) (mC (.int 10)) (mC (.int 18)))))) (mF (c1 fAbs) (mCons (mRd 2) mNil)) (mC (.int 0))) (mCons (mIm (mRd 3)) (mCons (mC (.int 0)) mNil))))))))
def c__law_jar : Cal := runB 2 5 [] m__law_jar
theorem f__law_jar (c : SaysM fa fn K) (KX : K.In h) (Gm : h.Ns mainGlobals mg) : ∃ fd, (∀ base : Heap, FnG PG w K mg base CX0 2 (ga K "_law_jar") fd ["_law_cells", "_law_turn"] (spT (GG K) [] c__law_jar)) ∧ Binds K fd ["_law_cells", "_law_turn"] [] ∧ KwB K fd ["_law_cells", "_law_turn"] 0 ∧ FunD K "_law_jar" "_law_jar" (defArgs (top 45)) (defBody (top 45)) (defScope (top 45)) [] [] (ga K "_law_jar") fd := by
  obtain ⟨fd, FD⟩ := c.defs.def_ 36
  have h_free_len := free_ok KX Gm (c.fact 2)
  have h_free_int := free_ok KX Gm (c.fact 1)
  have h_free_abs := free_ok KX Gm (c.fact 69)
  refine ⟨fd, fun base => ?bd0, FunD.bindsN FD fun kV doc pm an cdv ct us hl => ?b1, FunD.kwb FD fun kV doc pm an cdv ct us ws hl hl2 => ?b2, FD⟩
  case bd0 =>
    refine fn_g (N := N__law_jar) (m := m__law_jar) FD ⟨rfl, rfl, rfl, by decide +kernel, rfl, by decide +kernel, by decide +kernel⟩ (by decide) ?_
    intro cdv A outer s H E hG hr
    have hN : (cxOf CX0 PG w K mg base N__law_jar "_law_jar" (defScope (top 45)) (ga K "_law_jar") cdv A outer s H E).nox.N.Nodup := (by decide : N__law_jar.Nodup)
    exact ⟨_, _, (tss_cons (s_set 2 (tm_if (t_cmp cLt (v 1) (b_len h_free_len (tms_cons (v 0) tms_nil))) (tm_im (x_ix hr (v 0) (v 1))) (tm_frz (x_add (x_mul tm_int (v 1)) tm_int))) hN) (tss_cons (s_set 3 (tm_frz (x_add tm_int (x_mul tm_int (v 1)))) hN) (tss_cons (ts_for passNox rfl (it_any rfl (x_add (x_cut (v 0) tmo_none (tmo_some tm_int)) (tm_lst (tms_cons (vi 2) tms_nil)))) (gN 4 hN) (tss_one (s_set 3 (x_mod (b_int h_free_int (tms_cons (x_add (x_mul (v 3) tm_int) (v 4)) tms_nil)) tm_int) hN))) (tss_one (ts_ret (tm_lst (tms_cons (tm_if (tmt_w (tmt_or (t_cmp cLt (v 2) tm_int) (tmt_or1 (t_cmp cGe (v 2) (x_pow tm_int tm_int))))) (b_abs h_free_abs (tms_cons (v 2) tms_nil)) tm_int) (tms_cons (vi 3) (tms_cons tm_int tms_nil))))))))), by decide⟩
  case b1 => exact match us, hl with | [_, _], _ => rfl
  case b2 => exact match us, ws, hl, hl2 with | [], [_, _], _, _ => rfl
def N_law_k02 : List Str := ["_law_cells", "_law_turn"]
def m_law_k02 : M Fl := (mRet (mF (c1 (fBools fun bs => bs.all id)) (mCons (mLc (mRng rng1 (mCons (mF (c2 fMax) (mCons (mC (.int 2)) (mCons (mF (c2 fMin) (mCons (mF (c1 fLen) (mCons (mRd 0) mNil)) (mCons (mC (.int 6)) mNil))) mNil))) mNil)) (mPut 1) (ret true) (mFrz (mGive c__law_right_k02 (mCall c__law_jar [none, none] (mCons (mIm (mRd 0)) (mCons (mIm (mRd 1)) mNil))))) [1]) mNil)))
def c_law_k02 : Cal := runB 1 2 [] m_law_k02
theorem f_law_k02 (c : SaysM fa fn K) (KX : K.In h) (Gm : h.Ns mainGlobals mg) : ∃ fd, (∀ base : Heap, FnG PG w K mg base CX0 20 (ga K "law") fd ["_law_cells"] (spT (GG K) [] c_law_k02)) ∧ Binds K fd ["_law_cells"] [] ∧ KwB K fd ["_law_cells"] 0 ∧ FunD K "law" "law" (defArgs (top 48)) (defBody (top 48)) (defScope (top 48)) [] [] (ga K "law") fd := by
  obtain ⟨fd, FD⟩ := c.defs.def_ 37
  have h_free_len := free_ok KX Gm (c.fact 2)
  have h_free_min := free_ok KX Gm (c.fact 7)
  have h_free_max := free_ok KX Gm (c.fact 6)
  have h_free_range := free_ok KX Gm (c.fact 4)
  have h_free_all := free_ok KX Gm (c.fact 22)
  obtain ⟨fd__law_right_k02, F__law_right_k02, b__law_right_k02, w__law_right_k02, d__law_right_k02⟩ := f__law_right_k02 (w := w) c KX Gm
  have k__law_right_k02 := d__law_right_k02.kp
  have g__law_right_k02 := glo_ok KX Gm (c.fact 70)
  obtain ⟨fd__law_jar, F__law_jar, b__law_jar, w__law_jar, d__law_jar⟩ := f__law_jar (w := w) c KX Gm
  have k__law_jar := d__law_jar.kp
  have g__law_jar := glo_ok KX Gm (c.fact 71)
  refine ⟨fd, fun base => ?bd0, FunD.bindsN FD fun kV doc pm an cdv ct us hl => ?b1, FunD.kwb FD fun kV doc pm an cdv ct us ws hl hl2 => ?b2, FD⟩
  case bd0 =>
    have F__law_right_k02 := F__law_right_k02 base
    have F__law_jar := F__law_jar base
    refine fn_g (N := N_law_k02) (m := m_law_k02) FD ⟨rfl, rfl, rfl, by decide +kernel, rfl, by decide +kernel, by decide +kernel⟩ (by decide) ?_
    intro cdv A outer s H E hG hr
    have hN : (cxOf CX0 PG w K mg base N_law_k02 "law" (defScope (top 48)) (ga K "law") cdv A outer s H E).nox.N.Nodup := (by decide : N_law_k02.Nodup)
    exact ⟨_, _, (tss_one (ts_ret (b_all rfl h_free_all (tms_cons (x_lc [("_law_turn", 1)] rfl hN (blk_of (by kernel_rfl)) (it_range1 (by rfl) h_free_range (tms_cons (b_max rfl h_free_max (tms_cons tm_int (tms_cons (b_min rfl h_free_min (tms_cons (b_len h_free_len (tms_cons (v 0) tms_nil)) (tms_cons tm_int tms_nil))) tms_nil))) tms_nil)) (fun _ _ _ _ _ => (gN 1 hN)) (fun _ _ _ _ _ => tmts_nil) (fun _ _ _ _ _ => (tm_frz (tm_give (F__law_right_k02.monoG (by decide)) hG hr (by rfl) g__law_right_k02 k__law_right_k02 b__law_right_k02 (tm_call (F__law_jar.monoG (by decide)) hG hr (by rfl) g__law_jar k__law_jar b__law_jar (tmc_arg (vi 0) (tmc_arg (vi 1) tmc_nil))))))) tms_nil)))), by decide⟩
  case b1 => exact match us, hl with | [_], _ => rfl
  case b2 => exact match us, ws, hl, hl2 with | [], [_], _, _ => rfl
end
end MI
namespace MI
open PySem L2
section
variable {α β : Type}
@[simp] theorem ex_pair {x : α} {y : β} {Q : α → β → Prop} : (∃ a b, (x = a ∧ y = b) ∧ Q a b) ↔ Q x y := ⟨fun ⟨_, _, ⟨rfl, rfl⟩, q⟩ => q, fun q => ⟨_, _, ⟨rfl, rfl⟩, q⟩⟩
@[simp] theorem ex_pair_u {x : β} {Q : Unit → β → Prop} : (∃ (a : Unit) (b : β), x = b ∧ Q a b) ↔ Q () x := ⟨fun ⟨_, _, rfl, q⟩ => q, fun q => ⟨_, _, rfl, q⟩⟩
def Ev0 (m : M α) (Ts : List T) (Q : α → List T → Prop) : Prop := ∃ a Ts', m Ts = some (a, Ts') ∧ Q a Ts'
def EvO0 (o : Option α) (Q : α → Prop) : Prop := ∃ a, o = some a ∧ Q a
@[simp] theorem EvO0_some {a : α} {Q : α → Prop} : EvO0 (some a) Q ↔ Q a := by simp [EvO0]
@[simp] theorem EvO0_none {Q : α → Prop} : EvO0 none Q ↔ False := by simp [EvO0]
theorem EvO0.eq {o : Option α} {a : α} (h : EvO0 o (· = a)) : o = some a := by
  obtain ⟨b, e, rfl⟩ := h; exact e
theorem EvO0.mono {o : Option α} {P Q : α → Prop} (h : EvO0 o P) (i : ∀ a, P a → Q a) : EvO0 o Q := let ⟨a, e, p⟩ := h; ⟨a, e, i a p⟩
theorem Ev0.mono {m : M α} {Ts : List T} {P Q : α → List T → Prop} (h : Ev0 m Ts P) (i : ∀ a Ts', P a Ts' → Q a Ts') : Ev0 m Ts Q := let ⟨a, s, e, p⟩ := h; ⟨a, s, e, i a s p⟩
@[simp] theorem EvO0_ite {c : Prop} [Decidable c] {o o' : Option α} {Q : α → Prop} : EvO0 (if c then o else o') Q ↔ if c then EvO0 o Q else EvO0 o' Q := by split <;> rfl
@[simp] theorem EvO0_bind {o : Option α} {f : α → Option β} {Q : β → Prop} : EvO0 (o.bind f) Q ↔ EvO0 o fun a => EvO0 (f a) Q := by cases o <;> simp [EvO0]
@[simp] theorem EvO0_map {o : Option α} {f : α → β} {Q : β → Prop} : EvO0 (o.map f) Q ↔ EvO0 o fun a => Q (f a) := by cases o <;> simp [EvO0]
theorem Ev0_is {m : M α} {Ts s : List T} {a : α} {Q : α → List T → Prop} (h : m Ts = some (a, s)) : Ev0 m Ts Q ↔ Q a s := ⟨fun ⟨b, s', e, q⟩ => by rw [h] at e; injection e with e; injection e with e1 e2; subst e1; subst e2; exact q, fun q => ⟨a, s, h, q⟩⟩
theorem Ev0_no {m : M α} {Ts : List T} {Q : α → List T → Prop} (h : m Ts = none) : Ev0 m Ts Q ↔ False := ⟨fun ⟨b, s', e, q⟩ => (by rw [h] at e; cases e), fun q => q.elim⟩
@[simp] theorem Ev0_bnd {x : M α} {f : α → M β} {Ts : List T} {Q : β → List T → Prop} : Ev0 (bnd x f) Ts Q ↔ Ev0 x Ts fun a Ts' => Ev0 (f a) Ts' Q := by
  constructor
  · rintro ⟨b, s2, e, q⟩
    obtain ⟨a, s1, e1, e2⟩ := bnd_some e
    exact ⟨a, s1, e1, b, s2, e2, q⟩
  · rintro ⟨a, s1, e1, b, s2, e2, q⟩
    refine ⟨b, s2, ?_, q⟩
    unfold bnd; rw [e1]; exact e2
@[simp] theorem Ev0_ret {a : α} {Ts : List T} {Q : α → List T → Prop} : Ev0 (ret a) Ts Q ↔ Q a Ts := by simp [Ev0, ret]
@[simp] theorem Ev0_lft {o : Option α} {Ts : List T} {Q : α → List T → Prop} : Ev0 (lft o) Ts Q ↔ EvO0 o fun a => Q a Ts := by
  cases o with
  | none => simp [Ev0, EvO0, lft]
  | some a => simp [Ev0, EvO0, lft]
@[simp] theorem Ev0_fail {Ts : List T} {Q : α → List T → Prop} : Ev0 (fun _ => none) Ts Q ↔ False := by simp [Ev0]
@[simp] theorem Ev0_ite {c : Prop} [Decidable c] {f g : M α} {Ts : List T} {Q : α → List T → Prop} : Ev0 (if c then f else g) Ts Q ↔ if c then Ev0 f Ts Q else Ev0 g Ts Q := by split <;> rfl
theorem Ev0.run {m : M α} {Ts Ts' : List T} {a : α} (h : Ev0 m Ts fun x s => x = a ∧ s = Ts') : m Ts = some (a, Ts') := by
  obtain ⟨b, s, e, rfl, rfl⟩ := h; exact e
end
def T.live : T → Bool
  | .dead => false
  | _ => true
@[simp] theorem live_dead : T.live .dead = false := rfl
@[simp] theorem live_non : T.live .non = true := rfl
@[simp] theorem live_bl (b : Bool) : T.live (.bl b) = true := rfl
@[simp] theorem live_int (b : Int) : T.live (.int b) = true := rfl
@[simp] theorem live_str (b : Str) : T.live (.str b) = true := rfl
@[simp] theorem live_nd (k : Kd) (ts : List T) : T.live (.nd k ts) = true := rfl
theorem live_ne {t : T} : t.live = true ↔ t ≠ .dead := by cases t <;> simp [T.live]
@[simp] theorem own_tup : Kd.own .tup = false := rfl
@[simp] theorem own_scr : Kd.own .scr = false := rfl
@[simp] theorem own_lst' (o : Bool) : Kd.own (.lst o) = o := rfl
@[simp] theorem own_dK (o : Bool) (ks : List Key) : Kd.own (.dK o ks) = o := rfl
@[simp] theorem own_dT (o : Bool) (ks : List (List Key)) : Kd.own (.dT o ks) = o := rfl
@[simp] theorem own_ins (o : Bool) (c : Str) (fs : List Str) : Kd.own (.ins o c fs) = o := rfl
@[simp] theorem kfz_tup : Kd.fz .tup = .tup := rfl
@[simp] theorem kfz_scr : Kd.fz .scr = .scr := rfl
@[simp] theorem kfz_lst (o : Bool) : Kd.fz (.lst o) = .lst false := rfl
@[simp] theorem kfz_dK (o : Bool) (ks : List Key) : Kd.fz (.dK o ks) = .dK false ks := rfl
@[simp] theorem kfz_ins (o : Bool) (c : Str) (fs : List Str) : Kd.fz (.ins o c fs) = .ins false c fs := rfl
@[simp] theorem ownNd_nd (k : Kd) (ts : List T) : T.ownNd (.nd k ts) = k.own := rfl
@[simp] theorem imm_dead : T.imm .dead = false := by rw [T.imm]
@[simp] theorem imm_non : T.imm .non = true := by rw [T.imm]
@[simp] theorem imm_bl (b : Bool) : T.imm (.bl b) = true := by rw [T.imm]
@[simp] theorem imm_int (b : Int) : T.imm (.int b) = true := by rw [T.imm]
@[simp] theorem imm_str (b : Str) : T.imm (.str b) = true := by rw [T.imm]
@[simp] theorem imm_nd (k : Kd) (ts : List T) : T.imm (.nd k ts) = (!k.own && immL ts) := by rw [T.imm]
@[simp] theorem immL_nil : immL [] = true := by rw [immL]
@[simp] theorem immL_cons (t : T) (ts : List T) : immL (t :: ts) = (t.imm && immL ts) := by rw [immL]
@[simp] theorem immL_append (ts us : List T) : immL (ts ++ us) = (immL ts && immL us) := by simp [immL_eq]
theorem immL_map {α : Type} {f : α → T} (h : ∀ a, (f a).imm = true) (xs : List α) : immL (xs.map f) = true := by
  rw [immL_eq]; simp [h]
theorem immL_all {ts : List T} : immL ts = true ↔ ∀ t ∈ ts, t.imm = true := by rw [immL_eq]; simp
@[simp] theorem immL_map_int {xs : List Int} : immL (xs.map T.int) = true := immL_map (fun _ => by simp) xs
@[simp] theorem immL_map_str {xs : List Str} : immL (xs.map T.str) = true := immL_map (fun _ => by simp) xs
@[simp] theorem immL_map_bl {xs : List Bool} : immL (xs.map T.bl) = true := immL_map (fun _ => by simp) xs
@[simp] theorem fz_dead : T.fz .dead = .dead := by rw [T.fz]
@[simp] theorem fz_non : T.fz .non = .non := by rw [T.fz]
@[simp] theorem fz_bl (b : Bool) : T.fz (.bl b) = .bl b := by rw [T.fz]
@[simp] theorem fz_int (b : Int) : T.fz (.int b) = .int b := by rw [T.fz]
@[simp] theorem fz_str (b : Str) : T.fz (.str b) = .str b := by rw [T.fz]
@[simp] theorem fz_nd (k : Kd) (ts : List T) : T.fz (.nd k ts) = .nd k.fz (fzL ts) := by rw [T.fz]
@[simp] theorem fzL_nil : fzL [] = [] := by rw [fzL]
@[simp] theorem fzL_cons (t : T) (ts : List T) : fzL (t :: ts) = t.fz :: fzL ts := by rw [fzL]
@[simp] theorem fzL_append (ts us : List T) : fzL (ts ++ us) = fzL ts ++ fzL us := by simp [fzL_eq]
theorem fzL_map {α : Type} {f : α → T} (h : ∀ a, (f a).imm = true) (xs : List α) : fzL (xs.map f) = xs.map f := fzL_imm _ (immL_map h xs)
@[simp] theorem fzL_map_int {xs : List Int} : fzL (xs.map T.int) = xs.map T.int := fzL_imm _ immL_map_int
@[simp] theorem fzL_map_str {xs : List Str} : fzL (xs.map T.str) = xs.map T.str := fzL_imm _ immL_map_str
@[simp] theorem fzL_map_bl {xs : List Bool} : fzL (xs.map T.bl) = xs.map T.bl := fzL_imm _ immL_map_bl
@[simp] theorem live_fz {t : T} : t.fz.live = t.live := by cases t <;> simp
@[simp] theorem sizeLine_val : sizeLine = 16777216 := by decide +kernel
@[simp] theorem slot_zero {t : T} {ts : List T} : slot (t :: ts) 0 = t := rfl
@[simp] theorem slot_succ {t : T} {ts : List T} {n : Nat} : slot (t :: ts) (n + 1) = slot ts n := by simp [slot]
@[simp] theorem slot_nil {n : Nat} : slot [] n = .dead := by simp [slot]
theorem slot_lt {Ts : List T} {i : Nat} (h : (slot Ts i).live = true) : i < Ts.length := by
  by_cases q : i < Ts.length
  · exact q
  · rw [slot, List.getD_eq_getElem?_getD, List.getElem?_eq_none (by omega)] at h; cases h
theorem slot_set_self {Ts : List T} {i : Nat} (h : i < Ts.length) : Ts.set i (slot Ts i) = Ts := by
  apply List.ext_getElem?
  intro j
  by_cases hj : i = j
  · subst hj
    rw [List.getElem?_set_self h, slot, List.getD_eq_getElem?_getD, List.getElem?_eq_getElem h]; rfl
  · rw [List.getElem?_set_ne hj]
section
variable {Ts : List T} {Q : T → List T → Prop} {QB : Bool → List T → Prop} {QL : List T → List T → Prop} {QF : Fl → List T → Prop} {QU : Unit → List T → Prop} {QN : List Nat → List T → Prop}
@[simp] theorem Ev0_mC {t : T} : Ev0 (mC t) Ts Q ↔ Q t Ts := by simp [mC]
@[simp] theorem Ev0_mRd {i : Nat} : Ev0 (mRd i) Ts Q ↔ (slot Ts i).live = true ∧ Q (slot Ts i) Ts := by
  unfold Ev0 mRd
  cases h : slot Ts i <;> simp
@[simp] theorem Ev0_mIm {fa : M T} : Ev0 (mIm fa) Ts Q ↔ Ev0 fa Ts fun t Ts => t.imm = true ∧ Q t Ts := by
  unfold mIm
  rw [Ev0_bnd]
  refine iff_of_eq (congrArg (Ev0 fa Ts) (funext fun t => funext fun s => propext ?_))
  rw [Ev0_lft]
  by_cases h : t.imm = true <;> simp [h, EvO0]
theorem mFz_eq {i : Nat} (h : (slot Ts i).live = true) : mFz i Ts = some ((slot Ts i).fz, Ts.set i (slot Ts i).fz) := by
  have hl := slot_lt h
  have hs := slot_set_self hl
  unfold mFz
  cases e : slot Ts i with
  | dead => rw [e] at h; cases h
  | nd k ts =>
    by_cases hi : (T.nd k ts).imm = true
    · show (if _ then _ else _) = _
      rw [if_pos hi, T.fz_imm _ hi, ← e, hs]
    · show (if _ then _ else _) = _
      rw [if_neg hi]
  | _ => rw [e] at hs; simp [hs]
@[simp] theorem Ev0_mFz {i : Nat} : Ev0 (mFz i) Ts Q ↔ (slot Ts i).live = true ∧ Q (slot Ts i).fz (Ts.set i (slot Ts i).fz) := by
  constructor
  · rintro ⟨a, s, e, q⟩
    have h : (slot Ts i).live = true := by
      cases h : slot Ts i <;> first | rfl | (unfold mFz at e; rw [h] at e; cases e)
    rw [mFz_eq h] at e
    injection e with e; injection e with e1 e2
    subst e1; subst e2
    exact ⟨h, q⟩
  · rintro ⟨h, q⟩; exact ⟨_, _, mFz_eq h, q⟩
@[simp] theorem Ev0_mMv {i : Nat} : Ev0 (mMv i) Ts Q ↔ (slot Ts i).live = true ∧ (if (slot Ts i).imm = true then Q (slot Ts i) Ts else Q (slot Ts i) (Ts.set i .dead)) := by
  unfold Ev0 mMv
  cases h : slot Ts i with
  | nd k ts => by_cases hi : (T.nd k ts).imm = true <;> simp [hi] <;> simp at hi <;> simp [hi]
  | _ => simp
@[simp] theorem Ev0_mLn {i : Nat} : Ev0 (mLn i) Ts Q ↔ (slot Ts i).live = true ∧ Q (slot Ts i) (Ts.set i .dead) := by
  unfold Ev0 mLn
  cases h : slot Ts i <;> simp
@[simp] theorem Ev0_mNil : Ev0 mNil Ts QL ↔ QL [] Ts := by simp [mNil]
@[simp] theorem Ev0_mCons {fa : M T} {fs : M (List T)} : Ev0 (mCons fa fs) Ts QL ↔ Ev0 fa Ts fun a Ts => Ev0 fs Ts fun as Ts => QL (a :: as) Ts := by simp [mCons]
@[simp] theorem Ev0_mStar {fa : M T} {fs : M (List T)} : Ev0 (mStar fa fs) Ts QL ↔ Ev0 fa Ts fun a Ts => EvO0 (kidsI a) fun ks => Ev0 fs Ts fun as Ts => QL (ks ++ as) Ts := by simp [mStar]
@[simp] theorem Ev0_mTup {fs : M (List T)} : Ev0 (mTup fs) Ts Q ↔ Ev0 fs Ts fun ts Ts => ts.length ≤ sizeLine ∧ Q (.nd .tup ts) Ts := by
  unfold mTup
  rw [Ev0_bnd]
  refine iff_of_eq (congrArg (Ev0 fs Ts) (funext fun t => funext fun s => propext ?_))
  rw [Ev0_lft]
  by_cases h : t.length ≤ sizeLine
  · simp only [h, if_true, EvO0_some, true_and]
  · simp only [h, if_false, EvO0_none, false_and]
@[simp] theorem Ev0_mLst {fs : M (List T)} : Ev0 (mLst fs) Ts Q ↔ Ev0 fs Ts fun ts Ts => ts.length ≤ sizeLine ∧ Q (.nd (.lst true) ts) Ts := by
  unfold mLst
  rw [Ev0_bnd]
  refine iff_of_eq (congrArg (Ev0 fs Ts) (funext fun t => funext fun s => propext ?_))
  rw [Ev0_lft]
  by_cases h : t.length ≤ sizeLine
  · simp only [h, if_true, EvO0_some, true_and]
  · simp only [h, if_false, EvO0_none, false_and]
@[simp] theorem Ev0_mF {f : List T → Option T} {fs : M (List T)} : Ev0 (mF f fs) Ts Q ↔ Ev0 fs Ts fun ts Ts => EvO0 (f ts) fun t => Q t Ts := by simp [mF]
@[simp] theorem Ev0_m1 {f : T → Option T} {fa : M T} : Ev0 (m1 f fa) Ts Q ↔ Ev0 fa Ts fun a Ts => EvO0 (f a) fun t => Q t Ts := by simp [m1]
@[simp] theorem Ev0_m2 {f : T → T → Option T} {fa fb : M T} : Ev0 (m2 f fa fb) Ts Q ↔ Ev0 fa Ts fun a Ts => Ev0 fb Ts fun b Ts => EvO0 (f a b) fun t => Q t Ts := by simp [m2]
@[simp] theorem Ev0_mFrz {fa : M T} : Ev0 (mFrz fa) Ts Q ↔ Ev0 fa Ts fun a Ts => Q a.fz Ts := by simp [mFrz]
@[simp] theorem Ev0_asB {fa : M T} : Ev0 (asB fa) Ts QB ↔ Ev0 fa Ts fun a Ts => EvO0 (bOf a) fun b => QB b Ts := by
  unfold asB
  rw [Ev0_bnd]
  refine iff_of_eq (congrArg (Ev0 fa Ts) (funext fun t => funext fun s => propext ?_))
  rw [Ev0_lft]
  cases t <;> simp [bOf]
@[simp] theorem Ev0_mAnd {fa fb : M Bool} : Ev0 (mAnd fa fb) Ts QB ↔ Ev0 fa Ts fun a Ts => if a = true then Ev0 fb Ts QB else QB false Ts := by simp [mAnd]
@[simp] theorem Ev0_mOr {fa fb : M Bool} : Ev0 (mOr fa fb) Ts QB ↔ Ev0 fa Ts fun a Ts => if a = true then QB true Ts else Ev0 fb Ts QB := by simp [mOr]
@[simp] theorem Ev0_mNot {fa : M Bool} : Ev0 (mNot fa) Ts QB ↔ Ev0 fa Ts fun a Ts => QB (!a) Ts := by simp [mNot]
@[simp] theorem Ev0_mTru {fa : M T} : Ev0 (mTru fa) Ts QB ↔ Ev0 fa Ts fun a Ts => EvO0 (tru a) fun b => QB b Ts := by simp [mTru]
@[simp] theorem Ev0_mIf {c : M Bool} {fa fb : M T} : Ev0 (mIf c fa fb) Ts Q ↔ Ev0 c Ts fun b Ts => if b = true then Ev0 fa Ts Q else Ev0 fb Ts Q := by simp [mIf]
@[simp] theorem Ev0_mAndV {fa fb : M T} : Ev0 (mAndV fa fb) Ts Q ↔ Ev0 fa Ts fun a Ts => EvO0 (bOf a) fun b => if b = true then Ev0 fb Ts Q else Q (.bl false) Ts := by simp [mAndV]
@[simp] theorem Ev0_mOrV {fa fb : M T} : Ev0 (mOrV fa fb) Ts Q ↔ Ev0 fa Ts fun a Ts => EvO0 (bOf a) fun b => if b = true then Q (.bl true) Ts else Ev0 fb Ts Q := by simp [mOrV]
@[simp] theorem Ev0_mNotV {fa : M T} : Ev0 (mNotV fa) Ts Q ↔ Ev0 fa Ts fun a Ts => EvO0 (bOf a) fun b => Q (.bl (!b)) Ts := by simp [mNotV]
@[simp] theorem Ev0_mChain {f f' : T → T → Option T} {fa fb fc : M T} : Ev0 (mChain f f' fa fb fc) Ts Q ↔ Ev0 fa Ts fun a Ts => Ev0 fb Ts fun b Ts => EvO0 (f a b) fun z => EvO0 (bOf z) fun k => if k = true then (Ev0 fc Ts fun c Ts => EvO0 (f' b c) fun r => Q r Ts) else Q (.bl false) Ts := by simp [mChain]
@[simp] theorem bOf_bl {b : Bool} : bOf (.bl b) = some b := rfl
@[simp] theorem tru_bl {b : Bool} : tru (.bl b) = some b := rfl
def Fl.then0 (fl : Fl) (k : Prop) (o : Fl → Prop) : Prop := match fl with
  | .nx => k
  | f => o f
@[simp] theorem then0_nx {k : Prop} {o : Fl → Prop} : Fl.then0 .nx k o = k := rfl
@[simp] theorem then0_rt {t : T} {k : Prop} {o : Fl → Prop} : Fl.then0 (.rt t) k o = o (.rt t) := rfl
@[simp] theorem then0_bk {k : Prop} {o : Fl → Prop} : Fl.then0 .bk k o = o .bk := rfl
@[simp] theorem then0_ct {k : Prop} {o : Fl → Prop} : Fl.then0 .ct k o = o .ct := rfl
@[simp] theorem Ev0_mSeq {f g : M Fl} : Ev0 (mSeq f g) Ts QF ↔ Ev0 f Ts fun fl Ts => fl.then0 (Ev0 g Ts QF) fun o => QF o Ts := by
  unfold mSeq
  rw [Ev0_bnd]
  refine iff_of_eq (congrArg (Ev0 f Ts) (funext fun t => funext fun s => propext ?_))
  cases t <;> simp
@[simp] theorem Ev0_mRet {fa : M T} : Ev0 (mRet fa) Ts QF ↔ Ev0 fa Ts fun t Ts => QF (.rt t) Ts := by simp [mRet]
@[simp] theorem Ev0_mDrop {fa : M T} : Ev0 (mDrop fa) Ts QF ↔ Ev0 fa Ts fun t Ts => QF .nx Ts := by simp [mDrop]
@[simp] theorem Ev0_mIfS {c : M Bool} {f g : M Fl} : Ev0 (mIfS c f g) Ts QF ↔ Ev0 c Ts fun b Ts => if b = true then Ev0 f Ts QF else Ev0 g Ts QF := by simp [mIfS]
@[simp] theorem Ev0_mPut {i : Nat} {t : T} : Ev0 (mPut i t) Ts QU ↔ i < Ts.length ∧ QU () (Ts.set i t) := by
  by_cases h : i < Ts.length
  · rw [Ev0_is (a := ()) (s := Ts.set i t) (by unfold mPut; rw [if_pos h])]; simp [h]
  · rw [Ev0_no (by unfold mPut; rw [if_neg h])]; simp [h]
@[simp] theorem Ev0_mGnil : Ev0 (mGnil []) Ts QU ↔ QU () Ts := by simp [mGnil]
@[simp] theorem Ev0_mGcons {m : T → M Unit} {ms : List T → M Unit} {t : T} {ts : List T} : Ev0 (mGcons m ms (t :: ts)) Ts QU ↔ Ev0 (m t) Ts fun _ Ts => Ev0 (ms ts) Ts QU := by simp [mGcons]
@[simp] theorem Ev0_mUnT {n : Nat} {ms : List T → M Unit} {ts : List T} : Ev0 (mUn n ms (.nd .tup ts)) Ts QU ↔ ts.length = n ∧ Ev0 (ms ts) Ts QU := by
  show Ev0 (if ts.length = n then ms ts else fun _ => none) Ts QU ↔ _
  by_cases h : ts.length = n <;> simp [h]
@[simp] theorem Ev0_mUnL {n : Nat} {ms : List T → M Unit} {ts : List T} {o : Bool} : Ev0 (mUn n ms (.nd (.lst o) ts)) Ts QU ↔ ts.length = n ∧ Ev0 (ms ts) Ts QU := by
  show Ev0 (if ts.length = n then ms ts else fun _ => none) Ts QU ↔ _
  by_cases h : ts.length = n <;> simp [h]
@[simp] theorem Ev0_mAsg {fa : M T} {m : T → M Unit} : Ev0 (mAsg fa m) Ts QF ↔ Ev0 fa Ts fun t Ts => Ev0 (m t) Ts fun _ Ts => QF .nx Ts := by simp [mAsg]
@[simp] theorem Ev0_mSet {fa : M T} {i : Nat} : Ev0 (mSet i fa) Ts QF ↔ Ev0 fa Ts fun t Ts => i < Ts.length ∧ QF .nx (Ts.set i t) := by simp [mSet]
@[simp] theorem Ev0_mPar {i j : Nat} {fs : M (List T)} : Ev0 (mPar i j fs) Ts QF ↔ Ev0 fs Ts fun ts Ts => Ev0 (mGcons (mPut i) (mGcons (mPut j) mGnil) ts) Ts fun _ Ts => QF .nx Ts := by simp [mPar]
@[simp] theorem Ev0_mPar3 {i j l : Nat} {fs : M (List T)} : Ev0 (mPar3 i j l fs) Ts QF ↔ Ev0 fs Ts fun ts Ts => Ev0 (mGcons (mPut i) (mGcons (mPut j) (mGcons (mPut l) mGnil)) ts) Ts fun _ Ts => QF .nx Ts := by simp [mPar3]
@[simp] theorem Ev0_mAug {i : Nat} {f : T → T → Option T} {fa : M T} : Ev0 (mAug i f fa) Ts QF ↔ Ev0 (mRd i) Ts fun x Ts => Ev0 fa Ts fun y Ts => EvO0 (f x y) fun z => i < Ts.length ∧ QF .nx (Ts.set i z) := by
  simp [mAug]
@[simp] theorem Ev0_mFor {mi : M (List T)} {m : T → M Unit} {f : M Fl} : Ev0 (mFor mi m f) Ts QF ↔ Ev0 mi Ts fun items Ts => Ev0 (loopM m f items) Ts QF := by simp [mFor]
@[simp] theorem Ev0_mRng {f : List T → Option (List T)} {fs : M (List T)} : Ev0 (mRng f fs) Ts QL ↔ Ev0 fs Ts fun ts Ts => EvO0 (f ts) fun r => QL r Ts := by simp [mRng]
@[simp] theorem Ev0_mItA {fa : M T} : Ev0 (mItA fa) Ts QL ↔ Ev0 fa Ts fun t Ts => EvO0 (match t with
  | .str x => if x.length ≤ sizeLine then some (signsT x) else none
  | t => kidsI t) fun r => QL r Ts := by
  unfold mItA
  rw [Ev0_bnd]
  refine iff_of_eq (congrArg (Ev0 fa Ts) (funext fun t => funext fun s => propext ?_))
  cases t <;> simp
@[simp] theorem kidsI_tup' {ts : List T} : kidsI (.nd .tup ts) = if immL ts = true then some ts else none := rfl
@[simp] theorem kidsI_lst' {o : Bool} {ts : List T} : kidsI (.nd (.lst o) ts) = if immL ts = true then some ts else none := rfl
@[simp] theorem kidsI_scr' {ts : List T} : kidsI (.nd .scr ts) = if immL ts = true then some ts else none := rfl
@[simp] theorem fzA_nil {ts : List T} : fzA [] ts = [] := by simp [fzA]
@[simp] theorem fzA_none {ln : List (Option Nat)} {t : T} {ts : List T} : fzA (none :: ln) (t :: ts) = t.fz :: fzA ln ts := by simp [fzA]
@[simp] theorem fzA_some {ln : List (Option Nat)} {i : Nat} {t : T} {ts : List T} : fzA (some i :: ln) (t :: ts) = t :: fzA ln ts := by simp [fzA]
@[simp] theorem Ev0_putO_nil {os : List T} : Ev0 (putO [] os) Ts QU ↔ QU () Ts := by simp [putO]
@[simp] theorem Ev0_putO_none {ln : List (Option Nat)} {os : List T} : Ev0 (putO (none :: ln) os) Ts QU ↔ Ev0 (putO ln os) Ts QU := by simp [putO]
@[simp] theorem Ev0_putO_some {ln : List (Option Nat)} {i : Nat} {o : T} {os : List T} : Ev0 (putO (some i :: ln) (o :: os)) Ts QU ↔ i < Ts.length ∧ Ev0 (putO ln os) (Ts.set i o) QU := by
  unfold Ev0
  simp only [putO]
  by_cases h : i < Ts.length <;> simp [h]
@[simp] theorem Ev0_mCall {c : Cal} {ln : List (Option Nat)} {fs : M (List T)} : Ev0 (mCall c ln fs) Ts Q ↔ Ev0 fs Ts fun ts Ts => EvO0 (c (fzA ln ts)) fun p => Ev0 (putO ln p.2) Ts fun _ Ts => Q p.1 Ts := by simp [mCall]
@[simp] theorem Ev0_mCallP {c : Cal} {ln : List (Option Nat)} {fs : M (List T)} : Ev0 (mCallP c ln fs) Ts Q ↔ Ev0 fs Ts fun ts Ts => EvO0 (c (fzA ln ts)) fun p => (p.1.nofz && nofzL p.2) = true ∧ Ev0 (putO ln p.2) Ts fun _ Ts => Q p.1 Ts := by
  unfold mCallP
  rw [Ev0_bnd]
  refine iff_of_eq (congrArg (Ev0 fs Ts) (funext fun t => funext fun s => propext ?_))
  rw [Ev0_bnd, Ev0_lft]
  refine iff_of_eq (congrArg (EvO0 _) (funext fun p => propext ?_))
  by_cases h : (p.1.nofz && nofzL p.2) = true
  · rw [if_pos h]; simp [h]
  · rw [if_neg h]; simp only [Ev0_fail, false_iff]; exact fun z => h z.1
@[simp] theorem Ev0_mGive {c : Cal} {fa : M T} : Ev0 (mGive c fa) Ts Q ↔ Ev0 fa Ts fun t Ts => EvO0 (c [t]) fun p => Q p.1 Ts := by simp [mGive]
@[simp] theorem Ev0_mMake {c : Cal} {cls : Str} {ln : List (Option Nat)} {fs : M (List T)} : Ev0 (mMake c cls ln fs) Ts Q ↔ Ev0 fs Ts fun ts Ts => EvO0 (c (.nd (.ins true cls []) [] :: fzA ln ts)) fun p => ∃ s, p = (.non, [s]) ∧ Q s Ts := by
  unfold mMake
  rw [Ev0_bnd]
  refine iff_of_eq (congrArg (Ev0 fs Ts) (funext fun t => funext fun s => propext ?_))
  rw [Ev0_bnd, Ev0_lft]
  refine iff_of_eq (congrArg (EvO0 _) (funext fun p => propext ?_))
  obtain ⟨t, o⟩ := p
  cases t <;> simp
  match o with
  | [] => simp
  | [s] => simp
  | _ :: _ :: _ => simp
@[simp] theorem Ev0_mIns {cls m : Str} {fa : M T} : Ev0 (mIns cls m fa) Ts Q ↔ Ev0 fa Ts fun t Ts => EvO0 (isIns cls m t) fun t => Q t Ts := by simp [mIns]
@[simp] theorem Ev0_mNoP {q : Option Int → List T → Prop} : Ev0 mNoP Ts q ↔ q none Ts := by simp [mNoP]
@[simp] theorem Ev0_mPt {q : Option Int → List T → Prop} {fa : M T} : Ev0 (mPt fa) Ts q ↔ Ev0 fa Ts fun t Ts => EvO0 (iOf t) fun i => q (some i) Ts := by simp [mPt]
@[simp] theorem iOf_int {i : Int} : iOf (.int i) = some i := rfl
@[simp] theorem Ev0_mSl {f : T → Option Int → Option Int → Option T} {fa : M T} {fl fh : M (Option Int)} : Ev0 (mSl f fa fl fh) Ts Q ↔ Ev0 fa Ts fun t Ts => Ev0 fl Ts fun l Ts => Ev0 fh Ts fun h Ts => EvO0 (f t l h) fun r => Q r Ts := by simp [mSl]
@[simp] theorem Ev0_mHere {i : Nat} : Ev0 (mHere i) Ts QN ↔ (slot Ts i).live = true ∧ QN [] Ts := by
  cases h : slot Ts i with
  | dead => rw [Ev0_no (by unfold mHere; rw [h])]; simp
  | _ => rw [Ev0_is (a := []) (s := Ts) (by unfold mHere; rw [h])]; simp
@[simp] theorem Ev0_mStepL {i : Nat} {mp : M (List Nat)} {fk : M T} : Ev0 (mStepL i mp fk) Ts QN ↔ Ev0 mp Ts fun p Ts => Ev0 fk Ts fun k Ts => EvO0 ((subT p (slot Ts i)).bind fun n => stepL n k) fun j => QN (p ++ [j]) Ts := by
  simp only [mStepL, Ev0_bnd]
  refine iff_of_eq (congrArg (Ev0 mp Ts) (funext fun p => funext fun s => congrArg (Ev0 fk s) (funext fun k => funext fun u => propext ?_)))
  cases h : subT p (slot u i) with
  | none => rw [Ev0_no (by simp only [h])]; simp
  | some n =>
    cases h2 : stepL n k with
    | none => rw [Ev0_no (by simp only [h, h2])]; simp [h2]
    | some j => rw [Ev0_is (a := p ++ [j]) (s := u) (by simp only [h, h2])]; simp [h2]
@[simp] theorem Ev0_mStepF {i : Nat} {mp : M (List Nat)} {c f : Str} : Ev0 (mStepF i c f mp) Ts QN ↔ Ev0 mp Ts fun p Ts => EvO0 ((subT p (slot Ts i)).bind fun n => stepF c f n) fun j => QN (p ++ [j]) Ts := by
  simp only [mStepF, Ev0_bnd]
  refine iff_of_eq (congrArg (Ev0 mp Ts) (funext fun p => funext fun u => propext ?_))
  cases h : subT p (slot u i) with
  | none => rw [Ev0_no (by simp only [h])]; simp
  | some n =>
    cases h2 : stepF c f n with
    | none => rw [Ev0_no (by simp only [h, h2])]; simp [h2]
    | some j => rw [Ev0_is (a := p ++ [j]) (s := u) (by simp only [h, h2])]; simp [h2]
@[simp] theorem Ev0_mMut {i : Nat} {mp : M (List Nat)} {ck : T → Bool} {fs : M (List T)} {f : T → List T → Option (T × T)} : Ev0 (mMut i mp ck fs f) Ts Q ↔ Ev0 mp Ts fun p Ts => EvO0 (subT p (slot Ts i)) fun n => ck n = true ∧ Ev0 fs Ts fun ts Ts => EvO0 (subT p (slot Ts i)) fun n => n.ownNd = true ∧ EvO0 (f n ts) fun r => Q r.1 (Ts.set i (setT p (slot Ts i) r.2)) := by
  simp only [mMut, Ev0_bnd]
  refine iff_of_eq (congrArg (Ev0 mp Ts) (funext fun p => funext fun s => propext ?_))
  have e1 : ∀ R : Unit → List T → Prop, Ev0 (chk i p ck) s R ↔ EvO0 (subT p (slot s i)) fun n => ck n = true ∧ R () s := fun R => by
    cases h : subT p (slot s i) with
    | none => rw [Ev0_no (by unfold chk; simp only [h])]; simp
    | some n =>
      by_cases q : ck n = true
      · rw [Ev0_is (a := ()) (s := s) (by unfold chk; simp only [h, q, if_true])]; simp [q]
      · rw [Ev0_no (by unfold chk; simp only [h]; rw [if_neg q])]; simp [q]
  rw [e1]
  refine iff_of_eq (congrArg (EvO0 _) (funext fun n => propext (and_congr_right fun _ => ?_)))
  refine iff_of_eq (congrArg (Ev0 fs s) (funext fun ts => funext fun u => propext ?_))
  cases h : subT p (slot u i) with
  | none => rw [Ev0_no (by simp only [h])]; simp
  | some n =>
    by_cases q : n.ownNd = true
    · cases h2 : f n ts with
      | none => rw [Ev0_no (by simp only [h, q, h2, if_true])]; simp [h2]
      | some r => obtain ⟨r1, r2⟩ := r; rw [Ev0_is (a := r1) (s := u.set i (setT p (slot u i) r2)) (by simp only [h, q, h2, if_true])]; simp [q, h2]
    · rw [Ev0_no (by simp only [h]; rw [if_neg q])]; simp [q]
@[simp] theorem Ev0_mSetI {i : Nat} {mp : M (List Nat)} {fk fa : M T} : Ev0 (mSetI i mp fk fa) Ts QF ↔ Ev0 fa Ts fun v Ts => Ev0 mp Ts fun p Ts => Ev0 fk Ts fun k Ts => Ev0 (wr i p k v) Ts QF := by simp [mSetI]
@[simp] theorem Ev0_wr {i : Nat} {p : List Nat} {k v : T} : Ev0 (wr i p k v) Ts QF ↔ EvO0 (subT p (slot Ts i)) fun n => n.ownNd = true ∧ EvO0 (fSt n [k, v]) fun r => QF .nx (Ts.set i (setT p (slot Ts i) r.2)) := by
  cases h : subT p (slot Ts i) with
  | none => rw [Ev0_no (by unfold wr; simp only [h])]; simp
  | some n =>
    by_cases q : n.ownNd = true
    · cases h2 : fSt n [k, v] with
      | none => rw [Ev0_no (by unfold wr; simp only [h, q, h2, if_true])]; simp [h2]
      | some r => obtain ⟨r1, r2⟩ := r; rw [Ev0_is (a := .nx) (s := Ts.set i (setT p (slot Ts i) r2)) (by unfold wr; simp only [h, q, h2, if_true])]; simp [q, h2]
    · rw [Ev0_no (by unfold wr; simp only [h]; rw [if_neg q])]; simp [q]
@[simp] theorem Ev0_mSetP {i j : Nat} {mp : M (List Nat)} {fk fa : M T} : Ev0 (mSetP i mp fk j fa) Ts QF ↔ Ev0 fa Ts fun t Ts => ∃ v w, t = .nd .tup [v, w] ∧ v.imm = true ∧ w.imm = true ∧ Ev0 mp Ts fun p Ts => Ev0 fk Ts fun k Ts => Ev0 (wr i p k v) Ts fun _ Ts => j < Ts.length ∧ QF .nx (Ts.set j w) := by
  unfold mSetP
  rw [Ev0_bnd]
  refine iff_of_eq (congrArg (Ev0 fa Ts) (funext fun t => funext fun s => propext ?_))
  constructor
  · intro h
    split at h
    · rename_i v w
      by_cases q : (v.imm && w.imm) = true
      · rw [if_pos q] at h
        obtain ⟨q1, q2⟩ := Bool.and_eq_true_iff.mp q
        refine ⟨v, w, rfl, q1, q2, ?_⟩
        simpa using h
      · rw [if_neg q] at h; simp at h
    · simp at h
  · rintro ⟨v, w, rfl, q1, q2, h⟩
    simp only [q1, q2, Bool.and_self, if_true]
    simpa using h
@[simp] theorem Ev0_mSetF {i : Nat} {mp : M (List Nat)} {cls f : Str} {fa : M T} : Ev0 (mSetF i mp cls f fa) Ts QF ↔ Ev0 fa Ts fun v Ts => Ev0 mp Ts fun p Ts => EvO0 (subT p (slot Ts i)) fun n => n.ownNd = true ∧ EvO0 (fFl cls f n [v]) fun r => QF .nx (Ts.set i (setT p (slot Ts i) r.2)) := by
  simp only [mSetF, Ev0_bnd]
  refine iff_of_eq (congrArg (Ev0 fa Ts) (funext fun v => funext fun s => congrArg (Ev0 mp s) (funext fun p => funext fun u => propext ?_)))
  cases h : subT p (slot u i) with
  | none => rw [Ev0_no (by unfold wrF; simp only [h])]; simp
  | some n =>
    by_cases q : n.ownNd = true
    · cases h2 : fFl cls f n [v] with
      | none => rw [Ev0_no (by unfold wrF; simp only [h, q, h2, if_true])]; simp [h2]
      | some r => obtain ⟨r1, r2⟩ := r; rw [Ev0_is (a := .nx) (s := u.set i (setT p (slot u i) r2)) (by unfold wrF; simp only [h, q, h2, if_true])]; simp [q, h2]
    · rw [Ev0_no (by unfold wrF; simp only [h]; rw [if_neg q])]; simp [q]
@[simp] theorem subT_nil {t : T} : subT [] t = some t := by simp [subT]
@[simp] theorem subT_cons {j : Nat} {p : List Nat} {k : Kd} {ts : List T} : subT (j :: p) (.nd k ts) = (ts[j]?).bind (subT p) := by
  simp only [subT]
  cases ts[j]? <;> rfl
@[simp] theorem setT_nil {t n : T} : setT [] t n = n := by simp [setT]
@[simp] theorem setT_cons {j : Nat} {p : List Nat} {k : Kd} {ts : List T} {n : T} : setT (j :: p) (.nd k ts) n = .nd k (ts.set j (setT p (ts.getD j .dead) n)) := by simp [setT]
@[simp] theorem stepL_lst {o : Bool} {ts : List T} {j : Int} : stepL (.nd (.lst o) ts) (.int j) = ixN ts.length j := rfl
def lcRun (m : T → M Unit) (tt : M Bool) (te : M T) (vs : List Nat) (items : List T) : M T := fun Ts => if vs.all (fun i => hidOk (slot Ts i)) then (match lcM m tt te vs items [] (wipeT Ts vs) with
  | some (acc, Ts2) => some (.nd (.lst true) acc, rest Ts Ts2 vs)
  | none => none) else none
@[simp] theorem Ev0_mLc {mi : M (List T)} {m : T → M Unit} {tt : M Bool} {te : M T} {vs : List Nat} : Ev0 (mLc mi m tt te vs) Ts Q ↔ Ev0 mi Ts fun items Ts => Ev0 (lcRun m tt te vs items) Ts Q := by
  unfold mLc
  rw [Ev0_bnd]; rfl
def lc2Run (m : T → M Unit) (mi1 : M (List T)) (m1 : T → M Unit) (tt1 : M Bool) (te : M T) (vs vs1 : List Nat) (items : List T) : M T := fun Ts => if vs.all (fun i => hidOk (slot Ts i)) then (match lc2M m mi1 m1 tt1 te vs vs1 items [] (wipeT Ts vs) with
  | some (acc, Ts2) => some (.nd (.lst true) acc, rest Ts Ts2 vs)
  | none => none) else none
@[simp] theorem Ev0_mLc2 {mi mi1 : M (List T)} {m m1 : T → M Unit} {tt : M Bool} {te : M T} {vs vs1 : List Nat} : Ev0 (mLc2 mi m mi1 m1 tt te vs vs1) Ts Q ↔ Ev0 mi Ts fun items Ts => Ev0 (lc2Run m mi1 m1 tt te vs vs1 items) Ts Q := by
  unfold mLc2
  rw [Ev0_bnd]; rfl
end
section
variable {α : Type}
def Fl.turn0 (fl : Fl) (I : Prop) (q : Fl → Prop) : Prop := match fl with
  | .rt r => q (.rt r)
  | .bk => q .nx
  | _ => I
@[simp] theorem turn0_nx {k : Prop} {o : Fl → Prop} : Fl.turn0 .nx k o = k := rfl
@[simp] theorem turn0_ct {k : Prop} {o : Fl → Prop} : Fl.turn0 .ct k o = k := rfl
@[simp] theorem turn0_rt {t : T} {k : Prop} {o : Fl → Prop} : Fl.turn0 (.rt t) k o = o (.rt t) := rfl
@[simp] theorem turn0_bk {k : Prop} {o : Fl → Prop} : Fl.turn0 .bk k o = o .nx := rfl
theorem loop0_cons {m : T → M Unit} {f : M Fl} {t : T} {ts : List T} {Ts : List T} {Q : Fl → List T → Prop} (h : Ev0 (m t) Ts fun _ Ts => Ev0 f Ts fun fl Ts => fl.turn0 (Ev0 (loopM m f ts) Ts Q) fun o => Q o Ts) : Ev0 (loopM m f (t :: ts)) Ts Q := by
  simp only [loopM, Ev0_bnd]
  refine h.mono fun _ s h => h.mono fun fl s h => ?_
  cases fl <;> simpa using h
theorem loop0_at {m : T → M Unit} {f : M Fl} {enc : α → T} {Q : Fl → List T → Prop} (xs : List α) (Inv : List α → List T → Prop)
    (hb : ∀ pre x post, xs = pre ++ x :: post → ∀ Ts, Inv pre Ts → Ev0 (m (enc x)) Ts fun _ Ts => Ev0 f Ts fun fl Ts => fl.turn0 (Inv (pre ++ [x]) Ts) fun o => Q o Ts)
    (hq : ∀ Ts, Inv xs Ts → Q .nx Ts) : ∀ pre post, xs = pre ++ post → ∀ Ts, Inv pre Ts → Ev0 (loopM m f (post.map enc)) Ts Q
  | pre, [], e, Ts, h => by
    rw [List.append_nil] at e; subst e
    simp only [List.map_nil, loopM, Ev0_ret]
    exact hq Ts h
  | pre, x :: post, e, Ts, h => by
    rw [List.map_cons]
    refine loop0_cons ((hb pre x post e Ts h).mono fun _ s h => h.mono fun fl s h => ?_)
    cases fl with
    | nx => exact loop0_at xs Inv hb hq (pre ++ [x]) post (by rw [e]; simp) s h
    | ct => exact loop0_at xs Inv hb hq (pre ++ [x]) post (by rw [e]; simp) s h
    | bk => exact h
    | rt r => exact h
theorem loop0_inv {m : T → M Unit} {f : M Fl} {enc : α → T} {xs : List α} {Ts : List T} {Q : Fl → List T → Prop} (Inv : List α → List T → Prop) (h0 : Inv [] Ts)
    (hb : ∀ pre x post, xs = pre ++ x :: post → ∀ Ts, Inv pre Ts → Ev0 (m (enc x)) Ts fun _ Ts => Ev0 f Ts fun fl Ts => fl.turn0 (Inv (pre ++ [x]) Ts) fun o => Q o Ts)
    (hq : ∀ Ts, Inv xs Ts → Q .nx Ts) : Ev0 (loopM m f (xs.map enc)) Ts Q := loop0_at xs Inv hb hq [] xs rfl Ts h0
@[simp] theorem wipeT_nil {Ts : List T} : wipeT Ts [] = Ts := rfl
@[simp] theorem wipeT_cons {Ts : List T} {i : Nat} {vs : List Nat} : wipeT Ts (i :: vs) = wipeT (Ts.set i .dead) vs := rfl
@[simp] theorem rest_nil {Ts Ts2 : List T} : rest Ts Ts2 [] = Ts2 := rfl
@[simp] theorem rest_cons {Ts Ts2 : List T} {i : Nat} {vs : List Nat} : rest Ts Ts2 (i :: vs) = rest Ts (Ts2.set i (slot Ts i)) vs := rfl
@[simp] theorem hidOk_dead : hidOk .dead = true := rfl
theorem hidOk_imm {t : T} (h : t.imm = true) : hidOk t = true := by cases t <;> first | rfl | exact h
@[simp] theorem hidOk_non : hidOk .non = true := by simp [hidOk]
@[simp] theorem hidOk_int {i : Int} : hidOk (.int i) = true := by simp [hidOk]
@[simp] theorem hidOk_bl {i : Bool} : hidOk (.bl i) = true := by simp [hidOk]
@[simp] theorem hidOk_str {i : Str} : hidOk (.str i) = true := by simp [hidOk]
@[simp] theorem hidOk_nd {k : Kd} {ts : List T} : hidOk (.nd k ts) = (!k.own && immL ts) := by simp [hidOk]
theorem lcM0_at {m : T → M Unit} {tt : M Bool} {te : M T} {vs : List Nat} {enc : α → T} {Q : List T → List T → Prop} (xs : List α) (Inv : List α → List T → List T → Prop)
    (hb : ∀ pre x post, xs = pre ++ x :: post → ∀ acc Ts, Inv pre acc Ts → Ev0 (m (enc x)) Ts fun _ Ts => Ev0 tt Ts fun b Ts => if b = true then (Ev0 te Ts fun r Ts => acc.length < sizeLine ∧ Inv (pre ++ [x]) (acc ++ [r]) (wipeT Ts vs)) else Inv (pre ++ [x]) acc (wipeT Ts vs))
    (hq : ∀ acc Ts, Inv xs acc Ts → Q acc Ts) : ∀ pre post, xs = pre ++ post → ∀ acc Ts, Inv pre acc Ts → Ev0 (lcM m tt te vs (post.map enc) acc) Ts Q
  | pre, [], e, acc, Ts, h => by
    rw [List.append_nil] at e; subst e
    simp only [List.map_nil, lcM, Ev0_ret]
    exact hq acc Ts h
  | pre, x :: post, e, acc, Ts, h => by
    rw [List.map_cons]
    simp only [lcM, Ev0_bnd]
    refine (hb pre x post e acc Ts h).mono fun _ s h => h.mono fun b s h => ?_
    cases b with
    | true =>
      simp only [if_true] at h ⊢
      rw [Ev0_bnd]
      refine h.mono fun r s h => ?_
      rw [if_pos h.1]
      exact lcM0_at xs Inv hb hq (pre ++ [x]) post (by rw [e]; simp) _ _ h.2
    | false =>
      have h : Inv (pre ++ [x]) acc (wipeT s vs) := h
      exact lcM0_at xs Inv hb hq (pre ++ [x]) post (by rw [e]; simp) _ _ h
theorem lc0_inv {m : T → M Unit} {tt : M Bool} {te : M T} {vs : List Nat} {enc : α → T} {xs : List α} {Ts : List T} {Q : T → List T → Prop} (Inv : List α → List T → List T → Prop)
    (hv : vs.all (fun i => hidOk (slot Ts i)) = true) (h0 : Inv [] [] (wipeT Ts vs))
    (hb : ∀ pre x post, xs = pre ++ x :: post → ∀ acc Ts, Inv pre acc Ts → Ev0 (m (enc x)) Ts fun _ Ts => Ev0 tt Ts fun b Ts => if b = true then (Ev0 te Ts fun r Ts => acc.length < sizeLine ∧ Inv (pre ++ [x]) (acc ++ [r]) (wipeT Ts vs)) else Inv (pre ++ [x]) acc (wipeT Ts vs))
    (hq : ∀ acc Ts', Inv xs acc Ts' → Q (.nd (.lst true) acc) (rest Ts Ts' vs)) : Ev0 (lcRun m tt te vs (xs.map enc)) Ts Q := by
  obtain ⟨acc, s, e, q⟩ := lcM0_at (Q := fun acc Ts' => Q (.nd (.lst true) acc) (rest Ts Ts' vs)) xs Inv hb hq [] xs rfl [] _ h0
  refine ⟨_, _, ?_, q⟩
  unfold lcRun
  rw [if_pos hv, e]
theorem lc0_pure {m : T → M Unit} {tt : M Bool} {te : M T} {vs : List Nat} {enc : α → T} {xs : List α} {Ts : List T} {Q : T → List T → Prop} (p : α → Bool) (g : α → T)
    (hv : vs.all (fun i => hidOk (slot Ts i)) = true) (hl : xs.length ≤ sizeLine)
    (hb : ∀ x ∈ xs, Ev0 (m (enc x)) (wipeT Ts vs) fun _ Ts1 => Ev0 tt Ts1 fun b Ts1 => b = p x ∧ if b = true then (Ev0 te Ts1 fun r Ts1 => r = g x ∧ wipeT Ts1 vs = wipeT Ts vs) else wipeT Ts1 vs = wipeT Ts vs)
    (hq : Q (.nd (.lst true) ((xs.filter p).map g)) (rest Ts (wipeT Ts vs) vs)) : Ev0 (lcRun m tt te vs (xs.map enc)) Ts Q := by
  refine lc0_inv (fun pre acc s => acc = (pre.filter p).map g ∧ s = wipeT Ts vs) hv ⟨rfl, rfl⟩ (fun pre x post e acc s h => ?_) fun acc s h => ?_
  · obtain ⟨rfl, rfl⟩ := h
    refine (hb x (by rw [e]; simp)).mono fun _ s h => h.mono fun b s h => ?_
    obtain ⟨rfl, h⟩ := h
    by_cases hp : p x = true
    · rw [if_pos hp] at h ⊢
      refine h.mono fun r s h => ⟨?_, ?_, h.2⟩
      · have h1 := List.length_filter_le p pre
        have h2 : xs.length = pre.length + (post.length + 1) := by rw [e]; simp
        rw [List.length_map]
        omega
      · rw [List.filter_append, List.map_append, h.1]; simp [hp]
    · rw [if_neg hp] at h ⊢
      refine ⟨?_, h⟩
      rw [List.filter_append]; simp [hp]
  · obtain ⟨rfl, rfl⟩ := h; exact hq
theorem lc2M0_at {m : T → M Unit} {mi1 : M (List T)} {m1 : T → M Unit} {tt : M Bool} {te : M T} {vs vs1 : List Nat} {enc : α → T} {Q : List T → List T → Prop} (xs : List α) (Inv : List α → List T → List T → Prop)
    (hb : ∀ pre x post, xs = pre ++ x :: post → ∀ acc Ts, Inv pre acc Ts → Ev0 (m (enc x)) Ts fun _ Ts => Ev0 mi1 Ts fun items Ts => Ev0 (lcM m1 tt te vs1 items acc) (wipeT Ts vs1) fun acc' Ts => Inv (pre ++ [x]) acc' (wipeT Ts vs))
    (hq : ∀ acc Ts, Inv xs acc Ts → Q acc Ts) : ∀ pre post, xs = pre ++ post → ∀ acc Ts, Inv pre acc Ts → Ev0 (lc2M m mi1 m1 tt te vs vs1 (post.map enc) acc) Ts Q
  | pre, [], e, acc, Ts, h => by
    rw [List.append_nil] at e; subst e
    simp only [List.map_nil, lc2M, Ev0_ret]
    exact hq acc Ts h
  | pre, x :: post, e, acc, Ts, h => by
    rw [List.map_cons]
    simp only [lc2M, Ev0_bnd]
    refine (hb pre x post e acc Ts h).mono fun _ s h => h.mono fun items s h => ?_
    obtain ⟨acc', s', e1, q⟩ := h
    obtain ⟨r, s2, e2, q2⟩ := lc2M0_at xs Inv hb hq (pre ++ [x]) post (by rw [e]; simp) _ _ q
    refine ⟨r, s2, ?_, q2⟩
    simp only [e1]
    exact e2
theorem lc20_inv {m : T → M Unit} {mi1 : M (List T)} {m1 : T → M Unit} {tt : M Bool} {te : M T} {vs vs1 : List Nat} {enc : α → T} {xs : List α} {Ts : List T} {Q : T → List T → Prop} (Inv : List α → List T → List T → Prop)
    (hv : vs.all (fun i => hidOk (slot Ts i)) = true) (h0 : Inv [] [] (wipeT Ts vs))
    (hb : ∀ pre x post, xs = pre ++ x :: post → ∀ acc Ts, Inv pre acc Ts → Ev0 (m (enc x)) Ts fun _ Ts => Ev0 mi1 Ts fun items Ts => Ev0 (lcM m1 tt te vs1 items acc) (wipeT Ts vs1) fun acc' Ts => Inv (pre ++ [x]) acc' (wipeT Ts vs))
    (hq : ∀ acc Ts', Inv xs acc Ts' → Q (.nd (.lst true) acc) (rest Ts Ts' vs)) : Ev0 (lc2Run m mi1 m1 tt te vs vs1 (xs.map enc)) Ts Q := by
  obtain ⟨acc, s, e, q⟩ := lc2M0_at (Q := fun acc Ts' => Q (.nd (.lst true) acc) (rest Ts Ts' vs)) xs Inv hb hq [] xs rfl [] _ h0
  refine ⟨_, _, ?_, q⟩
  unfold lc2Run
  rw [if_pos hv, e]
theorem lcM0_pure {m : T → M Unit} {tt : M Bool} {te : M T} {vs : List Nat} {enc : α → T} {xs : List α} {W : List T} {acc : List T} {Q : List T → List T → Prop} (p : α → Bool) (g : α → T)
    (hl : acc.length + xs.length ≤ sizeLine)
    (hb : ∀ x ∈ xs, Ev0 (m (enc x)) W fun _ Ts1 => Ev0 tt Ts1 fun b Ts1 => b = p x ∧ if b = true then (Ev0 te Ts1 fun r Ts1 => r = g x ∧ wipeT Ts1 vs = W) else wipeT Ts1 vs = W)
    (hq : Q (acc ++ (xs.filter p).map g) W) : Ev0 (lcM m tt te vs (xs.map enc) acc) W Q := by
  refine lcM0_at xs (fun pre acc' s => acc' = acc ++ (pre.filter p).map g ∧ s = W) (fun pre x post e acc' s h => ?_) (fun acc' s h => ?_) [] xs rfl acc W ⟨by simp, rfl⟩
  · obtain ⟨rfl, rfl⟩ := h
    refine (hb x (by rw [e]; simp)).mono fun _ s h => h.mono fun b s h => ?_
    obtain ⟨rfl, h⟩ := h
    by_cases hp : p x = true
    · rw [if_pos hp] at h ⊢
      refine h.mono fun r s h => ⟨?_, ?_, h.2⟩
      · have h1 := List.length_filter_le p pre
        have h2 : xs.length = pre.length + (post.length + 1) := by rw [e]; simp
        rw [List.length_append, List.length_map]
        omega
      · rw [List.filter_append, List.map_append, h.1]; simp [hp]
    · rw [if_neg hp] at h ⊢
      refine ⟨?_, h⟩
      rw [List.filter_append]; simp [hp]
  · obtain ⟨rfl, rfl⟩ := h; exact hq
end
def outO0 (io : List Nat) (fl : Fl) (Ts : List T) (Q : T × List T → Prop) : Prop := match fl with
  | .rt r => Q (r, io.map (slot Ts))
  | .nx => Q (.non, io.map (slot Ts))
  | _ => False
@[simp] theorem outO0_rt {io : List Nat} {r : T} {Ts : List T} {Q : T × List T → Prop} : outO0 io (.rt r) Ts Q = Q (r, io.map (slot Ts)) := rfl
@[simp] theorem outO0_nx {io : List Nat} {Ts : List T} {Q : T × List T → Prop} : outO0 io .nx Ts Q = Q (.non, io.map (slot Ts)) := rfl
theorem EvO0_runB {np n : Nat} {io : List Nat} {f : M Fl} {ts : List T} {Q : T × List T → Prop} (hl : ts.length = np) (h : Ev0 f (ts ++ List.replicate (n - np) .dead) fun fl Ts => outO0 io fl Ts Q) : EvO0 (runB np n io f ts) Q := by
  obtain ⟨fl, Ts', e, q⟩ := h
  unfold runB
  rw [if_pos hl, e]
  cases fl with
  | rt r => exact ⟨_, rfl, q⟩
  | nx => exact ⟨_, rfl, q⟩
  | bk => exact False.elim q
  | ct => exact False.elim q
section
variable {α β : Type}
abbrev Dep {β : Sort _} (_ : β) : Type := Unit
def Ev (m : M α) (Ts : List T) (Q : α → List T → Prop) (u : Dep (m, Q) := ()) : Prop := Ev0 m Ts Q
def EvO (o : Option α) (Q : α → Prop) (u : Dep Q := ()) : Prop := EvO0 o Q
def Inn (I : List T → Prop) (Ts : List T) (u : Dep I := ()) : Prop := I Ts
theorem Inn.mk {I : List T → Prop} {Ts : List T} (h : I Ts) : Inn I Ts := h
def Fl.then (fl : Fl) (k : Prop) (o : Fl → Prop) (u : Dep (k, o) := ()) : Prop := fl.then0 k o
def Fl.turn (fl : Fl) (I : Prop) (q : Fl → Prop) (u : Dep q := ()) : Prop := fl.turn0 I q
def outO (io : List Nat) (fl : Fl) (Ts : List T) (Q : T × List T → Prop) (u : Dep Q := ()) : Prop := outO0 io fl Ts Q
theorem EvO.eq {o : Option α} {a : α} (h : EvO o (· = a)) : o = some a := EvO0.eq h
theorem EvO.mono {o : Option α} {P Q : α → Prop} (h : EvO o P) (i : ∀ a, P a → Q a) : EvO o Q := EvO0.mono h i
theorem Ev.mono {m : M α} {Ts : List T} {P Q : α → List T → Prop} (h : Ev m Ts P) (i : ∀ a Ts', P a Ts' → Q a Ts') : Ev m Ts Q := Ev0.mono h i
@[simp] theorem EvO_some {a : α} {Q : α → Prop} : EvO (some a) Q ↔ Q a := EvO0_some
@[simp] theorem EvO_none {Q : α → Prop} : EvO none Q ↔ False := EvO0_none
@[simp] theorem EvO_ite {c : Prop} [Decidable c] {o o' : Option α} {Q : α → Prop} : EvO (if c then o else o') Q ↔ if c then EvO o Q else EvO o' Q := EvO0_ite
@[simp] theorem EvO_bind {o : Option α} {f : α → Option β} {Q : β → Prop} : EvO (o.bind f) Q ↔ EvO o fun a => EvO (f a) Q := EvO0_bind
@[simp] theorem EvO_map {o : Option α} {f : α → β} {Q : β → Prop} : EvO (o.map f) Q ↔ EvO o fun a => Q (f a) := EvO0_map
@[simp] theorem Ev_bnd {x : M α} {f : α → M β} {Ts : List T} {Q : β → List T → Prop} : Ev (bnd x f) Ts Q ↔ Ev x Ts fun a Ts' => Ev (f a) Ts' Q := Ev0_bnd
@[simp] theorem Ev_ret {a : α} {Ts : List T} {Q : α → List T → Prop} : Ev (ret a) Ts Q ↔ Q a Ts := Ev0_ret
@[simp] theorem Ev_lft {o : Option α} {Ts : List T} {Q : α → List T → Prop} : Ev (lft o) Ts Q ↔ EvO o fun a => Q a Ts := Ev0_lft
@[simp] theorem Ev_fail {Ts : List T} {Q : α → List T → Prop} : Ev (fun _ => none) Ts Q ↔ False := Ev0_fail
@[simp] theorem Ev_ite {c : Prop} [Decidable c] {f g : M α} {Ts : List T} {Q : α → List T → Prop} : Ev (if c then f else g) Ts Q ↔ if c then Ev f Ts Q else Ev g Ts Q := Ev0_ite
end
section
variable {Ts : List T} {Q : T → List T → Prop} {QB : Bool → List T → Prop} {QL : List T → List T → Prop} {QF : Fl → List T → Prop} {QU : Unit → List T → Prop} {QN : List Nat → List T → Prop}
@[simp] theorem then_nx {k : Prop} {o : Fl → Prop} : Fl.then .nx k o = k := then0_nx
@[simp] theorem then_rt {t : T} {k : Prop} {o : Fl → Prop} : Fl.then (.rt t) k o = o (.rt t) := then0_rt
@[simp] theorem then_bk {k : Prop} {o : Fl → Prop} : Fl.then .bk k o = o .bk := then0_bk
@[simp] theorem then_ct {k : Prop} {o : Fl → Prop} : Fl.then .ct k o = o .ct := then0_ct
@[simp] theorem turn_nx {k : Prop} {o : Fl → Prop} : Fl.turn .nx k o = k := turn0_nx
@[simp] theorem turn_ct {k : Prop} {o : Fl → Prop} : Fl.turn .ct k o = k := turn0_ct
@[simp] theorem turn_rt {t : T} {k : Prop} {o : Fl → Prop} : Fl.turn (.rt t) k o = o (.rt t) := turn0_rt
@[simp] theorem turn_bk {k : Prop} {o : Fl → Prop} : Fl.turn .bk k o = o .nx := turn0_bk
@[simp] theorem Ev_mC {t : T} : Ev (mC t) Ts Q ↔ Q t Ts := Ev0_mC
@[simp] theorem Ev_mRd {i : Nat} : Ev (mRd i) Ts Q ↔ (slot Ts i).live = true ∧ Q (slot Ts i) Ts := Ev0_mRd
@[simp] theorem Ev_mIm {fa : M T} : Ev (mIm fa) Ts Q ↔ Ev fa Ts fun t Ts => t.imm = true ∧ Q t Ts := Ev0_mIm
@[simp] theorem Ev_mFz {i : Nat} : Ev (mFz i) Ts Q ↔ (slot Ts i).live = true ∧ Q (slot Ts i).fz (Ts.set i (slot Ts i).fz) := Ev0_mFz
@[simp] theorem Ev_mMv {i : Nat} : Ev (mMv i) Ts Q ↔ (slot Ts i).live = true ∧ (if (slot Ts i).imm = true then Q (slot Ts i) Ts else Q (slot Ts i) (Ts.set i .dead)) := Ev0_mMv
@[simp] theorem Ev_mLn {i : Nat} : Ev (mLn i) Ts Q ↔ (slot Ts i).live = true ∧ Q (slot Ts i) (Ts.set i .dead) := Ev0_mLn
@[simp] theorem Ev_mNil : Ev mNil Ts QL ↔ QL [] Ts := Ev0_mNil
@[simp] theorem Ev_mCons {fa : M T} {fs : M (List T)} : Ev (mCons fa fs) Ts QL ↔ Ev fa Ts fun a Ts => Ev fs Ts fun as Ts => QL (a :: as) Ts := Ev0_mCons
@[simp] theorem Ev_mStar {fa : M T} {fs : M (List T)} : Ev (mStar fa fs) Ts QL ↔ Ev fa Ts fun a Ts => EvO (kidsI a) fun ks => Ev fs Ts fun as Ts => QL (ks ++ as) Ts := Ev0_mStar
@[simp] theorem Ev_mTup {fs : M (List T)} : Ev (mTup fs) Ts Q ↔ Ev fs Ts fun ts Ts => ts.length ≤ sizeLine ∧ Q (.nd .tup ts) Ts := Ev0_mTup
@[simp] theorem Ev_mLst {fs : M (List T)} : Ev (mLst fs) Ts Q ↔ Ev fs Ts fun ts Ts => ts.length ≤ sizeLine ∧ Q (.nd (.lst true) ts) Ts := Ev0_mLst
@[simp] theorem Ev_mF {f : List T → Option T} {fs : M (List T)} : Ev (mF f fs) Ts Q ↔ Ev fs Ts fun ts Ts => EvO (f ts) fun t => Q t Ts := Ev0_mF
@[simp] theorem Ev_m1 {f : T → Option T} {fa : M T} : Ev (m1 f fa) Ts Q ↔ Ev fa Ts fun a Ts => EvO (f a) fun t => Q t Ts := Ev0_m1
@[simp] theorem Ev_m2 {f : T → T → Option T} {fa fb : M T} : Ev (m2 f fa fb) Ts Q ↔ Ev fa Ts fun a Ts => Ev fb Ts fun b Ts => EvO (f a b) fun t => Q t Ts := Ev0_m2
@[simp] theorem Ev_mFrz {fa : M T} : Ev (mFrz fa) Ts Q ↔ Ev fa Ts fun a Ts => Q a.fz Ts := Ev0_mFrz
@[simp] theorem Ev_asB {fa : M T} : Ev (asB fa) Ts QB ↔ Ev fa Ts fun a Ts => EvO (bOf a) fun b => QB b Ts := Ev0_asB
@[simp] theorem Ev_mAnd {fa fb : M Bool} : Ev (mAnd fa fb) Ts QB ↔ Ev fa Ts fun a Ts => if a = true then Ev fb Ts QB else QB false Ts := Ev0_mAnd
@[simp] theorem Ev_mOr {fa fb : M Bool} : Ev (mOr fa fb) Ts QB ↔ Ev fa Ts fun a Ts => if a = true then QB true Ts else Ev fb Ts QB := Ev0_mOr
@[simp] theorem Ev_mNot {fa : M Bool} : Ev (mNot fa) Ts QB ↔ Ev fa Ts fun a Ts => QB (!a) Ts := Ev0_mNot
@[simp] theorem Ev_mTru {fa : M T} : Ev (mTru fa) Ts QB ↔ Ev fa Ts fun a Ts => EvO (tru a) fun b => QB b Ts := Ev0_mTru
@[simp] theorem Ev_mIf {c : M Bool} {fa fb : M T} : Ev (mIf c fa fb) Ts Q ↔ Ev c Ts fun b Ts => if b = true then Ev fa Ts Q else Ev fb Ts Q := Ev0_mIf
@[simp] theorem Ev_mAndV {fa fb : M T} : Ev (mAndV fa fb) Ts Q ↔ Ev fa Ts fun a Ts => EvO (bOf a) fun b => if b = true then Ev fb Ts Q else Q (.bl false) Ts := Ev0_mAndV
@[simp] theorem Ev_mOrV {fa fb : M T} : Ev (mOrV fa fb) Ts Q ↔ Ev fa Ts fun a Ts => EvO (bOf a) fun b => if b = true then Q (.bl true) Ts else Ev fb Ts Q := Ev0_mOrV
@[simp] theorem Ev_mNotV {fa : M T} : Ev (mNotV fa) Ts Q ↔ Ev fa Ts fun a Ts => EvO (bOf a) fun b => Q (.bl (!b)) Ts := Ev0_mNotV
@[simp] theorem Ev_mChain {f f' : T → T → Option T} {fa fb fc : M T} : Ev (mChain f f' fa fb fc) Ts Q ↔ Ev fa Ts fun a Ts => Ev fb Ts fun b Ts => EvO (f a b) fun z => EvO (bOf z) fun k => if k = true then (Ev fc Ts fun c Ts => EvO (f' b c) fun r => Q r Ts) else Q (.bl false) Ts := Ev0_mChain
@[simp] theorem Ev_mSeq {f g : M Fl} : Ev (mSeq f g) Ts QF ↔ Ev f Ts fun fl Ts => fl.then (Ev g Ts QF) fun o => QF o Ts := Ev0_mSeq
@[simp] theorem Ev_mRet {fa : M T} : Ev (mRet fa) Ts QF ↔ Ev fa Ts fun t Ts => QF (.rt t) Ts := Ev0_mRet
@[simp] theorem Ev_mDrop {fa : M T} : Ev (mDrop fa) Ts QF ↔ Ev fa Ts fun t Ts => QF .nx Ts := Ev0_mDrop
@[simp] theorem Ev_mIfS {c : M Bool} {f g : M Fl} : Ev (mIfS c f g) Ts QF ↔ Ev c Ts fun b Ts => if b = true then Ev f Ts QF else Ev g Ts QF := Ev0_mIfS
@[simp] theorem Ev_mPut {i : Nat} {t : T} : Ev (mPut i t) Ts QU ↔ i < Ts.length ∧ QU () (Ts.set i t) := Ev0_mPut
@[simp] theorem Ev_mGnil : Ev (mGnil []) Ts QU ↔ QU () Ts := Ev0_mGnil
@[simp] theorem Ev_mGcons {m : T → M Unit} {ms : List T → M Unit} {t : T} {ts : List T} : Ev (mGcons m ms (t :: ts)) Ts QU ↔ Ev (m t) Ts fun _ Ts => Ev (ms ts) Ts QU := Ev0_mGcons
@[simp] theorem Ev_mUnT {n : Nat} {ms : List T → M Unit} {ts : List T} : Ev (mUn n ms (.nd .tup ts)) Ts QU ↔ ts.length = n ∧ Ev (ms ts) Ts QU := Ev0_mUnT
@[simp] theorem Ev_mUnL {n : Nat} {ms : List T → M Unit} {ts : List T} {o : Bool} : Ev (mUn n ms (.nd (.lst o) ts)) Ts QU ↔ ts.length = n ∧ Ev (ms ts) Ts QU := Ev0_mUnL
@[simp] theorem Ev_mAsg {fa : M T} {m : T → M Unit} : Ev (mAsg fa m) Ts QF ↔ Ev fa Ts fun t Ts => Ev (m t) Ts fun _ Ts => QF .nx Ts := Ev0_mAsg
@[simp] theorem Ev_mSet {fa : M T} {i : Nat} : Ev (mSet i fa) Ts QF ↔ Ev fa Ts fun t Ts => i < Ts.length ∧ QF .nx (Ts.set i t) := Ev0_mSet
@[simp] theorem Ev_mPar {i j : Nat} {fs : M (List T)} : Ev (mPar i j fs) Ts QF ↔ Ev fs Ts fun ts Ts => Ev (mGcons (mPut i) (mGcons (mPut j) mGnil) ts) Ts fun _ Ts => QF .nx Ts := Ev0_mPar
@[simp] theorem Ev_mPar3 {i j l : Nat} {fs : M (List T)} : Ev (mPar3 i j l fs) Ts QF ↔ Ev fs Ts fun ts Ts => Ev (mGcons (mPut i) (mGcons (mPut j) (mGcons (mPut l) mGnil)) ts) Ts fun _ Ts => QF .nx Ts := Ev0_mPar3
@[simp] theorem Ev_mAug {i : Nat} {f : T → T → Option T} {fa : M T} : Ev (mAug i f fa) Ts QF ↔ Ev (mRd i) Ts fun x Ts => Ev fa Ts fun y Ts => EvO (f x y) fun z => i < Ts.length ∧ QF .nx (Ts.set i z) := Ev0_mAug
@[simp] theorem Ev_mFor {mi : M (List T)} {m : T → M Unit} {f : M Fl} : Ev (mFor mi m f) Ts QF ↔ Ev mi Ts fun items Ts => Ev (loopM m f items) Ts QF := Ev0_mFor
@[simp] theorem Ev_mRng {f : List T → Option (List T)} {fs : M (List T)} : Ev (mRng f fs) Ts QL ↔ Ev fs Ts fun ts Ts => EvO (f ts) fun r => QL r Ts := Ev0_mRng
@[simp] theorem Ev_mItA {fa : M T} : Ev (mItA fa) Ts QL ↔ Ev fa Ts fun t Ts => EvO (match t with
  | .str x => if x.length ≤ sizeLine then some (signsT x) else none
  | t => kidsI t) fun r => QL r Ts := Ev0_mItA
@[simp] theorem Ev_putO_nil {os : List T} : Ev (putO [] os) Ts QU ↔ QU () Ts := Ev0_putO_nil
@[simp] theorem Ev_putO_none {ln : List (Option Nat)} {os : List T} : Ev (putO (none :: ln) os) Ts QU ↔ Ev (putO ln os) Ts QU := Ev0_putO_none
@[simp] theorem Ev_putO_some {ln : List (Option Nat)} {i : Nat} {o : T} {os : List T} : Ev (putO (some i :: ln) (o :: os)) Ts QU ↔ i < Ts.length ∧ Ev (putO ln os) (Ts.set i o) QU := Ev0_putO_some
@[simp] theorem Ev_mCall {c : Cal} {ln : List (Option Nat)} {fs : M (List T)} : Ev (mCall c ln fs) Ts Q ↔ Ev fs Ts fun ts Ts => EvO (c (fzA ln ts)) fun p => Ev (putO ln p.2) Ts fun _ Ts => Q p.1 Ts := Ev0_mCall
@[simp] theorem Ev_mCallP {c : Cal} {ln : List (Option Nat)} {fs : M (List T)} : Ev (mCallP c ln fs) Ts Q ↔ Ev fs Ts fun ts Ts => EvO (c (fzA ln ts)) fun p => (p.1.nofz && nofzL p.2) = true ∧ Ev (putO ln p.2) Ts fun _ Ts => Q p.1 Ts := Ev0_mCallP
@[simp] theorem Ev_mGive {c : Cal} {fa : M T} : Ev (mGive c fa) Ts Q ↔ Ev fa Ts fun t Ts => EvO (c [t]) fun p => Q p.1 Ts := Ev0_mGive
@[simp] theorem Ev_mMake {c : Cal} {cls : Str} {ln : List (Option Nat)} {fs : M (List T)} : Ev (mMake c cls ln fs) Ts Q ↔ Ev fs Ts fun ts Ts => EvO (c (.nd (.ins true cls []) [] :: fzA ln ts)) fun p => ∃ s, p = (.non, [s]) ∧ Q s Ts := Ev0_mMake
@[simp] theorem Ev_mIns {cls m : Str} {fa : M T} : Ev (mIns cls m fa) Ts Q ↔ Ev fa Ts fun t Ts => EvO (isIns cls m t) fun t => Q t Ts := Ev0_mIns
@[simp] theorem Ev_mNoP {q : Option Int → List T → Prop} : Ev mNoP Ts q ↔ q none Ts := Ev0_mNoP
@[simp] theorem Ev_mPt {q : Option Int → List T → Prop} {fa : M T} : Ev (mPt fa) Ts q ↔ Ev fa Ts fun t Ts => EvO (iOf t) fun i => q (some i) Ts := Ev0_mPt
@[simp] theorem Ev_mSl {f : T → Option Int → Option Int → Option T} {fa : M T} {fl fh : M (Option Int)} : Ev (mSl f fa fl fh) Ts Q ↔ Ev fa Ts fun t Ts => Ev fl Ts fun l Ts => Ev fh Ts fun h Ts => EvO (f t l h) fun r => Q r Ts := Ev0_mSl
@[simp] theorem Ev_mHere {i : Nat} : Ev (mHere i) Ts QN ↔ (slot Ts i).live = true ∧ QN [] Ts := Ev0_mHere
@[simp] theorem Ev_mStepL {i : Nat} {mp : M (List Nat)} {fk : M T} : Ev (mStepL i mp fk) Ts QN ↔ Ev mp Ts fun p Ts => Ev fk Ts fun k Ts => EvO ((subT p (slot Ts i)).bind fun n => stepL n k) fun j => QN (p ++ [j]) Ts := Ev0_mStepL
@[simp] theorem Ev_mStepF {i : Nat} {mp : M (List Nat)} {c f : Str} : Ev (mStepF i c f mp) Ts QN ↔ Ev mp Ts fun p Ts => EvO ((subT p (slot Ts i)).bind fun n => stepF c f n) fun j => QN (p ++ [j]) Ts := Ev0_mStepF
@[simp] theorem Ev_mMut {i : Nat} {mp : M (List Nat)} {ck : T → Bool} {fs : M (List T)} {f : T → List T → Option (T × T)} : Ev (mMut i mp ck fs f) Ts Q ↔ Ev mp Ts fun p Ts => EvO (subT p (slot Ts i)) fun n => ck n = true ∧ Ev fs Ts fun ts Ts => EvO (subT p (slot Ts i)) fun n => n.ownNd = true ∧ EvO (f n ts) fun r => Q r.1 (Ts.set i (setT p (slot Ts i) r.2)) := Ev0_mMut
@[simp] theorem Ev_mSetI {i : Nat} {mp : M (List Nat)} {fk fa : M T} : Ev (mSetI i mp fk fa) Ts QF ↔ Ev fa Ts fun v Ts => Ev mp Ts fun p Ts => Ev fk Ts fun k Ts => Ev (wr i p k v) Ts QF := Ev0_mSetI
@[simp] theorem Ev_wr {i : Nat} {p : List Nat} {k v : T} : Ev (wr i p k v) Ts QF ↔ EvO (subT p (slot Ts i)) fun n => n.ownNd = true ∧ EvO (fSt n [k, v]) fun r => QF .nx (Ts.set i (setT p (slot Ts i) r.2)) := Ev0_wr
@[simp] theorem Ev_mSetP {i j : Nat} {mp : M (List Nat)} {fk fa : M T} : Ev (mSetP i mp fk j fa) Ts QF ↔ Ev fa Ts fun t Ts => ∃ v w, t = .nd .tup [v, w] ∧ v.imm = true ∧ w.imm = true ∧ Ev mp Ts fun p Ts => Ev fk Ts fun k Ts => Ev (wr i p k v) Ts fun _ Ts => j < Ts.length ∧ QF .nx (Ts.set j w) := Ev0_mSetP
@[simp] theorem Ev_mSetF {i : Nat} {mp : M (List Nat)} {cls f : Str} {fa : M T} : Ev (mSetF i mp cls f fa) Ts QF ↔ Ev fa Ts fun v Ts => Ev mp Ts fun p Ts => EvO (subT p (slot Ts i)) fun n => n.ownNd = true ∧ EvO (fFl cls f n [v]) fun r => QF .nx (Ts.set i (setT p (slot Ts i) r.2)) := Ev0_mSetF
@[simp] theorem Ev_mLc {mi : M (List T)} {m : T → M Unit} {tt : M Bool} {te : M T} {vs : List Nat} : Ev (mLc mi m tt te vs) Ts Q ↔ Ev mi Ts fun items Ts => Ev (lcRun m tt te vs items) Ts Q := Ev0_mLc
@[simp] theorem Ev_mLc2 {mi mi1 : M (List T)} {m m1 : T → M Unit} {tt : M Bool} {te : M T} {vs vs1 : List Nat} : Ev (mLc2 mi m mi1 m1 tt te vs vs1) Ts Q ↔ Ev mi Ts fun items Ts => Ev (lc2Run m mi1 m1 tt te vs vs1 items) Ts Q := Ev0_mLc2
@[simp] theorem outO_rt {io : List Nat} {r : T} {Ts : List T} {Q : T × List T → Prop} : outO io (.rt r) Ts Q = Q (r, io.map (slot Ts)) := outO0_rt
@[simp] theorem outO_nx {io : List Nat} {Ts : List T} {Q : T × List T → Prop} : outO io .nx Ts Q = Q (.non, io.map (slot Ts)) := outO0_nx
end
section
variable {α : Type}
theorem loop_inv {m : T → M Unit} {f : M Fl} {enc : α → T} {xs : List α} {Ts : List T} {Q : Fl → List T → Prop} (Inv : List α → List T → Prop) (h0 : Inv [] Ts)
    (hb : ∀ pre x post, xs = pre ++ x :: post → ∀ Ts, Inv pre Ts → Ev (m (enc x)) Ts fun _ Ts => Ev f Ts fun fl Ts => fl.turn (Inn (Inv (pre ++ [x])) Ts) fun o => Q o Ts)
    (hq : ∀ Ts, Inv xs Ts → Q .nx Ts) : Ev (loopM m f (xs.map enc)) Ts Q := loop0_inv Inv h0 hb hq
theorem lc_pure {m : T → M Unit} {tt : M Bool} {te : M T} {vs : List Nat} {enc : α → T} {xs : List α} {Ts : List T} {Q : T → List T → Prop} (p : α → Bool) (g : α → T)
    (hv : vs.all (fun i => hidOk (slot Ts i)) = true) (hl : xs.length ≤ sizeLine)
    (hb : ∀ x ∈ xs, Ev (m (enc x)) (wipeT Ts vs) fun _ Ts1 => Ev tt Ts1 fun b Ts1 => b = p x ∧ if b = true then (Ev te Ts1 fun r Ts1 => r = g x ∧ wipeT Ts1 vs = wipeT Ts vs) else wipeT Ts1 vs = wipeT Ts vs)
    (hq : Q (.nd (.lst true) ((xs.filter p).map g)) (rest Ts (wipeT Ts vs) vs)) : Ev (lcRun m tt te vs (xs.map enc)) Ts Q := lc0_pure p g hv hl hb hq
theorem lc2_inv {m : T → M Unit} {mi1 : M (List T)} {m1 : T → M Unit} {tt : M Bool} {te : M T} {vs vs1 : List Nat} {enc : α → T} {xs : List α} {Ts : List T} {Q : T → List T → Prop} (Inv : List α → List T → List T → Prop)
    (hv : vs.all (fun i => hidOk (slot Ts i)) = true) (h0 : Inv [] [] (wipeT Ts vs))
    (hb : ∀ pre x post, xs = pre ++ x :: post → ∀ acc Ts, Inv pre acc Ts → Ev (m (enc x)) Ts fun _ Ts => Ev mi1 Ts fun items Ts => Ev (lcM m1 tt te vs1 items acc) (wipeT Ts vs1) fun acc' Ts => Inn (Inv (pre ++ [x]) acc') (wipeT Ts vs))
    (hq : ∀ acc Ts', Inv xs acc Ts' → Q (.nd (.lst true) acc) (rest Ts Ts' vs)) : Ev (lc2Run m mi1 m1 tt te vs vs1 (xs.map enc)) Ts Q := lc20_inv Inv hv h0 hb hq
theorem lcM_pure {m : T → M Unit} {tt : M Bool} {te : M T} {vs : List Nat} {enc : α → T} {xs : List α} {W : List T} {acc : List T} {Q : List T → List T → Prop} (p : α → Bool) (g : α → T)
    (hl : acc.length + xs.length ≤ sizeLine)
    (hb : ∀ x ∈ xs, Ev (m (enc x)) W fun _ Ts1 => Ev tt Ts1 fun b Ts1 => b = p x ∧ if b = true then (Ev te Ts1 fun r Ts1 => r = g x ∧ wipeT Ts1 vs = W) else wipeT Ts1 vs = W)
    (hq : Q (acc ++ (xs.filter p).map g) W) : Ev (lcM m tt te vs (xs.map enc) acc) W Q := lcM0_pure p g hl hb hq
theorem EvO_runB {np n : Nat} {io : List Nat} {f : M Fl} {ts : List T} {Q : T × List T → Prop} (hl : ts.length = np) (h : Ev f (ts ++ List.replicate (n - np) .dead) fun fl Ts => outO io fl Ts Q) : EvO (runB np n io f ts) Q := EvO0_runB hl h
end
end MI
namespace MI
open PySem L2
@[simp] theorem fAdd_int {i j : Int} : fAdd (.int i) (.int j) = some (.int (i + j)) := rfl
@[simp] theorem fSub_int {i j : Int} : fII iSub (.int i) (.int j) = some (.int (i - j)) := rfl
@[simp] theorem fIIAdd_int {i j : Int} : fII iAdd (.int i) (.int j) = some (.int (i + j)) := rfl
@[simp] theorem fXor_int {i j : Int} : fII iXor (.int i) (.int j) = some (.int (Builtin.bitXor i j)) := rfl
@[simp] theorem fNeg_int {i : Int} : fNeg (.int i) = some (.int (-i)) := rfl
theorem fMul_int {i j : Int} (h : i.natAbs.log2 + j.natAbs.log2 < 1000000) : fMul (.int i) (.int j) = some (.int (i * j)) := by
  simp [fMul, oe2, fII, iMul, h]
theorem fMod_int {i j : Int} (h : 0 < j) : fII iMod (.int i) (.int j) = some (.int (i % j)) := by simp [fII, iMod, h]
theorem fDiv_int {i j : Int} (h : 0 < j ∧ j.natAbs.log2 < 9000) : fII iDiv (.int i) (.int j) = some (.int (i / j)) := by simp [fII, iDiv, h]
theorem fDiv_int' {i j : Int} (h : 0 < j) (h1 : j < 1073741824) : fII iDiv (.int i) (.int j) = some (.int (i / j)) := by
  refine fDiv_int ⟨h, ?_⟩
  by_cases h0 : j.natAbs = 0
  · omega
  · exact (Nat.log2_lt h0).mpr (Nat.lt_of_lt_of_le (show j.natAbs < 2 ^ 30 by omega) (Nat.pow_le_pow_right (by omega) (by omega)))
theorem log2_lt_of {n k : Nat} (hk : 0 < k) (h : n < 2 ^ k) : n.log2 < k := by
  by_cases h0 : n = 0
  · subst h0; simpa using hk
  · exact (Nat.log2_lt h0).mpr h
theorem mul_small {i j : Int} (hi : i.natAbs ≤ 10 ^ 100) (hj : j.natAbs ≤ 10 ^ 100) : i.natAbs.log2 + j.natAbs.log2 < 1000000 := by
  have h1 : i.natAbs.log2 < 400 := log2_lt_of (by omega) (Nat.lt_of_le_of_lt hi (by decide +kernel))
  have h2 : j.natAbs.log2 < 400 := log2_lt_of (by omega) (Nat.lt_of_le_of_lt hj (by decide +kernel))
  omega
@[simp] theorem fIx_lst {o : Bool} {ts : List T} {i : Int} : fIx (.nd (.lst o) ts) (.int i) = atI ts i := by
  simp [fIx, oe2, fIxS, kids, fIxT, fIxK]; cases atI ts i <;> rfl
@[simp] theorem fIx_tup {ts : List T} {i : Int} : fIx (.nd .tup ts) (.int i) = atI ts i := by
  simp [fIx, oe2, fIxS, kids, fIxT, fIxK]; cases atI ts i <;> rfl
@[simp] theorem fIx_scr {ts : List T} {i : Int} : fIx (.nd .scr ts) (.int i) = atI ts i := by
  simp [fIx, oe2, fIxS, kids, fIxT, fIxK]; cases atI ts i <;> rfl
theorem ixN_of {n : Nat} {i : Int} (h0 : 0 ≤ i) (h1 : i < n) : ixN n i = some i.toNat := by
  unfold ixN; rw [if_pos h0, if_pos h1]
@[simp] theorem ixN_lit0 {n : Nat} : ixN (n + 1) 0 = some 0 := ixN_of (by omega) (by omega)
@[simp] theorem ixN_lit1 {n : Nat} : ixN (n + 1 + 1) 1 = some 1 := ixN_of (by omega) (by omega)
@[simp] theorem ixN_lit2 {n : Nat} : ixN (n + 1 + 1 + 1) 2 = some 2 := ixN_of (by omega) (by omega)
theorem atI_of {α : Type} {xs : List α} {i : Int} {k : Nat} (h : i = (k : Int)) (hk : k < xs.length) : atI xs i = some xs[k] := by
  subst h
  unfold atI
  rw [ixN_of (by omega) (by omega)]
  simp [hk]
@[simp] theorem atI_0 {α : Type} {x : α} {xs : List α} : atI (x :: xs) 0 = some x := by
  rw [atI_of (i := 0) (k := 0) rfl (by simp)]; rfl
@[simp] theorem atI_1 {α : Type} {x y : α} {xs : List α} : atI (x :: y :: xs) 1 = some y := by
  rw [atI_of (i := 1) (k := 1) rfl (by simp)]; rfl
@[simp] theorem atI_2 {α : Type} {x y z : α} {xs : List α} : atI (x :: y :: z :: xs) 2 = some z := by
  rw [atI_of (i := 2) (k := 2) rfl (by simp)]; rfl
@[simp] theorem fGt_int {i j : Int} : fGt (.int i) (.int j) = some (.bl (decide (j < i))) := rfl
@[simp] theorem fGe_int {i j : Int} : fGe (.int i) (.int j) = some (.bl (decide (j ≤ i))) := rfl
@[simp] theorem fLt_int {i j : Int} : fLt (.int i) (.int j) = some (.bl (decide (i < j))) := rfl
@[simp] theorem fLe_int {i j : Int} : fLe (.int i) (.int j) = some (.bl (decide (i ≤ j))) := rfl
@[simp] theorem fInt_int {i : Int} : fInt (.int i) = some (.int i) := rfl
@[simp] theorem c1_one {f : T → Option T} {t : T} : c1 f [t] = f t := rfl
@[simp] theorem c2_two {f : T → T → Option T} {t u : T} : c2 f [t, u] = f t u := rfl
theorem fDivmod_int {i j : Int} (h : 0 < j ∧ j < 1073741824) : fDivmod (.int i) (.int j) = some (.nd .tup [.int (i / j), .int (i % j)]) := by simp [fDivmod, h]
@[simp] theorem fLen_tup {ts : List T} : fLen (.nd .tup ts) = some (.int ts.length) := rfl
@[simp] theorem fLen_lst {o : Bool} {ts : List T} : fLen (.nd (.lst o) ts) = some (.int ts.length) := rfl
@[simp] theorem fLen_scr {ts : List T} : fLen (.nd .scr ts) = some (.int ts.length) := rfl
@[simp] theorem fSt_lst {ts : List T} {k : Int} {v : T} : fSt (.nd (.lst true) ts) [.int k, v] = (ixN ts.length k).map fun j => (.non, .nd (.lst true) (ts.set j v)) := by
  simp only [fSt]
  cases ixN ts.length k <;> rfl
abbrev jarT (a b c : Int) : T := .nd (.lst true) [.int a, .int b, .int c]
structure JarOk (n : Nat) (a b c : Int) : Prop where
  a0 : 0 ≤ a
  b0 : 0 ≤ b
  b1 : b < 2147483399
  c0 : 0 ≤ c
  c1 : c ≤ n
theorem JarOk.mono {n m : Nat} {a b c : Int} (h : JarOk n a b c) (hm : n ≤ m) : JarOk m a b c := ⟨h.a0, h.b0, h.b1, h.c0, by have := h.c1; omega⟩
theorem dip_spec {n : Nat} {a b c top : Int} {Q : T × List T → Prop} (hj : JarOk n a b c) (hn : n ≤ 1000000000) (h0 : 0 < top) (h1 : top < 1073741824)
    (k : ∀ d a' b' c', 0 ≤ d → d < top → JarOk (n + 1) a' b' c' → Q (.int d, [jarT a' b' c'])) : EvO (c__law_dip [jarT a b c, .int top]) Q := by
  obtain ⟨a0, b0, b1, c0, c1⟩ := hj
  refine EvO_runB rfl ?_
  simp [m__law_dip]
  split
  · simp [fDivmod_int ⟨h0, h1⟩]
    exact k _ _ _ _ (Int.emod_nonneg _ (by omega)) (Int.emod_lt_of_pos _ h0) ⟨Int.ediv_nonneg a0 (by omega), b0, b1, by omega, by omega⟩
  · rw [fMul_int (mul_small (by omega) (by decide))]
    simp
    rw [fMul_int (mul_small (by decide) (by omega))]
    simp [fMod_int, fDiv_int', h0]
    exact k _ _ _ _ (Int.emod_nonneg _ (by omega)) (Int.emod_lt_of_pos _ h0) ⟨a0, Int.emod_nonneg _ (by omega), Int.emod_lt_of_pos _ (by omega), by omega, by omega⟩
theorem one_of_spec {n : Nat} {a b c : Int} {o : Bool} {ts : List T} {Q : T × List T → Prop} (hj : JarOk n a b c) (hn : n ≤ 1000000000) (h0 : 0 < ts.length) (h1 : ts.length < 1073741824) (hi : immL ts = true)
    (k : ∀ (i : Nat) (h : i < ts.length) a' b' c', JarOk (n + 1) a' b' c' → Q (ts[i], [jarT a' b' c'])) : EvO (c__law_one_of [jarT a b c, .nd (.lst o) ts]) Q := by
  refine EvO_runB rfl ?_
  simp [m__law_one_of]
  refine dip_spec hj hn (by omega) (by omega) fun d a' b' c' d0 d1 hj' => ?_
  simp
  have hd : d.toNat < ts.length := by omega
  rw [atI_of (k := d.toNat) (by omega) hd]
  simp
  exact ⟨immL_all.mp hi _ (List.getElem_mem _), k _ hd _ _ _ hj'⟩
end MI
namespace MI
open PySem L2
def nameB (s : Str) : Bool := decide (1 ≤ s.length) && (decide (s.length ≤ 8) && s.cps.toList.all fun c => decide (97 ≤ c) && decide (c ≤ 122))
inductive Kind where
  | bits | plain | dial (m : Int)
deriving DecidableEq
def Kind.t : Kind → T
  | .bits => .str "bits"
  | .plain => .str "plain"
  | .dial m => .int m
structure Col where
  name : Str
  sums : List Str
  data : List (Str × Str)
deriving DecidableEq
inductive Cell where
  | sum (s : Str) | datum (n : Nat)
deriving DecidableEq
def Cell.t : Cell → T
  | .sum s => .nd .tup [.str "sum", .str s]
  | .datum n => .nd .tup [.str "datum", .int n]
def pairT (p : Str × Str) : T := .nd .tup [.str p.1, .str p.2]
def Col.l (c : Col) : T := .nd (.lst false) [.str c.name, .nd (.lst false) (c.sums.map T.str), .nd (.lst false) (c.data.map pairT)]
def Col.t (c : Col) : T := .nd .tup [.str c.name, .nd .tup (c.sums.map T.str), .nd .tup (c.data.map pairT)]
structure Chart where
  kind : Kind
  cols : List Col
def Chart.l (h : Chart) : T := .nd (.lst false) [h.kind.t, .nd (.lst false) (h.cols.map Col.l)]
def partsFrom : Nat → List Col → List (List Cell)
  | _, [] => []
  | n, c :: cs => (c.sums.map Cell.sum ++ (List.range' n c.data.length).map Cell.datum) :: partsFrom (n + c.data.length) cs
def Chart.parts (h : Chart) : List (List Cell) := partsFrom 0 h.cols
def Chart.cells (h : Chart) : List Cell := h.parts.flatten
def Chart.sums (h : Chart) : List Str := h.cols.flatMap Col.sums
def Chart.data (h : Chart) : List (Str × Str) := h.cols.flatMap Col.data
def Chart.names (h : Chart) : List Str := h.cols.map Col.name
def cellsT (cs : List Cell) : T := .nd .tup (cs.map Cell.t)
def Chart.tab (h : Chart) : T := .nd (.ins false "Table" ["kind", "columns", "held"]) [h.kind.t, .nd .tup (h.cols.map Col.t), .nd .tup (h.parts.map cellsT)]
@[simp] theorem live_kind {k : Kind} : k.t.live = true := by cases k <;> rfl
@[simp] theorem imm_kind {k : Kind} : k.t.imm = true := by cases k <;> simp [Kind.t]
@[simp] theorem fz_kind {k : Kind} : k.t.fz = k.t := T.fz_imm _ imm_kind
@[simp] theorem imm_cell {k : Cell} : k.t.imm = true := by cases k <;> simp [Cell.t]
@[simp] theorem live_cell {k : Cell} : k.t.live = true := by cases k <;> rfl
@[simp] theorem fz_cell {k : Cell} : k.t.fz = k.t := T.fz_imm _ imm_cell
@[simp] theorem imm_pairT {p : Str × Str} : (pairT p).imm = true := by simp [pairT]
@[simp] theorem live_pairT {p : Str × Str} : (pairT p).live = true := rfl
@[simp] theorem fz_pairT {p : Str × Str} : (pairT p).fz = pairT p := T.fz_imm _ imm_pairT
@[simp] theorem immL_pairs {l : List (Str × Str)} : immL (l.map pairT) = true := immL_map (fun _ => imm_pairT) l
@[simp] theorem immL_cells {l : List Cell} : immL (l.map Cell.t) = true := immL_map (fun _ => imm_cell) l
@[simp] theorem fzL_pairs {l : List (Str × Str)} : fzL (l.map pairT) = l.map pairT := fzL_imm _ immL_pairs
@[simp] theorem fzL_cells {l : List Cell} : fzL (l.map Cell.t) = l.map Cell.t := fzL_imm _ immL_cells
@[simp] theorem imm_cellsT {l : List Cell} : (cellsT l).imm = true := by simp [cellsT]
@[simp] theorem live_cellsT {l : List Cell} : (cellsT l).live = true := rfl
@[simp] theorem fz_cellsT {l : List Cell} : (cellsT l).fz = cellsT l := T.fz_imm _ imm_cellsT
@[simp] theorem immL_cellsT {l : List (List Cell)} : immL (l.map cellsT) = true := immL_map (fun _ => imm_cellsT) l
@[simp] theorem fzL_cellsT {l : List (List Cell)} : fzL (l.map cellsT) = l.map cellsT := fzL_imm _ immL_cellsT
@[simp] theorem imm_colL {c : Col} : c.l.imm = true := by simp [Col.l]
@[simp] theorem live_colL {c : Col} : c.l.live = true := rfl
@[simp] theorem fz_colL {c : Col} : c.l.fz = c.l := T.fz_imm _ imm_colL
@[simp] theorem immL_colL {l : List Col} : immL (l.map Col.l) = true := immL_map (fun _ => imm_colL) l
@[simp] theorem fzL_colL {l : List Col} : fzL (l.map Col.l) = l.map Col.l := fzL_imm _ immL_colL
@[simp] theorem imm_colT {c : Col} : c.t.imm = true := by simp [Col.t]
@[simp] theorem live_colT {c : Col} : c.t.live = true := rfl
@[simp] theorem fz_colT {c : Col} : c.t.fz = c.t := T.fz_imm _ imm_colT
@[simp] theorem immL_colT {l : List Col} : immL (l.map Col.t) = true := immL_map (fun _ => imm_colT) l
@[simp] theorem fzL_colT {l : List Col} : fzL (l.map Col.t) = l.map Col.t := fzL_imm _ immL_colT
@[simp] theorem imm_chart {h : Chart} : h.l.imm = true := by simp [Chart.l]
@[simp] theorem live_chart {h : Chart} : h.l.live = true := rfl
@[simp] theorem fz_chart {h : Chart} : h.l.fz = h.l := T.fz_imm _ imm_chart
@[simp] theorem imm_tab {h : Chart} : h.tab.imm = true := by simp [Chart.tab]
@[simp] theorem live_tab {h : Chart} : h.tab.live = true := rfl
@[simp] theorem fz_tab {h : Chart} : h.tab.fz = h.tab := T.fz_imm _ imm_tab
theorem rng1_int {n : Int} (h0 : -4611686018427387904 ≤ n) (h1 : n < 4611686018427387904) : rng1 [.int n] = some (rangeT 0 n) := by
  show (if _ then _ else _) = _; rw [if_pos ⟨by omega, by omega⟩]
def natT (n : Nat) : T := .int n
@[simp] theorem imm_natT {n : Nat} : (natT n).imm = true := by simp [natT]
@[simp] theorem live_natT {n : Nat} : (natT n).live = true := rfl
@[simp] theorem immL_natT {l : List Nat} : immL (l.map natT) = true := immL_map (fun _ => imm_natT) l
theorem rangeT_zero {n : Int} : rangeT 0 n = (List.range n.toNat).map natT := by
  unfold rangeT
  rw [show (n - 0).toNat = n.toNat by omega]
  exact List.map_congr_left fun i _ => by simp [natT]
theorem rangeT_nat {a b : Nat} : rangeT a b = (List.range' a (b - a)).map natT := by
  unfold rangeT
  rw [show ((b : Int) - (a : Int)).toNat = b - a by omega, List.range'_eq_map_range, List.map_map]
  exact List.map_congr_left fun i _ => by simp [natT]
@[simp] theorem isLst_lst {o : Bool} {ts : List T} : isLst (.nd (.lst o) ts) = true := rfl
@[simp] theorem fAppend_lst {ts : List T} {v : T} : fAppend (.nd (.lst true) ts) [v] = if ts.length < sizeLine then some (.non, .nd (.lst true) (ts ++ [v])) else none := rfl
@[simp] theorem fExtend_tup {ts us : List T} : fExtend (.nd (.lst true) ts) [.nd .tup us] = if ts.length + us.length ≤ sizeLine then some (.non, .nd (.lst true) (ts ++ us)) else none := rfl
@[simp] theorem fExtend_lst {ts us : List T} : fExtend (.nd (.lst true) ts) [.nd (.lst true) us] = if ts.length + us.length ≤ sizeLine then some (.non, .nd (.lst true) (ts ++ us)) else none := rfl
@[simp] theorem fAdd_lst {o p : Bool} {ts us : List T} : fAdd (.nd (.lst o) ts) (.nd (.lst p) us) = if immL ts = true ∧ immL us = true then (if ts.length + us.length ≤ sizeLine then some (.nd (.lst true) (ts ++ us)) else none) else none := by
  by_cases h1 : immL ts = true <;> by_cases h2 : immL us = true <;> simp [fAdd, oe2, fII, fAddS, fAddL, fAddT, kLe, kT, h1, h2]
  by_cases h : ts.length + us.length ≤ 16777216 <;> simp [h]
@[simp] theorem fAdd_tup {ts us : List T} : fAdd (.nd .tup ts) (.nd .tup us) = if immL ts = true ∧ immL us = true then (if ts.length + us.length ≤ sizeLine then some (.nd .tup (ts ++ us)) else none) else none := by
  by_cases h1 : immL ts = true <;> by_cases h2 : immL us = true <;> simp [fAdd, oe2, fII, fAddS, fAddL, fAddT, kLe, kT, h1, h2]
@[simp] theorem fTuple_lst {o : Bool} {ts : List T} : fTuple (.nd (.lst o) ts) = if immL ts = true then some (.nd .tup ts) else none := by
  simp only [fTuple, kidsI_lst']; split <;> rfl
@[simp] theorem fTuple_tup {ts : List T} : fTuple (.nd .tup ts) = if immL ts = true then some (.nd .tup ts) else none := by
  simp only [fTuple, kidsI_tup']; split <;> rfl
@[simp] theorem fList_lst {o : Bool} {ts : List T} : fListU (.nd (.lst o) ts) = if immL ts = true then some (.nd (.lst true) ts) else none := by
  by_cases h : immL ts = true <;> simp [fListU, fList, fListK, h]
@[simp] theorem fList_tup {ts : List T} : fListU (.nd .tup ts) = if immL ts = true then some (.nd (.lst true) ts) else none := by
  by_cases h : immL ts = true <;> simp [fListU, fList, fListK, h]
@[simp] theorem eqT_str {x y : Str} : eqT (.str x) (.str y) = decide (x = y) := by
  simp [eqT, toD, PyData.eqv]; rfl
@[simp] theorem eqT_int {x y : Int} : eqT (.int x) (.int y) = decide (x = y) := by
  simp [eqT, toD, PyData.eqv]; rfl
@[simp] theorem eqT_int_str {x : Int} {y : Str} : eqT (.int x) (.str y) = false := by simp [eqT, toD, PyData.eqv]
@[simp] theorem eqT_str_int {x : Str} {y : Int} : eqT (.str x) (.int y) = false := by simp [eqT, toD, PyData.eqv]
@[simp] theorem okD_str {n : Nat} {s : Str} : okD n (.str s) = okS s := by cases n <;> simp [okD]
@[simp] theorem okD_int {n : Nat} {s : Int} : okD n (.int s) = true := by cases n <;> simp [okD]
@[simp] theorem okD_non {n : Nat} : okD n .non = true := by cases n <;> simp [okD]
@[simp] theorem okD_bl {n : Nat} {b : Bool} : okD n (.bl b) = true := by cases n <;> simp [okD]
theorem fEq_ok {a b : T} (ha : okD 60 a = true) (hb : okD 60 b = true) : fEq a b = some (.bl (eqT a b)) := by simp [fEq, ha, hb]
theorem fNe_ok {a b : T} (ha : okD 60 a = true) (hb : okD 60 b = true) : fNe a b = some (.bl (!eqT a b)) := by simp [fNe, ha, hb]
theorem nameB_iff {s : Str} : nameB s = true ↔ 1 ≤ s.length ∧ s.length ≤ 8 ∧ ∀ c ∈ s.cps.toList, 97 ≤ c ∧ c ≤ 122 := by
  simp only [nameB, Bool.and_eq_true, decide_eq_true_eq, List.all_eq_true]
@[simp] theorem filter_tt {α : Type} {l : List α} : l.filter (fun _ => true) = l := List.filter_eq_self.mpr fun _ _ => rfl
theorem okS_name {s : Str} (h : nameB s = true) : okS s = true := by
  have h := (nameB_iff.mp h).2.2
  unfold okS
  rw [List.all_eq_true]
  intro c hc
  have := h c hc
  rw [Nat.blt_eq]; omega
theorem name_len {s : Str} (h : nameB s = true) : s.length ≤ 8 := (nameB_iff.mp h).2.1
theorem boolsOf_map {α : Type} (f : α → Bool) : ∀ xs : List α, boolsOf (xs.map fun x => .bl (f x)) = some (xs.map f)
  | [] => rfl
  | x :: xs => by simp [boolsOf, boolsOf_map f xs]
theorem fBools_map {α : Type} {o : Bool} (h : List Bool → Bool) (f : α → Bool) (xs : List α) : fBools h (.nd (.lst o) (xs.map fun x => .bl (f x))) = some (.bl (h (xs.map f))) := by
  simp [fBools, kA, boolsOf_map]
end MI
namespace MI
open PySem L2
def labelMenu : List Str := ["p", "q", "r", "s", "t", "u", "kind", "column", "sum", "datum", "bits", "plain", "a", "b", "ab", "zzzzzzzz", "rr", "none"]
def labelsF (s g : Nat) : List Str := (List.range 18).map fun k => labelMenu.getD ((s + g * k) % 18) Str.empty
def nodupB : List Str → Bool
  | [] => true
  | x :: xs => !(xs.any fun y => decide (y = x)) && nodupB xs
theorem nodup_of_B : ∀ {xs : List Str}, nodupB xs = true → xs.Nodup
  | [], _ => List.nodup_nil
  | x :: xs, h => by
    simp only [nodupB, Bool.and_eq_true, Bool.not_eq_true', List.any_eq_false, decide_eq_true_eq] at h
    exact List.nodup_cons.mpr ⟨fun hm => h.1 x hm rfl, nodup_of_B h.2⟩
theorem labels_all : ∀ s ∈ List.range 18, ∀ g ∈ [1, 5, 7, 11], (nodupB (labelsF s g) && (labelsF s g).all nameB) = true := by decide +kernel
structure LabelsOk (ls : List Str) : Prop where
  len : ls.length = 18
  nd : ls.Nodup
  nm : ∀ s ∈ ls, nameB s = true
theorem labels_spec {n : Nat} {a b c : Int} {Q : T × List T → Prop} (hj : JarOk n a b c) (hn : n ≤ 100000000)
    (k : ∀ (ls : List Str) a' b' c', LabelsOk ls → JarOk (n + 2) a' b' c' → Q (.nd (.lst true) (ls.map T.str), [jarT a' b' c'])) : EvO (c__law_labels [jarT a b c]) Q := by
  refine EvO_runB rfl ?_
  simp [m__law_labels]
  refine dip_spec hj (by omega) (by omega) (by omega) fun s a1 b1 c1 s0 s1 hj1 => ?_
  simp
  refine one_of_spec hj1 (by omega) (by decide) (by decide) (by simp) fun i hi a2 b2 c2 hj2 => ?_
  obtain ⟨g, hg, eg⟩ : ∃ g : Nat, g ∈ [1, 5, 7, 11] ∧ [T.int 1, T.int 5, T.int 7, T.int 11][i] = T.int g := by
    have hi' : i < 4 := hi
    match i, hi' with
    | 0, _ => exact ⟨1, by simp, rfl⟩
    | 1, _ => exact ⟨5, by simp, rfl⟩
    | 2, _ => exact ⟨7, by simp, rfl⟩
    | 3, _ => exact ⟨11, by simp, rfl⟩
  rw [eg]
  simp [rng1_int, rangeT_zero]
  have hall := labels_all s.toNat (List.mem_range.mpr (by omega)) g hg
  simp only [Bool.and_eq_true, List.all_eq_true] at hall
  have hg11 : g ≤ 11 := by simp at hg; omega
  refine loop_inv (fun pre Ts => ∃ u, Ts = [jarT a2 b2 c2, .nd (.lst false) (labelMenu.map T.str), .nd (.lst true) ((pre.map fun k => labelMenu.getD ((s.toNat + g * k) % 18) Str.empty).map T.str), .int s, .int g, u]) ⟨_, rfl⟩ ?_ ?_
  · rintro pre x post e Ts ⟨u, rfl⟩
    have hx : x < 18 := by
      have : x ∈ List.range 18 := by rw [e]; simp
      simpa using this
    have hlen : pre.length < 16777216 := by
      have : (List.range 18).length = pre.length + (post.length + 1) := by rw [e]; simp
      simp at this; omega
    simp [natT]
    rw [fMul_int (mul_small (by omega) (by omega))]
    simp [fMod_int]
    rw [atI_of (k := (s.toNat + g * x) % 18) (by rw [show s = (s.toNat : Int) by omega]; simp) (by simp [labelMenu]; omega)]
    simp [hlen]
    refine Inn.mk ⟨.int x, ?_⟩
    simp [List.getElem?_eq_getElem (show (s.toNat + g * x) % 18 < labelMenu.length by simp [labelMenu]; omega)]
  · rintro Ts ⟨u, rfl⟩
    simp
    refine k (labelsF s.toNat g) _ _ _ ⟨by simp [labelsF], nodup_of_B hall.1, hall.2⟩ hj2
end MI
namespace MI
open PySem L2
def Kind.ok : Kind → Prop
  | .dial m => 3 ≤ m ∧ m ≤ 1000000000
  | _ => True
structure Chart.Wf (h : Chart) : Prop where
  k : h.kind.ok
  c1 : 1 ≤ h.cols.length
  c8 : h.cols.length ≤ 8
  nd : h.names.Nodup
  nm : ∀ s ∈ h.names, nameB s = true
  sd : h.sums.Nodup
  sn : ∀ s ∈ h.sums, nameB s = true
  s1 : 1 ≤ h.sums.length
  s10 : h.sums.length ≤ 10
  d24 : h.data.length ≤ 24
  dp : ∀ p ∈ h.data, p.1 ∈ h.sums ∧ p.2 ∈ h.sums ∧ ltS p.1 p.2 = true
theorem perm_mid {α : Type} (a b : List α) (x : α) : (a ++ [x] ++ b).Perm (a ++ b ++ [x]) := by
  rw [List.append_assoc, List.append_assoc]
  exact (List.perm_append_comm (l₁ := [x]) (l₂ := b)).append_left a
theorem flatMap_set_perm {α β : Type} (f : α → List β) (x : β) (c' : α) : ∀ (cs : List α) (i : Nat) (c : α), cs[i]? = some c → f c' = f c ++ [x] → ((cs.set i c').flatMap f).Perm (cs.flatMap f ++ [x])
  | [], i, c, h, _ => by simp at h
  | d :: cs, 0, c, h, e => by
    simp at h; subst h
    simp only [List.set_cons_zero, List.flatMap_cons, e]
    exact perm_mid _ _ _
  | d :: cs, i + 1, c, h, e => by
    simp only [List.set_cons_succ, List.flatMap_cons, List.append_assoc]
    exact (flatMap_set_perm f x c' cs i c (by simpa using h) e).append_left _
theorem flatMap_set_same {α β : Type} (f : α → List β) (c' : α) : ∀ (cs : List α) (i : Nat) (c : α), cs[i]? = some c → f c' = f c → (cs.set i c').flatMap f = cs.flatMap f
  | [], i, c, h, _ => by simp at h
  | d :: cs, 0, c, h, e => by simp at h; subst h; simp [e]
  | d :: cs, i + 1, c, h, e => by
    simp only [List.set_cons_succ, List.flatMap_cons]
    rw [flatMap_set_same f c' cs i c (by simpa using h) e]
theorem map_set_same {α β : Type} (f : α → β) (c' : α) : ∀ (cs : List α) (i : Nat) (c : α), cs[i]? = some c → f c' = f c → (cs.set i c').map f = cs.map f
  | [], i, c, h, _ => by simp at h
  | d :: cs, 0, c, h, e => by simp at h; subst h; simp [e]
  | d :: cs, i + 1, c, h, e => by
    simp only [List.set_cons_succ, List.map_cons]
    rw [map_set_same f c' cs i c (by simpa using h) e]
def Col.o (c : Col) : T := .nd (.lst true) [.str c.name, .nd (.lst true) (c.sums.map T.str), .nd (.lst true) (c.data.map pairT)]
@[simp] theorem fz_colO {c : Col} : c.o.fz = c.l := by simp [Col.o, Col.l]
@[simp] theorem live_colO {c : Col} : c.o.live = true := rfl
@[simp] theorem imm_colO {c : Col} : c.o.imm = false := by simp [Col.o]
@[simp] theorem fzL_colO {l : List Col} : fzL (l.map Col.o) = l.map Col.l := by simp [fzL_eq]
theorem some_kind_spec {n : Nat} {a b c : Int} {Q : T × List T → Prop} (hj : JarOk n a b c) (hn : n ≤ 100000000)
    (k : ∀ (kd : Kind) a' b' c', kd.ok → JarOk (n + 1) a' b' c' → Q (kd.t, [jarT a' b' c'])) : EvO (c__law_some_kind [jarT a b c]) Q := by
  refine EvO_runB rfl ?_
  simp [m__law_some_kind, fII, iPow]
  refine one_of_spec hj (by omega) (by decide) (by decide) (by simp) fun i hi a2 b2 c2 hj2 => ?_
  have hi' : i < 10 := hi
  simp
  match i, hi' with
  | 0, _ => exact k .bits _ _ _ trivial hj2
  | 1, _ => exact k .plain _ _ _ trivial hj2
  | 2, _ => exact k .bits _ _ _ trivial hj2
  | 3, _ => exact k .plain _ _ _ trivial hj2
  | 4, _ => exact k (.dial 3) _ _ _ ⟨by decide, by decide⟩ hj2
  | 5, _ => exact k (.dial 4) _ _ _ ⟨by decide, by decide⟩ hj2
  | 6, _ => exact k (.dial 12) _ _ _ ⟨by decide, by decide⟩ hj2
  | 7, _ => exact k (.dial 9) _ _ _ ⟨by decide, by decide⟩ hj2
  | 8, _ => exact k (.dial 1000000000) _ _ _ ⟨by decide, by decide⟩ hj2
  | 9, _ => exact k (.dial 7) _ _ _ ⟨by decide, by decide⟩ hj2
theorem fCut_lst {o : Bool} {ts : List T} {lo hi : Option Int} (h : immL ts = true) : fCut (.nd (.lst o) ts) lo hi = some (.nd (.lst true) (cutT ts lo hi)) := by simp [fCut, h]
theorem fCut_scr {ts : List T} {lo hi : Option Int} (h : immL ts = true) : fCut (.nd .scr ts) lo hi = some (.nd (.lst true) (cutT ts lo hi)) := by simp [fCut, h]
theorem cutT_map {α β : Type} (f : α → β) (xs : List α) (lo hi : Option Int) : cutT (xs.map f) lo hi = (cutT xs lo hi).map f := by simp [cutT, List.map_take, List.map_drop]
theorem cutT_nat {α : Type} (xs : List α) (i j : Nat) (hi : i ≤ xs.length) (hj : j ≤ xs.length) : cutT xs (some i) (some j) = (xs.drop i).take (j - i) := by
  simp only [cutT, HT.sIx_nat]
  rw [Nat.min_eq_left hi, Nat.min_eq_left hj]
theorem ltS_irrefl {s : Str} : ltS s s = false := by simp [ltS]
theorem ltS_total {s t : Str} (h : s ≠ t) : ltS s t = true ∨ ltS t s = true := by
  unfold ltS
  simp only [decide_eq_true_eq]
  by_cases h1 : s.cps.toList < t.cps.toList
  · exact .inl h1
  · by_cases h2 : t.cps.toList < s.cps.toList
    · exact .inr h2
    · have h3 : s.cps.toList = t.cps.toList := List.le_antisymm (List.not_lt.mp h2) (List.not_lt.mp h1)
      exact absurd (by cases s; cases t; congr 1; exact Array.ext' h3) h
end MI
namespace MI
open PySem L2
theorem ltS_asymm {s t : Str} (h : ltS s t = true) : ltS t s = false := by
  unfold ltS at *
  simp only [decide_eq_true_eq, decide_eq_false_iff_not] at *
  exact fun h' => List.lt_irrefl (α := Nat) _ (List.lt_trans h h')
theorem chart_spec {n : Nat} {a b c : Int} {most sm dm : Nat} {Q : T × List T → Prop} (hj : JarOk n a b c) (hn : n ≤ 10000000) (m1 : 1 ≤ most) (m8 : most ≤ 8) (s1 : 1 ≤ sm) (s10 : sm ≤ 10) (d24 : dm ≤ 24)
    (k : ∀ (h : Chart) a' b' c', h.Wf → h.cols.length ≤ most → h.sums.length ≤ sm → h.data.length ≤ dm → JarOk (n + 200) a' b' c' → Q (.nd (.lst true) [h.kind.t, .nd (.lst false) (h.cols.map Col.l)], [jarT a' b' c'])) :
    EvO (c__law_chart [jarT a b c, .int most, .int sm, .int dm]) Q := by
  refine EvO_runB rfl ?_
  simp [m__law_chart]
  refine labels_spec hj (by omega) fun ls a1 b1 c1 hls hj1 => ?_
  simp
  refine dip_spec hj1 (by omega) (by omega) (by omega) fun mn a2 b2 c2 mn0 mn1 hj2 => ?_
  simp
  refine dip_spec hj2 (by omega) (by omega) (by omega) fun sn a3 b3 c3 sn0 sn1 hj3 => ?_
  simp
  obtain ⟨mn, rfl⟩ : ∃ m : Nat, mn = m := ⟨mn.toNat, by omega⟩
  obtain ⟨sn, rfl⟩ : ∃ m : Nat, sn = m := ⟨sn.toNat, by omega⟩
  have hll := hls.len
  rw [fCut_lst (by simp), show (9 + (sn : Int)) = ((9 + sn : Nat) : Int) by omega, show (8 : Int) = ((8 : Nat) : Int) from rfl, cutT_map, cutT_nat _ _ _ (by omega) (by omega)]
  generalize htg : (ls.drop 8).take (9 + sn - 8) = tags
  have htl : tags.length = sn + 1 := by rw [← htg, List.length_take, List.length_drop]; omega
  have htn : tags.Nodup := by rw [← htg]; exact (hls.nd.sublist (List.drop_sublist _ _)).sublist (List.take_sublist _ _)
  have htm : ∀ s ∈ tags, nameB s = true := fun s hs => hls.nm s (List.mem_of_mem_drop (List.mem_of_mem_take (by rw [htg]; exact hs)))
  simp
  rw [rng1_int (by omega) (by omega), rangeT_zero, show (1 + (mn : Int)).toNat = mn + 1 by omega]
  simp
  refine loop_inv (fun pre Ts => ∃ u, Ts = [jarT a3 b3 c3, .int most, .int sm, .int dm, .nd (.lst false) (ls.map T.str), .int (1 + mn), .nd (.lst false) (tags.map T.str), .nd (.lst true) ((pre.map fun k => Col.mk (ls.getD k Str.empty) [] []).map Col.o), u, .dead, .dead, .dead, .dead]) ⟨_, rfl⟩ ?_ ?_
  · rintro pre x post e Ts ⟨u, rfl⟩
    have hx : x < mn + 1 := by
      have : x ∈ List.range (mn + 1) := by rw [e]; simp
      simpa using this
    have hlen : pre.length < 16777216 := by
      have : (List.range (mn + 1)).length = pre.length + (post.length + 1) := by rw [e]; simp
      simp at this; omega
    simp [natT]
    rw [atI_of (k := x) rfl (by simp; omega)]
    simp [hlen]
    refine Inn.mk ⟨.int x, ?_⟩
    simp [Col.o, List.getElem?_eq_getElem (show x < ls.length by omega)]
  rintro Ts ⟨u1, rfl⟩
  simp
  refine loop_inv (fun pre Ts => ∃ (cols : List Col) (a' b' c' : Int) (u u' : T), Ts = [jarT a' b' c', .int most, .int sm, .int dm, .nd (.lst false) (ls.map T.str), .int (1 + mn), .nd (.lst false) (tags.map T.str), .nd (.lst true) (cols.map Col.o), u, u', .dead, .dead, .dead] ∧ cols.map Col.name = ls.take (mn + 1) ∧ (cols.flatMap Col.sums).Perm pre ∧ cols.flatMap Col.data = [] ∧ JarOk (n + 4 + pre.length) a' b' c') ?_ ?_ ?_
  · refine ⟨(List.range (mn + 1)).map fun k => Col.mk (ls[k]?.getD Str.empty) [] [], a3, b3, c3, u1, .dead, ?_, ?_, ?_, ?_, hj3⟩
    · rw [List.map_map]
    · rw [List.map_map]
      apply List.ext_getElem?
      intro i
      by_cases hi : i < mn + 1
      · simp [hi]; rw [List.getElem?_eq_getElem (by omega)]; rfl
      · simp [hi]; omega
    · simp [List.flatMap]
    · simp [List.flatMap]
  · rintro pre x post e Ts ⟨cols, a', b', c', u, u', rfl, hnm, hsp, hdt, hjj⟩
    have hpl : pre.length < tags.length := by rw [e]; simp
    simp
    refine dip_spec hjj (by omega) (by omega) (by omega) fun d a5 b5 c5 d0 d1 hj5 => ?_
    have hcl : cols.length = mn + 1 := by
      have := congrArg List.length hnm
      simp at this; omega
    obtain ⟨cc, hcc⟩ : ∃ cc, cols[d.toNat]? = some cc := ⟨_, List.getElem?_eq_getElem (by omega)⟩
    have hsl : cc.sums.length < 16777216 := by
      have h1 := hsp.length_eq
      have h2 : cc.sums.length ≤ (cols.flatMap Col.sums).length := by
        have := List.mem_of_getElem? hcc
        exact (List.sublist_flatten_of_mem (List.mem_map_of_mem (f := Col.sums) this)).length_le
      omega
    simp
    rw [ixN_of d0 (by omega)]
    simp [hcc, Col.o, hsl]
    refine Inn.mk ⟨cols.set d.toNat { cc with sums := cc.sums ++ [x] }, a5, b5, c5, u, T.str x, ?_, ?_, ?_, ?_, ?_⟩
    · simp [List.map_set, Col.o, hcc]
    · exact (map_set_same Col.name { cc with sums := cc.sums ++ [x] } cols _ cc hcc rfl).trans hnm
    · exact (flatMap_set_perm Col.sums x _ cols _ cc hcc rfl).trans (hsp.append_right _)
    · exact (flatMap_set_same Col.data { cc with sums := cc.sums ++ [x] } cols _ cc hcc rfl).trans hdt
    · exact hj5.mono (by simp; omega)
  rintro Ts ⟨cols, a', b', c', u, u', rfl, hnm, hsp, hdt, hjj⟩
  simp
  have body : ∀ (N : Nat) (jn : Nat) (a' b' c' : Int), N ≤ dm → JarOk jn a' b' c' → jn ≤ n + 20 → tags.length > 1 → Ev (loopM (mPut 10) (mSeq (mPar 11 12 (mCons (mFrz (mCall c__law_one_of [(some 0), none] (mCons (mLn 0) (mCons (mIm (mRd 6)) mNil)))) (mCons (mFrz (mCall c__law_one_of [(some 0), none] (mCons (mLn 0) (mCons (mIm (mRd 6)) mNil)))) mNil))) (mIfS (asB (m2 fNe (mRd 11) (mRd 12))) (mDrop (mMut 7 (mStepL 7 (mStepL 7 (mHere 7) (mCall c__law_dip [(some 0), none] (mCons (mLn 0) (mCons (mIm (mRd 5)) mNil)))) (mC (.int 2))) isLst (mCons (mFrz (mTup (mCons (mF (MI.c2 fMin) (mCons (mRd 11) (mCons (mRd 12) mNil))) (mCons (mF (MI.c2 fMax) (mCons (mRd 11) (mCons (mRd 12) mNil))) mNil)))) mNil) fAppend)) (ret .nx))) ((List.range N).map natT))
      [jarT a' b' c', .int most, .int sm, .int dm, .nd (.lst false) (ls.map T.str), .int (1 + mn), .nd (.lst false) (tags.map T.str), .nd (.lst true) (cols.map Col.o), u, u', .dead, .dead, .dead]
      (fun fl Ts => fl = .nx ∧ ∃ (cols : List Col) (a' b' c' : Int) (u1 u2 u3 u4 u5 : T), Ts = [jarT a' b' c', .int most, .int sm, .int dm, .nd (.lst false) (ls.map T.str), .int (1 + mn), .nd (.lst false) (tags.map T.str), .nd (.lst true) (cols.map Col.o), u1, u2, u3, u4, u5] ∧ cols.map Col.name = ls.take (mn + 1) ∧ (cols.flatMap Col.sums).Perm tags ∧ (cols.flatMap Col.data).length ≤ N ∧ (∀ p ∈ cols.flatMap Col.data, p.1 ∈ tags ∧ p.2 ∈ tags ∧ ltS p.1 p.2 = true) ∧ JarOk (n + 150) a' b' c') := by
    intro N jn a' b' c' hN hjj hjn ht
    refine loop_inv (fun pre Ts => ∃ (cols : List Col) (a' b' c' : Int) (u1 u2 u3 u4 u5 : T), Ts = [jarT a' b' c', .int most, .int sm, .int dm, .nd (.lst false) (ls.map T.str), .int (1 + mn), .nd (.lst false) (tags.map T.str), .nd (.lst true) (cols.map Col.o), u1, u2, u3, u4, u5] ∧ cols.map Col.name = ls.take (mn + 1) ∧ (cols.flatMap Col.sums).Perm tags ∧ (cols.flatMap Col.data).length ≤ pre.length ∧ (∀ p ∈ cols.flatMap Col.data, p.1 ∈ tags ∧ p.2 ∈ tags ∧ ltS p.1 p.2 = true) ∧ JarOk (jn + 3 * pre.length) a' b' c') ⟨cols, a', b', c', u, u', .dead, .dead, .dead, rfl, hnm, hsp, by simp [hdt], by simp [hdt], hjj⟩ ?_ ?_
    · rintro pre x post e Ts ⟨cols, a', b', c', u1, u2, u3, u4, u5, rfl, hnm, hsp, hdl, hdp, hjj⟩
      have hpl : pre.length < N := by
        have := congrArg List.length e
        simp at this; omega
      have hcl : cols.length = mn + 1 := by
        have := congrArg List.length hnm
        simp at this; omega
      simp [natT]
      refine one_of_spec hjj (by omega) (by simp; omega) (by simp; omega) (by simp) fun i hi a2 b2 c2 hj2 => ?_
      simp
      refine one_of_spec hj2 (by omega) (by simp; omega) (by simp; omega) (by simp) fun i' hi' a3 b3 c3 hj3 => ?_
      simp at hi hi'
      have hm1 : tags[i] ∈ tags := List.getElem_mem _
      have hm2 : tags[i'] ∈ tags := List.getElem_mem _
      simp
      rw [fNe_ok (by simpa using okS_name (htm _ hm1)) (by simpa using okS_name (htm _ hm2))]
      simp
      split
      · exact Inn.mk ⟨cols, a3, b3, c3, u1, u2, _, _, _, rfl, hnm, hsp, by rw [List.length_append]; exact Nat.le_succ_of_le hdl, hdp, hj3.mono (by simp; omega)⟩
      · rename_i hne
        refine dip_spec hj3 (by omega) (by omega) (by omega) fun d a5 b5 c5 d0 d1 hj5 => ?_
        obtain ⟨cc, hcc⟩ : ∃ cc, cols[d.toNat]? = some cc := ⟨_, List.getElem?_eq_getElem (by omega)⟩
        have hsl : cc.data.length < 16777216 := by
          have h2 : cc.data.length ≤ (cols.flatMap Col.data).length := by
            have := List.mem_of_getElem? hcc
            exact (List.sublist_flatten_of_mem (List.mem_map_of_mem (f := Col.data) this)).length_le
          omega
        simp
        rw [ixN_of d0 (by omega)]
        simp [hcc, Col.o, hsl, fMin, fMax]
        obtain ⟨p, hp, hp1, hp2, hp3⟩ : ∃ p : Str × Str, pairT p = .nd .tup [.str (if ltS tags[i'] tags[i] = true then tags[i'] else tags[i]), .str (if ltS tags[i] tags[i'] = true then tags[i'] else tags[i])] ∧ p.1 ∈ tags ∧ p.2 ∈ tags ∧ ltS p.1 p.2 = true := by
          rcases ltS_total hne with h | h
          · have h' := ltS_asymm h
            exact ⟨(tags[i], tags[i']), by simp [pairT, h, h'], hm1, hm2, h⟩
          · have h' := ltS_asymm h
            exact ⟨(tags[i'], tags[i]), by simp [pairT, h, h'], hm2, hm1, h⟩
        rw [← hp]
        have hperm := flatMap_set_perm Col.data p { cc with data := cc.data ++ [p] } cols _ cc hcc rfl
        refine Inn.mk ⟨cols.set d.toNat { cc with data := cc.data ++ [p] }, a5, b5, c5, u1, u2, .int x, .str tags[i], .str tags[i'], ?_, ?_, ?_, ?_, ?_, hj5.mono (by simp; omega)⟩
        · simp [List.map_set, Col.o, hcc]
        · exact (map_set_same Col.name { cc with data := cc.data ++ [p] } cols _ cc hcc rfl).trans hnm
        · rw [flatMap_set_same Col.sums { cc with data := cc.data ++ [p] } cols _ cc hcc rfl]; exact hsp
        · rw [hperm.length_eq, List.length_append, List.length_append]; exact Nat.add_le_add_right hdl 1
        · intro q hq
          rcases List.mem_append.mp (hperm.mem_iff.mp hq) with hq | hq
          · exact hdp q hq
          · rw [List.mem_singleton.mp hq]; exact ⟨hp1, hp2, hp3⟩
    · rintro Ts ⟨cols, a', b', c', u1, u2, u3, u4, u5, rfl, hnm, hsp, hdl, hdp, hjj⟩
      simp only [List.length_range] at hdl hjj
      exact ⟨rfl, cols, a', b', c', u1, u2, u3, u4, u5, rfl, hnm, hsp, hdl, hdp, hjj.mono (by omega)⟩
  have fin : ∀ (cols : List Col) (a' b' c' : Int) (u1 u2 u3 u4 u5 : T), cols.map Col.name = ls.take (mn + 1) → (cols.flatMap Col.sums).Perm tags → (cols.flatMap Col.data).length ≤ dm → (∀ p ∈ cols.flatMap Col.data, p.1 ∈ tags ∧ p.2 ∈ tags ∧ ltS p.1 p.2 = true) → JarOk (n + 150) a' b' c' →
      Ev (mRet (mLst (mCons (mFrz (mCall c__law_some_kind [(some 0)] (mCons (mLn 0) mNil))) (mCons (mFz 7) mNil)))) [jarT a' b' c', .int most, .int sm, .int dm, .nd (.lst false) (ls.map T.str), .int (1 + mn), .nd (.lst false) (tags.map T.str), .nd (.lst true) (cols.map Col.o), u1, u2, u3, u4, u5] fun fl Ts => outO [0] fl Ts Q := by
    intro cols a' b' c' u1 u2 u3 u4 u5 hnm hsp hdl hdp hjj
    simp
    refine some_kind_spec hjj (by omega) fun kd a6 b6 c6 hk hj6 => ?_
    simp
    have hcl : cols.length = mn + 1 := by
      have := congrArg List.length hnm
      simp at this; omega
    refine k ⟨kd, cols⟩ _ _ _ ⟨hk, by show 1 ≤ cols.length; omega, by show cols.length ≤ 8; omega, ?_, ?_, ?_, ?_, ?_, ?_, by show (cols.flatMap Col.data).length ≤ 24; omega, ?_⟩ (by show cols.length ≤ most; omega) (by show (cols.flatMap Col.sums).length ≤ sm; rw [hsp.length_eq]; omega) (by show (cols.flatMap Col.data).length ≤ dm; omega) (hj6.mono (by omega))
    · show (cols.map Col.name).Nodup
      rw [hnm]; exact hls.nd.sublist (List.take_sublist _ _)
    · show ∀ s ∈ cols.map Col.name, _
      rw [hnm]; exact fun s hs => hls.nm s (List.mem_of_mem_take hs)
    · exact hsp.nodup_iff.mpr htn
    · exact fun s hs => htm s (hsp.mem_iff.mp hs)
    · show 1 ≤ (cols.flatMap Col.sums).length
      rw [hsp.length_eq]; omega
    · show (cols.flatMap Col.sums).length ≤ 10
      rw [hsp.length_eq]; omega
    · exact fun p hp => ⟨hsp.mem_iff.mpr (hdp p hp).1, hsp.mem_iff.mpr (hdp p hp).2.1, (hdp p hp).2.2⟩
  split
  · rename_i ht
    refine dip_spec hjj (by omega) (by omega) (by omega) fun d a5 b5 c5 d0 d1 hj5 => ?_
    simp
    rw [rng1_int (by omega) (by omega), rangeT_zero]
    simp
    refine (body d.toNat _ _ _ _ (by omega) hj5 (by omega) (by omega)).mono ?_
    rintro fl Ts ⟨rfl, cols, a', b', c', u1, u2, u3, u4, u5, rfl, hnm, hsp, hdl, hdp, hjj⟩
    exact fin cols a' b' c' u1 u2 u3 u4 u5 hnm hsp (by omega) hdp hjj
  · simp [rng1_int, rangeT_zero, loopM]
    simpa using fin cols a' b' c' u u' .dead .dead .dead hnm hsp (by simp [hdt]) (by simp [hdt]) (hjj.mono (by omega))
end MI
namespace MI
open PySem L2
theorem any_eqT_str {s : Str} : ∀ {xs : List Str}, (xs.map T.str).any (fun t => eqT t (.str s)) = decide (s ∈ xs)
  | [] => by simp
  | x :: xs => by
    rw [List.map_cons, List.any_cons, any_eqT_str, eqT_str]
    by_cases h : x = s
    · subst h; simp
    · have h' : ¬ s = x := fun z => h z.symm
      simp [h, h']
theorem all_flat_str {xs : List Str} : (xs.map T.str).all T.flat = true := by simp [T.flat]
theorem fIn_strs_tup {s : Str} {xs : List Str} : fIn (.str s) (.nd .tup (xs.map T.str)) = some (.bl (decide (s ∈ xs))) := by
  simp only [fIn, oe2, fInF, kids, all_flat_str, any_eqT_str]; rfl
theorem fIn_strs_lst {s : Str} {o : Bool} {xs : List Str} : fIn (.str s) (.nd (.lst o) (xs.map T.str)) = some (.bl (decide (s ∈ xs))) := by
  simp only [fIn, oe2, fInF, kids, all_flat_str, any_eqT_str]; rfl
theorem fNotIn_strs_lst {s : Str} {o : Bool} {xs : List Str} : fNotIn (.str s) (.nd (.lst o) (xs.map T.str)) = some (.bl (!decide (s ∈ xs))) := by
  simp only [fNotIn, oe2, fInF, kids, all_flat_str, any_eqT_str]; rfl
@[simp] theorem isB_str_str {s : Str} : isB .str (.str s) = some (.bl true) := rfl
@[simp] theorem isB_str_int {s : Int} : isB .str (.int s) = some (.bl false) := rfl
@[simp] theorem isB_int_int {s : Int} : isB .int (.int s) = some (.bl true) := rfl
@[simp] theorem isB_int_str {s : Str} : isB .int (.str s) = some (.bl false) := rfl
@[simp] theorem isB_bool_int {s : Int} : isB .bool (.int s) = some (.bl false) := rfl
@[simp] theorem isB_tuple_tup {ts : List T} : isB .tuple (.nd .tup ts) = some (.bl true) := rfl
theorem fLen_str {s : Str} (h : s.length ≤ 16777216) : fLen (.str s) = some (.int s.length) := by simp [fLen, h]
theorem letters_mem (c : Nat) : (c ∈ (Str.ofString "abcdefghijklmnopqrstuvwxyz").cps.toList) ↔ (97 ≤ c ∧ c ≤ 122) := by
  rw [show (Str.ofString "abcdefghijklmnopqrstuvwxyz").cps.toList = List.range' 97 26 by decide +kernel, List.mem_range'_1]
  omega
def enumE {α : Type} (f : α → T) (p : α × Nat) : T := .nd .tup [.int (p.2 : Nat), f p.1]
theorem enumT_map {α : Type} (f : α → T) (xs : List α) : enumT (xs.map f) = xs.zipIdx.map (enumE f) := by
  unfold enumT enumE
  apply List.ext_getElem?
  intro i
  simp [List.getElem?_mapIdx]
  cases xs[i]? <;> simp
theorem zipIdx_split {α : Type} {xs : List α} {pre post : List (α × Nat)} {x : α × Nat} (e : xs.zipIdx = pre ++ x :: post) : ∃ a b, xs = a ++ x.1 :: b ∧ pre = a.zipIdx ∧ x.2 = a.length := by
  have e1 := congrArg (List.map Prod.fst) e
  simp only [List.zipIdx_map_fst, List.map_append, List.map_cons] at e1
  refine ⟨pre.map Prod.fst, post.map Prod.fst, e1, ?_, ?_⟩
  · apply List.ext_getElem?
    intro i
    by_cases hi : i < pre.length
    · have h1 : xs.zipIdx[i]? = pre[i]? := by rw [e, List.getElem?_append_left hi]
      rw [← h1, List.getElem?_zipIdx, List.getElem?_zipIdx, e1, List.getElem?_append_left (by simpa using hi)]
    · rw [List.getElem?_eq_none (by omega), List.getElem?_eq_none (by simp; omega)]
  · have h1 : xs.zipIdx[pre.length]? = some x := by rw [e]; simp
    rw [List.getElem?_zipIdx] at h1
    rw [List.length_map]
    cases q : xs[pre.length]? with
    | none => rw [q] at h1; cases h1
    | some y => rw [q] at h1; simp at h1; rw [← h1]
theorem enumF_tup {α : Type} {f : α → T} {xs : List α} (h : immL (xs.map f) = true) : enumF [.nd .tup (xs.map f)] = some (xs.zipIdx.map (enumE f)) := by
  simp only [enumF, kidsI_tup', h, if_true, Option.map_some, enumT_map]
theorem is_one_of_str {s : Str} {xs : List Str} : c_is_one_of [.str s, .nd .tup (xs.map T.str)] = some (.bl (decide (s ∈ xs)), []) := by
  refine EvO.eq (EvO_runB rfl ?_)
  simp [m_is_one_of, fIn_strs_tup]
theorem is_one_of_strL {s : Str} {o : Bool} {xs : List Str} : c_is_one_of [.str s, .nd (.lst o) (xs.map T.str)] = some (.bl (decide (s ∈ xs)), []) := by
  refine EvO.eq (EvO_runB rfl ?_)
  simp [m_is_one_of, fIn_strs_lst]
theorem is_one_of_int {s : Int} {k : Kd} {ts : List T} : c_is_one_of [.int s, .nd k ts] = some (.bl false, []) := by
  refine EvO.eq (EvO_runB rfl ?_)
  simp [m_is_one_of]
@[simp] theorem is_integer_int {i : Int} : c_is_integer [.int i] = some (.bl true, []) := by
  refine EvO.eq (EvO_runB rfl ?_)
  simp [m_is_integer]
@[simp] theorem is_between_int {v lo hi : Int} : c_is_between [.int v, .int lo, .int hi] = some (.bl (decide (lo ≤ v) && decide (v ≤ hi)), []) := by
  refine EvO.eq (EvO_runB rfl ?_)
  simp [m_is_between]
  by_cases h : lo ≤ v <;> simp [h]
theorem is_kind_ok {k : Kind} (h : k.ok) : c_is_kind [k.t] = some (.bl true, []) := by
  refine EvO.eq (EvO_runB rfl ?_)
  cases k with
  | bits => simp [m_is_kind, Kind.t, is_one_of_str (xs := ["bits", "plain"]) (s := "bits")]; rw [show [T.str "bits", T.str "plain"] = List.map T.str ["bits", "plain"] from rfl, is_one_of_str]; simp
  | plain => simp [m_is_kind, Kind.t]; rw [show [T.str "bits", T.str "plain"] = List.map T.str ["bits", "plain"] from rfl, is_one_of_str]; simp
  | dial m =>
    simp [m_is_kind, Kind.t, is_one_of_int]
    exact h
theorem is_name_str {s : Str} (hl : s.length ≤ 16777216) : c_is_name [.str s] = some (.bl (nameB s), []) := by
  refine EvO.eq (EvO_runB rfl ?_)
  simp [m_is_name, fLen_str hl]
  unfold nameB
  by_cases h1 : (1 : Int) ≤ s.length
  · by_cases h2 : (s.length : Int) ≤ 8
    · have h1' : 1 ≤ s.length := by omega
      have h2' : s.length ≤ 8 := by omega
      simp [h1, h2, h1', h2', hl]
      refine lc_pure (enc := fun c : Nat => T.str ⟨#[c]⟩) (xs := s.cps.toList) (fun _ => true) (fun c => .bl (decide (97 ≤ c) && decide (c ≤ 122))) (by simp) (by show s.length ≤ sizeLine; simp; omega) (fun c _ => ?_) ?_
      · simp
        simp only [fIn, oe2, fInF, fInD, fInS, kids]
        simp
        have := letters_mem c
        simp only [Array.mem_toList_iff] at this
        simp [this]
      · simp [fBools_map, h1', h2']
    · have h2' : ¬ s.length ≤ 8 := by omega
      simp [h1, h2, h2']
  · have h1' : ¬ 1 ≤ s.length := by omega
    simp [h1, h1']
end MI
namespace MI
open PySem L2
theorem cN_nodup {xs : List Str} (h : xs.Nodup) : ∀ k, k ≤ xs.length → cN xs k = k
  | 0, _ => rfl
  | k + 1, hk => by
    have ih := cN_nodup h k (by omega)
    unfold cN
    rw [if_neg, ih]
    rw [Bool.not_eq_true, List.any_eq_false]
    intro y hy
    rw [List.getD_eq_getElem?_getD, List.getElem?_eq_getElem (show k < xs.length by omega)]
    obtain ⟨i, hi, rfl⟩ := List.getElem_of_mem hy
    rw [List.length_take] at hi
    rw [List.getElem_take]
    simp only [Option.getD_some, beq_iff_eq]
    intro e
    have := (List.getElem_inj h).mp e
    omega
theorem strsOf_map : ∀ xs : List Str, strsOf (xs.map T.str) = some xs
  | [] => rfl
  | x :: xs => by simp [strsOf, strsOf_map xs]
theorem fLenS_nodup {xs : List Str} (h : xs.Nodup) (hl : xs.length ≤ 4000) : fLenS (.nd .tup (xs.map T.str)) = some (.int xs.length) := by
  simp [fLenS, strsOf_map, hl, cN_nodup h xs.length (Nat.le_refl _)]
@[simp] theorem fEq_int {i j : Int} : fEq (.int i) (.int j) = some (.bl (decide (i = j))) := by rw [fEq_ok (by simp) (by simp)]; simp
@[simp] theorem fNe_int {i j : Int} : fNe (.int i) (.int j) = some (.bl (!decide (i = j))) := by rw [fNe_ok (by simp) (by simp)]; simp
theorem are_fresh_ok {xs tk : List Str} {o : Bool} (hn : ∀ s ∈ xs, nameB s = true) (ht : ∀ s ∈ xs, s ∉ tk) (hd : xs.Nodup) (hl : xs.length ≤ 4000) : c_are_fresh [.nd .tup (xs.map T.str), .nd (.lst o) (tk.map T.str)] = some (.bl true, []) := by
  refine EvO.eq (EvO_runB rfl ?_)
  simp [m_are_fresh]
  refine lc_pure (enc := T.str) (xs := xs) (fun _ => true) (fun _ => .bl true) (by simp) (by simp; omega) (fun s hs => ?_) ?_
  · simp [is_name_str (s := s) (by have := name_len (hn s hs); omega), hn s hs]
    rw [fNotIn_strs_lst]
    simp [ht s hs]
  · simp [fBools_map]
    simp [fLenS_nodup hd hl]
theorem is_column_ok {c : Col} {ns ss : List Str} {o : Bool} (h1 : nameB c.name = true) (h2 : c.name ∉ ns) (h3 : ∀ s ∈ c.sums, nameB s = true) (h4 : ∀ s ∈ c.sums, s ∉ ss) (h5 : c.sums.Nodup) (h6 : c.sums.length ≤ 4000) :
    c_is_column [c.t, .nd (.lst o) (ns.map T.str), .nd (.lst false) (ss.map T.str)] = some (.bl true, []) := by
  refine EvO.eq (EvO_runB rfl ?_)
  simp [m_is_column, Col.t]
  simp [is_name_str (s := c.name) (by have := name_len h1; omega), h1]
  rw [fIn_strs_lst]
  simp [h2]
  rw [are_fresh_ok h3 h4 h5 h6]
  simp
theorem form_until_ok {h : Chart} (w : h.Wf) : c_form_until [.nd .tup (h.cols.map Col.t)] = some (.non, []) := by
  refine EvO.eq (EvO_runB rfl ?_)
  simp [m_form_until]
  rw [enumF_tup (by simp)]
  simp
  refine loop_inv (fun pre Ts => ∃ ns ss u v, Ts = [.nd .tup (h.cols.map Col.t), .nd (.lst true) (ns.map T.str), .nd (.lst true) (ss.map T.str), u, v] ∧ ns = pre.map (fun p => p.1.name) ∧ ss = pre.flatMap fun p => p.1.sums) ⟨[], [], .dead, .dead, rfl, rfl, rfl⟩ ?_ ?_
  · rintro pre ⟨c, i⟩ post e Ts ⟨ns, ss, u, v, rfl, ens, ess⟩
    obtain ⟨a, b, ea, rfl, rfl⟩ := zipIdx_split e
    have hn := w.nd
    have hs := w.sd
    have hc8 := w.c8
    have hs10 := w.s10
    unfold Chart.names at hn
    unfold Chart.sums at hs hs10
    rw [ea] at hn hs hs10 hc8
    simp only [List.map_append, List.map_cons, List.flatMap_append, List.flatMap_cons, List.nodup_append, List.nodup_cons, List.length_append, List.length_cons] at hn hs hs10 hc8
    have m1 : c.name ∈ h.names := by unfold Chart.names; rw [ea]; simp
    have m2 : ∀ s ∈ c.sums, s ∈ h.sums := fun s hs => by unfold Chart.sums; rw [ea]; simp [hs]
    have e1 : ns = a.map Col.name := by
      rw [ens, show (fun p : Col × Nat => p.1.name) = Col.name ∘ Prod.fst from rfl, ← List.map_map, List.zipIdx_map_fst]
    have e2 : ss = a.flatMap Col.sums := by
      rw [ess, List.flatMap_def, List.flatMap_def, show (fun p : Col × Nat => p.1.sums) = Col.sums ∘ Prod.fst from rfl, ← List.map_map, List.zipIdx_map_fst]
    have hi : ¬ (8 : Int) ≤ a.length := by omega
    have l1 : ns.length < 16777216 := by rw [e1, List.length_map]; omega
    have l2 : ss.length + c.sums.length ≤ 16777216 := by rw [e2]; omega
    simp [enumE, hi]
    rw [is_column_ok (c := c) (ns := ns) (ss := ss) (o := false) (w.nm _ m1) (fun z => hn.2.2 _ (e1 ▸ z) _ List.mem_cons_self rfl) (fun s q => w.sn _ (m2 s q)) (fun s q z => hs.2.2 _ (e2 ▸ z) _ (List.mem_append_left _ q) rfl) hs.2.1.1 (by omega)]
    simp [T.nofz, nofzL, Col.t, l1, l2]
    refine Inn.mk ⟨ns ++ [c.name], ss ++ c.sums, .int a.length, c.t, ?_, ?_, ?_⟩
    · simp [Col.t]
    · rw [ens]; simp
    · rw [ess]; simp
  · rintro Ts ⟨ns, ss, u, v, rfl, _, _⟩
    simp
end MI
namespace MI
open PySem L2
theorem are_different_ok {xs ys : List Str} {o : Bool} (hn : ∀ s ∈ xs, s ∈ ys) (hd : xs.Nodup) (hl : xs.length ≤ 4000) : c_are_different [.nd .tup (xs.map T.str), .nd (.lst false) (ys.map T.str)] = some (.bl true, []) := by
  refine EvO.eq (EvO_runB rfl ?_)
  simp [m_are_different]
  refine lc_pure (enc := T.str) (xs := xs) (fun _ => true) (fun _ => .bl true) (by simp) (by simp; omega) (fun s hs => ?_) ?_
  · simp [is_one_of_strL, hn s hs]
  · simp [fBools_map]
    simp [fLenS_nodup hd hl]
@[simp] theorem fLt_str {s t : Str} : fLt (.str s) (.str t) = some (.bl (ltS s t)) := rfl
theorem is_pair_ok {ys : List Str} {p : Str × Str} (h1 : p.1 ∈ ys) (h2 : p.2 ∈ ys) (h3 : ltS p.1 p.2 = true) : c_is_pair [.nd (.lst false) (ys.map T.str), pairT p] = some (.bl true, []) := by
  refine EvO.eq (EvO_runB rfl ?_)
  have hne : p.1 ≠ p.2 := fun z => by rw [z, ltS_irrefl] at h3; cases h3
  simp [m_is_pair, pairT]
  rw [show [T.str p.1, T.str p.2] = [p.1, p.2].map T.str from rfl, are_different_ok (o := false) (by simp [h1, h2]) (by simp [hne]) (by simp)]
  simp [h3]
theorem data_until_ok {h : Chart} (w : h.Wf) : c_data_until [.nd .tup (h.cols.map Col.t)] = some (.non, []) := by
  refine EvO.eq (EvO_runB rfl ?_)
  simp [m_data_until]
  refine lc2_inv (enc := Col.t) (xs := h.cols) (fun pre acc Ts => acc = (pre.flatMap Col.sums).map T.str ∧ Ts = [.nd .tup (h.cols.map Col.t), .dead, .dead, .dead, .dead, .dead, .dead, .dead]) (by simp) (by simp) ?_ ?_
  · rintro pre c post e acc Ts ⟨rfl, rfl⟩
    have hs10 := w.s10
    unfold Chart.sums at hs10
    rw [e] at hs10
    simp only [List.flatMap_append, List.flatMap_cons, List.length_append] at hs10
    simp [Col.t]
    refine lcM_pure (enc := T.str) (xs := c.sums) (fun _ => true) T.str (by rw [List.length_map]; simp only [sizeLine_val]; omega) (fun s hs => ?_) ?_
    · simp
    · refine Inn.mk ⟨by simp, by simp⟩
  · rintro acc Ts' ⟨rfl, rfl⟩
    simp
    rw [show (h.cols.flatMap Col.sums) = h.sums from rfl, enumF_tup (by simp)]
    simp
    refine loop_inv (fun pre Ts => ∃ (m k : Nat) (c u v : T), Ts = [.nd .tup (h.cols.map Col.t), c, .dead, .dead, .nd (.lst false) (h.sums.map T.str), .int m, .int k, u] ∧ m = (pre.flatMap fun p => p.1.sums).length ∧ k = (pre.flatMap fun p => p.1.data).length ∧ hidOk c = true) ⟨0, 0, .dead, .dead, .dead, rfl, rfl, rfl, rfl⟩ ?_ ?_
    · rintro pre ⟨c, i⟩ post e Ts ⟨m, k, c', u, v, rfl, em, ek, hc'⟩
      obtain ⟨a, b, ea, rfl, rfl⟩ := zipIdx_split e
      have hs10 := w.s10
      have hd24 := w.d24
      unfold Chart.sums at hs10
      unfold Chart.data at hd24
      rw [ea] at hs10 hd24
      simp only [List.flatMap_append, List.flatMap_cons, List.length_append] at hs10 hd24
      have e1 : m = (a.flatMap Col.sums).length := by
        rw [em, List.flatMap_def, List.flatMap_def, show (fun p : Col × Nat => p.1.sums) = Col.sums ∘ Prod.fst from rfl, ← List.map_map, List.zipIdx_map_fst]
      have e2 : k = (a.flatMap Col.data).length := by
        rw [ek, List.flatMap_def, List.flatMap_def, show (fun p : Col × Nat => p.1.data) = Col.data ∘ Prod.fst from rfl, ← List.map_map, List.zipIdx_map_fst]
      have hm : ¬ (10 : Int) < m + c.sums.length := by omega
      have hk : ¬ (24 : Int) < k + c.data.length := by omega
      have hp : ∀ p ∈ c.data, p ∈ h.data := fun p q => by unfold Chart.data; rw [ea]; simp [q]
      simp [enumE, Col.t, hm, hk]
      refine lc_pure (enc := pairT) (xs := c.data) (fun _ => true) (fun _ => .bl true) (by simp) (by simp; omega) (fun p q => ?_) ?_
      · have := w.dp p (hp p q)
        simp [is_pair_ok this.1 this.2.1 this.2.2]
      · simp [fBools_map]
        refine Inn.mk ⟨m + c.sums.length, k + c.data.length, c.t, .int a.length, .dead, ?_, ?_, ?_, by simp [Col.t]⟩
        · simp [Col.t]
        · rw [em]; simp
        · rw [ek]; simp
    · rintro Ts ⟨m, k, c, u, v, rfl, _, _, _⟩
      simp
theorem rngL2_nat {i j : Nat} (hi : i ≤ 1000000) (hj : j ≤ 1000000) : fRngL2 (.int i) (.int j) = some (.nd (.lst true) ((List.range' i (j - i)).map natT)) := by
  unfold fRngL2
  rw [← rangeT_nat]
  exact if_pos ⟨by omega, by omega, by omega, by omega⟩
@[simp] theorem fzL_natT {l : List Nat} : fzL (l.map natT) = l.map natT := fzL_imm _ immL_natT
@[simp] theorem fz_natT {n : Nat} : (natT n).fz = natT n := T.fz_imm _ imm_natT
theorem partsFrom_append : ∀ (a b : List Col) (n : Nat), partsFrom n (a ++ b) = partsFrom n a ++ partsFrom (n + (a.flatMap Col.data).length) b
  | [], b, n => by simp [partsFrom]
  | c :: a, b, n => by
    rw [List.cons_append, partsFrom, partsFrom, partsFrom_append a b]
    simp only [List.flatMap_cons, List.length_append, List.cons_append, Nat.add_assoc]
theorem partsFrom_length : ∀ (a : List Col) (n : Nat), (partsFrom n a).length = a.length
  | [], _ => rfl
  | c :: a, n => by rw [partsFrom, List.length_cons, List.length_cons, partsFrom_length a]
theorem parts_from_ok {h : Chart} (w : h.Wf) : c_parts_from [.nd .tup (h.cols.map Col.t)] = some (.nd .tup (h.parts.map cellsT), []) := by
  refine EvO.eq (EvO_runB rfl ?_)
  simp [m_parts_from]
  refine loop_inv (enc := Col.t) (fun pre Ts => ∃ (ps : List (List Cell)) (k : Nat) (u1 u2 u3 u4 : T), Ts = [.nd .tup (h.cols.map Col.t), .dead, .nd (.lst true) (ps.map cellsT), .int k, u1, u2, u3, u4] ∧ ps = partsFrom 0 pre ∧ k = (pre.flatMap Col.data).length) ⟨[], 0, .dead, .dead, .dead, .dead, rfl, rfl, rfl⟩ ?_ ?_
  · rintro pre c post e Ts ⟨ps, k, u1, u2, u3, u4, rfl, eps, ek⟩
    have hd24 := w.d24
    have hs10 := w.s10
    have hc8 := w.c8
    unfold Chart.data at hd24
    unfold Chart.sums at hs10
    rw [e] at hd24 hs10 hc8
    simp only [List.flatMap_append, List.flatMap_cons, List.length_append, List.length_cons] at hd24 hs10 hc8
    have hpl : ps.length < 16777216 := by rw [eps, partsFrom_length]; omega
    simp [Col.t]
    rw [show ((k : Int) + (c.data.length : Int)) = ((k + c.data.length : Nat) : Int) by omega, rngL2_nat (by omega) (by omega)]
    simp
    refine lc_pure (enc := T.str) (xs := c.sums) (fun _ => true) (fun s => (Cell.sum s).t) (by simp) (by simp; omega) (fun s q => ?_) ?_
    · simp [Cell.t]
    · simp
      rw [show (c.sums.map fun s => (Cell.sum s).t) = (c.sums.map Cell.sum).map Cell.t by rw [List.map_map]; rfl]
      simp [-List.map_map]
      refine lc_pure (enc := natT) (xs := List.range' k c.data.length) (fun _ => true) (fun s => (Cell.datum s).t) (by simp) (by simp; omega) (fun s q => ?_) ?_
      · simp [Cell.t, natT]
      · simp [-List.map_map]
        rw [show ((List.range' k c.data.length).map fun s => (Cell.datum s).t) = ((List.range' k c.data.length).map Cell.datum).map Cell.t by rw [List.map_map]; rfl]
        have hln : c.sums.length + c.data.length ≤ 16777216 := by omega
        simp [-List.map_map, hpl, hln]
        refine Inn.mk ⟨ps ++ [c.sums.map Cell.sum ++ (List.range' k c.data.length).map Cell.datum], k + c.data.length, .str c.name, .nd .tup (c.sums.map T.str), .nd .tup (c.data.map pairT), .nd (.lst false) ((List.range' k c.data.length).map natT), ?_, ?_, ?_⟩
        · simp [cellsT]
        · rw [partsFrom_append, eps, ek]; simp [partsFrom]
        · rw [ek]; simp
  · rintro Ts ⟨ps, k, u1, u2, u3, u4, rfl, eps, ek⟩
    simp
    rw [eps]; rfl
end MI
namespace MI
open PySem L2
@[simp] theorem okD_nd {n : Nat} {k : Kd} {ts : List T} : okD (n + 1) (.nd k ts) = (k.seq && okDL n ts) := by simp [okD]
@[simp] theorem okDL_nil {n : Nat} : okDL n [] = true := by cases n <;> simp [okDL]
@[simp] theorem okDL_cons {n : Nat} {t : T} {ts : List T} : okDL n (t :: ts) = (okD n t && okDL n ts) := by cases n <;> simp [okDL]
@[simp] theorem okDL_append {n : Nat} {us : List T} : ∀ {ts : List T}, okDL n (ts ++ us) = (okDL n ts && okDL n us)
  | [] => by simp
  | t :: ts => by simp [okDL_append (ts := ts), Bool.and_assoc]
theorem okDL_map {α : Type} {n : Nat} {f : α → T} : ∀ {xs : List α}, (∀ x ∈ xs, okD n (f x) = true) → okDL n (xs.map f) = true
  | [], _ => by simp
  | x :: xs, h => by rw [List.map_cons, okDL_cons, h x List.mem_cons_self, okDL_map (fun y hy => h y (List.mem_cons_of_mem _ hy))]; rfl
@[simp] theorem seq_tup : Kd.seq .tup = true := rfl
@[simp] theorem seq_lst {o : Bool} : Kd.seq (.lst o) = true := rfl
theorem okDL_ints {n : Nat} {xs : List Int} : okDL n (xs.map T.int) = true := okDL_map fun _ _ => okD_int
theorem okDL_strs {n : Nat} {xs : List Str} (h : ∀ s ∈ xs, okS s = true) : okDL n (xs.map T.str) = true := okDL_map fun s hs => by rw [okD_str]; exact h s hs
@[simp] theorem toDL_nil : toDL [] = [] := by simp [toDL]
@[simp] theorem toDL_cons {t : T} {ts : List T} : toDL (t :: ts) = toD t :: toDL ts := by simp [toDL]
@[simp] theorem toD_tup {ts : List T} : toD (.nd .tup ts) = .tuple (toDL ts) := by simp [toD, Kd.isTup]
@[simp] theorem toD_lst {o : Bool} {ts : List T} : toD (.nd (.lst o) ts) = .list (toDL ts) := by simp [toD, Kd.isTup]
theorem toDL_map {α : Type} {f : α → T} : ∀ {xs : List α}, toDL (xs.map f) = xs.map fun x => toD (f x)
  | [] => by simp
  | x :: xs => by rw [List.map_cons, toDL_cons, toDL_map]; rfl
theorem eqT_tup_nil {ts : List T} : eqT (.nd .tup ts) (.nd .tup []) = ts.isEmpty := by
  cases ts <;> simp [eqT, PyData.eqv, PyData.eqvAll]
@[simp] theorem fIsNot_non : fIsNot .non .non = some (.bl false) := rfl
@[simp] theorem fIs_non : fIs .non .non = some (.bl true) := rfl
def Chart.tabO (h : Chart) : T := .nd (.ins true "Table" ["kind", "columns", "held"]) [h.kind.t, .nd .tup (h.cols.map Col.t), .nd .tup (h.parts.map cellsT)]
@[simp] theorem fz_tabO {h : Chart} : h.tabO.fz = h.tab := by simp [Chart.tabO, Chart.tab]
@[simp] theorem live_tabO {h : Chart} : h.tabO.live = true := rfl
theorem okD_colT {n : Nat} {c : Col} (h1 : nameB c.name = true) (h2 : ∀ s ∈ c.sums, nameB s = true) (h3 : ∀ p ∈ c.data, nameB p.1 = true ∧ nameB p.2 = true) : okD (n + 3) c.t = true := by
  simp [Col.t, okS_name h1, okDL_strs (fun s hs => okS_name (h2 s hs))]
  refine okDL_map fun p hp => ?_
  simp [pairT, okS_name (h3 p hp).1, okS_name (h3 p hp).2]
theorem Chart.Wf.okC {h : Chart} (w : h.Wf) {n : Nat} : okDL (n + 3) (h.cols.map Col.t) = true := by
  refine okDL_map fun c hc => okD_colT (w.nm _ (List.mem_map_of_mem hc)) (fun s hs => w.sn s (List.mem_flatMap.mpr ⟨c, hc, hs⟩)) fun p hp => ?_
  have := w.dp p (List.mem_flatMap.mpr ⟨c, hc, hp⟩)
  exact ⟨w.sn _ this.1, w.sn _ this.2.1⟩
theorem ne_kc : ¬ (Str.ofString "kind" = Str.ofString "columns") := by decide +kernel
theorem ne_kh : ¬ (Str.ofString "kind" = Str.ofString "held") := by decide +kernel
theorem ne_ch : ¬ (Str.ofString "columns" = Str.ofString "held") := by decide +kernel
theorem table_init {h : Chart} (w : h.Wf) : c_Table___init__ [.nd (.ins true "Table" []) [], h.kind.t, .nd .tup (h.cols.map Col.t)] = some (.non, [h.tabO]) := by
  refine EvO.eq (EvO_runB rfl ?_)
  have c1 := w.c1
  have hne : h.cols ≠ [] := fun z => by rw [z] at c1; simp at c1
  simp [m_Table___init__, is_kind_ok w.k]
  rw [fEq_ok (by simp [w.okC]) (by simp), eqT_tup_nil]
  simp [hne, form_until_ok w]
  refine lc_pure (enc := Col.t) (xs := h.cols) (fun _ => true) (fun c => .bl (decide (c.sums = []))) (by simp) (by have := w.c8; simp; omega) (fun c hc => ?_) ?_
  · simp [Col.t]
    rw [fEq_ok (by simp [okDL_strs (fun s hs => okS_name (w.sn s (List.mem_flatMap.mpr ⟨c, hc, hs⟩)))]) (by simp), eqT_tup_nil]
    simp
    cases c.sums <;> simp
  · have hs : ¬ ∀ c ∈ h.cols, c.sums = [] := fun z => by
      have s1 := w.s1
      have : h.sums = [] := by
        unfold Chart.sums
        rw [List.flatMap_eq_nil_iff]; exact z
      rw [this] at s1; simp at s1
    simp [fBools_map, hs, data_until_ok w]
    simp [fFl, putN, parts_from_ok w, ne_kc, ne_kh, ne_ch]
    rfl
theorem made_ok {h : Chart} (w : h.Wf) : c__law_made [h.l] = some (h.tabO, []) := by
  refine EvO.eq (EvO_runB rfl ?_)
  have c8 := w.c8
  simp [m__law_made, Chart.l]
  refine lc_pure (enc := Col.l) (xs := h.cols) (fun _ => true) Col.t (by simp) (by simp; omega) (fun c hc => ?_) ?_
  · simp [Col.l, Col.t]
  · simp [table_init w]
theorem pairs_ok {h : Chart} (w : h.Wf) : c__law_pairs [h.l] = some (.nd (.lst false) (h.data.map pairT), []) := by
  refine EvO.eq (EvO_runB rfl ?_)
  simp [m__law_pairs, Chart.l]
  refine loop_inv (enc := Col.l) (fun pre Ts => ∃ (ps : List (Str × Str)) (u1 u2 u3 : T), Ts = [.nd (.lst false) [h.kind.t, .nd (.lst false) (h.cols.map Col.l)], .nd (.lst false) (ps.map pairT), u1, u2, u3] ∧ ps = pre.flatMap Col.data) ⟨[], .dead, .dead, .dead, rfl, rfl⟩ ?_ ?_
  · rintro pre c post e Ts ⟨ps, u1, u2, u3, rfl, eps⟩
    have d24 := w.d24
    unfold Chart.data at d24
    rw [e] at d24
    simp only [List.flatMap_append, List.flatMap_cons, List.length_append] at d24
    have hl : ps.length + c.data.length ≤ 16777216 := by rw [eps]; omega
    simp [Col.l, hl]
    refine Inn.mk ⟨ps ++ c.data, .str c.name, .nd (.lst false) (c.sums.map T.str), .nd (.lst false) (c.data.map pairT), ?_, ?_⟩
    · simp
    · rw [eps]; simp
  · rintro Ts ⟨ps, u1, u2, u3, rfl, eps⟩
    simp [eps, Chart.data]
end MI
namespace MI
open PySem L2
def Kind.val (k : Kind) (b : Int) (v : Int) : Prop := match k with
  | .bits => 0 ≤ v ∧ v ≤ 2 ^ 60 - 1
  | .plain => -b ≤ v ∧ v ≤ b
  | .dial m => 0 ≤ v ∧ v ≤ m - 1
@[simp] theorem fPow_int {i j : Int} : fII iPow (.int i) (.int j) = if 0 ≤ j ∧ j ≤ 1000 ∧ i.natAbs ≤ 1000000 then some (.int (i ^ j.toNat)) else none := by
  simp only [fII, iPow]; split <;> simp_all
@[simp] theorem eqT_bits {k : Kind} : eqT k.t (.str "bits") = decide (k = .bits) := by
  cases k <;> simp [Kind.t]
  decide +kernel
@[simp] theorem eqT_plain {k : Kind} : eqT k.t (.str "plain") = decide (k = .plain) := by
  cases k <;> simp [Kind.t]
  decide +kernel
theorem okD_kind {n : Nat} {k : Kind} : okD n k.t = true := by
  cases k <;> simp [Kind.t] <;> decide +kernel
theorem okS_bits : okS "bits" = true := by decide +kernel
theorem okS_plain : okS "plain" = true := by decide +kernel
@[simp] theorem fEq_bits {k : Kind} : fEq k.t (.str "bits") = some (.bl (decide (k = .bits))) := by rw [fEq_ok okD_kind (by rw [okD_str]; exact okS_bits), eqT_bits]
@[simp] theorem fEq_plain {k : Kind} : fEq k.t (.str "plain") = some (.bl (decide (k = .plain))) := by rw [fEq_ok okD_kind (by rw [okD_str]; exact okS_plain), eqT_plain]
end MI
namespace MI
open PySem L2
theorem cells_len (h : Chart) : h.cells.length = h.sums.length + h.data.length := by
  have : ∀ (cs : List Col) (n : Nat), (partsFrom n cs).flatten.length = (cs.flatMap Col.sums).length + (cs.flatMap Col.data).length := fun cs => by
    induction cs with
    | nil => intro n; rfl
    | cons c cs ih =>
      intro n
      rw [partsFrom, List.flatten_cons, List.length_append, ih, List.flatMap_cons, List.flatMap_cons, List.length_append, List.length_append, List.length_append, List.length_map, List.length_map, List.length_range']
      omega
  exact this h.cols 0
theorem places_ok {h : Chart} (w : h.Wf) : c__law_places [h.l] = some (.nd (.lst false) (h.cells.map Cell.t), []) := by
  refine EvO.eq (EvO_runB rfl ?_)
  simp [m__law_places, Chart.l]
  refine loop_inv (enc := Col.l) (fun pre Ts => ∃ (ps : List Cell) (k : Nat) (u1 u2 u3 : T), Ts = [.nd (.lst false) [h.kind.t, .nd (.lst false) (h.cols.map Col.l)], .dead, .dead, .nd (.lst false) (ps.map Cell.t), .int k, u1, u2, u3] ∧ ps = (partsFrom 0 pre).flatten ∧ k = (pre.flatMap Col.data).length) ⟨[], 0, .dead, .dead, .dead, rfl, rfl, rfl⟩ ?_ ?_
  · rintro pre c post e Ts ⟨ps, k, u1, u2, u3, rfl, eps, ek⟩
    have d24 := w.d24
    have s10 := w.s10
    unfold Chart.data at d24
    unfold Chart.sums at s10
    rw [e] at d24 s10
    simp only [List.flatMap_append, List.flatMap_cons, List.length_append] at d24 s10
    have hl := cells_len ⟨h.kind, pre⟩
    have hl : ps.length = (pre.flatMap Col.sums).length + (pre.flatMap Col.data).length := by rw [eps]; exact hl
    simp [Col.l]
    refine lc_pure (enc := T.str) (xs := c.sums) (fun _ => true) (fun s => (Cell.sum s).t) (by simp) (by simp; omega) (fun s q => ?_) ?_
    · simp [Cell.t]
    rw [filter_tt, show (c.sums.map fun s => (Cell.sum s).t) = (c.sums.map Cell.sum).map Cell.t by rw [List.map_map]; rfl]
    have h1 : ps.length + c.sums.length ≤ 16777216 := by omega
    simp [-List.map_map, h1]
    rw [rng1_int (by omega) (by omega), rangeT_zero]
    simp [-List.map_map]
    refine lc_pure (enc := natT) (xs := List.range c.data.length) (fun _ => true) (fun s => (Cell.datum (k + s)).t) (by simp) (by simp; omega) (fun s q => ?_) ?_
    · simp [Cell.t, natT]
    rw [filter_tt, show ((List.range c.data.length).map fun s => (Cell.datum (k + s)).t) = ((List.range' k c.data.length).map Cell.datum).map Cell.t by rw [List.range'_eq_map_range, List.map_map, List.map_map]; rfl]
    have h2 : ps.length + (c.sums.length + c.data.length) ≤ 16777216 := by omega
    simp [-List.map_map, h2]
    refine ⟨by omega, Inn.mk ?_⟩
    refine ⟨ps ++ (c.sums.map Cell.sum ++ (List.range' k c.data.length).map Cell.datum), k + c.data.length, .str c.name, .nd (.lst false) (c.sums.map T.str), .nd (.lst false) (c.data.map pairT), ?_, ?_, ?_⟩
    · simp
    · rw [partsFrom_append, List.flatten_append, eps, ek]; simp [partsFrom]
    · rw [ek]; simp
  · rintro Ts ⟨ps, k, u1, u2, u3, rfl, eps, ek⟩
    simp
    rw [eps]; rfl
def Kind.tog (k : Kind) (vs : List Int) : Int := match k with
  | .bits => vs.foldl Builtin.bitXor 0
  | .plain => vs.sum
  | .dial m => vs.sum % m
def inP (s : Str) (p : Str × Str) : Bool := decide (s = p.1) || decide (s = p.2)
def dataIn (d : List (Str × Str)) (s : Str) : List Nat := (List.range d.length).filter fun k => inP s (d.getD k (Str.empty, Str.empty))
def Chart.cv (h : Chart) (vs : List Int) : Cell → Int
  | .sum s => h.kind.tog ((dataIn h.data s).map fun k => vs.getD k 0)
  | .datum n => vs.getD n 0
def Chart.full (h : Chart) (vs : List Int) : List Int := h.cells.map (h.cv vs)
theorem cells_mem {h : Chart} {c : Cell} (hc : c ∈ h.cells) : match c with
    | .sum s => s ∈ h.sums
    | .datum n => n < h.data.length := by
  have key : ∀ (cs : List Col) (n : Nat), c ∈ (partsFrom n cs).flatten → match c with
    | .sum s => s ∈ cs.flatMap Col.sums
    | .datum k => k < n + (cs.flatMap Col.data).length := fun cs => by
    induction cs with
    | nil => intro n h; simp [partsFrom] at h
    | cons d cs ih =>
      intro n h
      rw [partsFrom, List.flatten_cons, List.mem_append, List.mem_append] at h
      rcases h with (h | h) | h
      · obtain ⟨s, hs, rfl⟩ := List.mem_map.mp h
        simp [hs]
      · obtain ⟨s, hs, rfl⟩ := List.mem_map.mp h
        rw [List.mem_range'_1] at hs
        simp only [List.flatMap_cons, List.length_append]; omega
      · have := ih _ h
        cases c with
        | sum s => simp only [List.flatMap_cons]; exact List.mem_append_right _ this
        | datum k => simp only [List.flatMap_cons, List.length_append] at this ⊢; omega
  have := key h.cols 0 hc
  cases c with
  | sum s => exact this
  | datum k => rw [Nat.zero_add] at this; exact this
@[simp] theorem okS_datum : okS "datum" = true := by decide +kernel
@[simp] theorem okS_sum : okS "sum" = true := by decide +kernel
@[simp] theorem ne_sum_datum : ¬ (Str.ofString "sum" = Str.ofString "datum") := by decide +kernel
@[simp] theorem ne_datum_sum : ¬ (Str.ofString "datum" = Str.ofString "sum") := by decide +kernel
@[simp] theorem fEq_sum_datum : fEq (.str "sum") (.str "datum") = some (.bl false) := by rw [fEq_ok (by simp) (by simp)]; simp
@[simp] theorem fEq_datum_datum : fEq (.str "datum") (.str "datum") = some (.bl true) := by rw [fEq_ok (by simp) (by simp)]; simp
@[simp] theorem fEq_sum_sum : fEq (.str "sum") (.str "sum") = some (.bl true) := by rw [fEq_ok (by simp) (by simp)]; simp
@[simp] theorem fEq_datum_sum : fEq (.str "datum") (.str "sum") = some (.bl false) := by rw [fEq_ok (by simp) (by simp)]; simp
end MI
namespace MI
open PySem L2
@[simp] theorem isIns_tab {h : Chart} : isIns "Table" Str.empty h.tab = some h.tab := by
  unfold isIns Chart.tab
  simp only
  rw [if_pos ⟨trivial, by decide +kernel⟩]
theorem isIns_tab' {h : Chart} {m : Str} (e : (["kind", "columns", "held"] : List Str).findIdx? (fun x : Str => x = m) = none) : isIns "Table" m h.tab = some h.tab := by
  unfold isIns Chart.tab
  simp only
  rw [if_pos ⟨trivial, e⟩]
@[simp] theorem fld_kind {h : Chart} : fFld "Table" "kind" h.tab = some h.kind.t := by
  unfold fFld Chart.tab
  simp only [if_true]
  rw [show (["kind", "columns", "held"] : List Str).findIdx? (fun x : Str => x = "kind") = some 0 by decide +kernel]; rfl
@[simp] theorem fld_columns {h : Chart} : fFld "Table" "columns" h.tab = some (.nd .tup (h.cols.map Col.t)) := by
  unfold fFld Chart.tab
  simp only [if_true]
  rw [show (["kind", "columns", "held"] : List Str).findIdx? (fun x : Str => x = "columns") = some 1 by decide +kernel]; rfl
@[simp] theorem fld_held {h : Chart} : fFld "Table" "held" h.tab = some (.nd .tup (h.parts.map cellsT)) := by
  unfold fFld Chart.tab
  simp only [if_true]
  rw [show (["kind", "columns", "held"] : List Str).findIdx? (fun x : Str => x = "held") = some 2 by decide +kernel]; rfl
@[simp] theorem table_data {h : Chart} (w : h.Wf) : c_Table_data [h.tab] = some (.nd .tup (h.data.map pairT), []) := by
  refine EvO.eq (EvO_runB rfl ?_)
  simp [m_Table_data]
  refine lc2_inv (enc := Col.t) (xs := h.cols) (fun pre acc Ts => acc = (pre.flatMap Col.data).map pairT ∧ Ts = [h.tab, .dead, .dead]) (by simp) (by simp) ?_ ?_
  · rintro pre c post e acc Ts ⟨rfl, rfl⟩
    have d24 := w.d24
    unfold Chart.data at d24
    rw [e] at d24
    simp only [List.flatMap_append, List.flatMap_cons, List.length_append] at d24
    simp [Col.t]
    refine lcM_pure (enc := pairT) (xs := c.data) (fun _ => true) pairT (by rw [List.length_map]; simp only [sizeLine_val]; omega) (fun s hs => ?_) ?_
    · simp
    · refine Inn.mk ⟨by simp, by simp⟩
  · rintro acc Ts' ⟨rfl, rfl⟩
    simp
    rfl
@[simp] theorem table_cells {h : Chart} (w : h.Wf) : c_Table_cells [h.tab] = some (cellsT h.cells, []) := by
  refine EvO.eq (EvO_runB rfl ?_)
  have hcl := cells_len h
  have d24 := w.d24
  have s10 := w.s10
  simp [m_Table_cells]
  refine lc2_inv (enc := cellsT) (xs := h.parts) (fun pre acc Ts => acc = pre.flatten.map Cell.t ∧ Ts = [h.tab, .dead, .dead]) (by simp) (by simp) ?_ ?_
  · rintro pre c post e acc Ts ⟨rfl, rfl⟩
    have hl : h.cells.length = pre.flatten.length + (c.length + post.flatten.length) := by
      unfold Chart.cells; rw [e]; simp only [List.flatten_append, List.flatten_cons, List.length_append]
    simp [cellsT]
    refine lcM_pure (enc := Cell.t) (xs := c) (fun _ => true) Cell.t (by rw [List.length_map]; simp only [sizeLine_val]; omega) (fun s hs => ?_) ?_
    · simp
    · refine Inn.mk ⟨by simp, by simp⟩
  · rintro acc Ts' ⟨rfl, rfl⟩
    rw [show h.parts.flatten = h.cells from rfl]
    simp [cellsT]
theorem dataIn_lt {d : List (Str × Str)} {s : Str} {k : Nat} (hk : k ∈ dataIn d s) : k < d.length := by
  unfold dataIn at hk
  exact List.mem_range.mp (List.mem_filter.mp hk).1
end MI
namespace MI
open PySem L2
def Cell.bd : Cell → Int
  | .sum _ => 10 ^ 32
  | .datum _ => 10 ^ 30
def Cell.isD : Cell → Bool
  | .sum _ => false
  | .datum _ => true
def Chart.dataOf (h : Chart) (vs : List Int) : List Int := ((h.cells.zip vs).filter fun p => p.1.isD).map Prod.snd
theorem parts_data : ∀ (cs : List Col) (n : Nat), (partsFrom n cs).flatten.filter Cell.isD = (List.range' n (cs.flatMap Col.data).length).map Cell.datum
  | [], n => rfl
  | c :: cs, n => by
    rw [partsFrom, List.flatten_cons, List.filter_append, List.filter_append, parts_data cs, List.flatMap_cons, List.length_append, ← List.range'_append_1, List.map_append]
    congr 1
    rw [List.filter_eq_nil_iff.mpr (by intro c hc; obtain ⟨s, _, rfl⟩ := List.mem_map.mp hc; simp [Cell.isD]), List.nil_append, List.filter_eq_self.mpr (by intro c hc; obtain ⟨s, _, rfl⟩ := List.mem_map.mp hc; rfl)]
theorem cells_data (h : Chart) : h.cells.filter Cell.isD = (List.range h.data.length).map Cell.datum := by
  rw [List.range_eq_range']; exact parts_data h.cols 0
@[simp] theorem fIx_cell0 {c : Cell} : fIx c.t (.int 0) = some (.str (if c.isD then "datum" else "sum")) := by cases c <;> simp [Cell.t, Cell.isD]
theorem zipT_map {α β : Type} (f : α → T) (g : β → T) (xs : List α) (ys : List β) : zipT (xs.map f) (ys.map g) = (xs.zip ys).map fun p => .nd .tup [f p.1, g p.2] := by
  unfold zipT
  rw [List.zip_map, List.map_map]; rfl
end MI
namespace MI
open PySem L2
mutual
def smT : T → Bool
  | .int i => decide (i.natAbs < 10 ^ 100)
  | .nd _ ts => smL ts
  | _ => true
def smL : List T → Bool
  | [] => true
  | t :: ts => smT t && smL ts
end
mutual
def rwT : T → Nat
  | .int _ => 101
  | .str s => 10 * s.length + 8
  | .nd _ ts => rwL ts + 3
  | _ => 5
def rwL : List T → Nat
  | [] => 0
  | t :: ts => rwT t + 2 + rwL ts
end
@[simp] theorem smT_int {i : Int} : smT (.int i) = decide (i.natAbs < 10 ^ 100) := by simp [smT]
@[simp] theorem smT_nd {k : Kd} {ts : List T} : smT (.nd k ts) = smL ts := by simp [smT]
@[simp] theorem smT_str {s : Str} : smT (.str s) = true := by simp [smT]
@[simp] theorem smT_non : smT .non = true := by simp [smT]
@[simp] theorem smT_bl {b : Bool} : smT (.bl b) = true := by simp [smT]
@[simp] theorem smL_nil : smL [] = true := by simp [smL]
@[simp] theorem smL_cons {t : T} {ts : List T} : smL (t :: ts) = (smT t && smL ts) := by simp [smL]
theorem smL_map {α : Type} {f : α → T} : ∀ {xs : List α}, (∀ x ∈ xs, smT (f x) = true) → smL (xs.map f) = true
  | [], _ => by simp
  | x :: xs, h => by rw [List.map_cons, smL_cons, h x List.mem_cons_self, smL_map (fun y hy => h y (List.mem_cons_of_mem _ hy))]; rfl
@[simp] theorem rwT_int {i : Int} : rwT (.int i) = 101 := by simp [rwT]
@[simp] theorem rwT_nd {k : Kd} {ts : List T} : rwT (.nd k ts) = rwL ts + 3 := by simp [rwT]
@[simp] theorem rwT_str {s : Str} : rwT (.str s) = 10 * s.length + 8 := by simp [rwT]
@[simp] theorem rwT_non : rwT .non = 5 := by simp [rwT]
@[simp] theorem rwT_bl {b : Bool} : rwT (.bl b) = 5 := by simp [rwT]
@[simp] theorem rwL_nil : rwL [] = 0 := by simp [rwL]
@[simp] theorem rwL_cons {t : T} {ts : List T} : rwL (t :: ts) = rwT t + 2 + rwL ts := by simp [rwL]
theorem rwL_map {α : Type} {f : α → T} {B : Nat} : ∀ {xs : List α}, (∀ x ∈ xs, rwT (f x) ≤ B) → rwL (xs.map f) ≤ (B + 2) * xs.length
  | [], _ => by simp
  | x :: xs, h => by
    have h1 := h x List.mem_cons_self
    have h2 := rwL_map (f := f) (B := B) (xs := xs) (fun y hy => h y (List.mem_cons_of_mem _ hy))
    rw [List.map_cons, rwL_cons, List.length_cons, Nat.mul_add]; omega
theorem shown_str {s : Str} (h : okS s = true) : (PyData.shown (.str s)).length ≤ 10 * s.length + 8 := by
  have := PyData.shown_le 8 (by omega) (.str s) (by
    simp only [PyData.leavesShort, List.all_eq_true, decide_eq_true_eq]
    unfold okS at h
    rw [List.all_eq_true] at h
    intro c hc
    have := h c hc
    rw [Nat.blt_eq] at this; omega)
  have e : PyData.weight (.str s) = s.length := by simp [PyData.weight]; rfl
  rw [e] at this
  exact this
mutual
theorem shown_rw : ∀ (t : T) (n : Nat), okD n t = true → smT t = true → (toD t).shown.length ≤ rwT t
  | .dead, n, h, _ => by cases n <;> simp [okD] at h
  | .non, _, _, _ => by simp [toD, PyData.shown]; decide +kernel
  | .bl b, _, _, _ => by cases b <;> (simp [toD, PyData.shown]; decide +kernel)
  | .int i, _, _, h => by
    simp only [smT_int, decide_eq_true_eq] at h
    have := int_text_length_le10 (a := i) (k := 100) (by omega) h
    simp only [toD, PyData.shown, rwT_int]
    rw [show (Str.ofString (toString i)).length = (toString i).length by
      rw [Str.ofString_eq_toList]; simp [Str.length]; exact String.length_toList]
    exact this
  | .str s, n, h, _ => by rw [okD_str] at h; rw [rwT_str]; exact shown_str h
  | .nd k ts, 0, h, _ => by simp [okD] at h
  | .nd k ts, n + 1, h, hs => by
    rw [okD_nd, Bool.and_eq_true] at h
    rw [smT_nd] at hs
    have ih := shownL_rw ts n h.2 hs
    rw [rwT_nd]
    by_cases hk : k.isTup = true
    · simp only [toD, hk, if_true, PyData.shown]
      have := tupleText_len_le (PyData.shownAll (toDL ts))
      omega
    · simp only [toD, hk, if_false, PyData.shown]
      have := listText_len_le (PyData.shownAll (toDL ts))
      simp only [Bool.false_eq_true, if_false, PyData.shown]
      omega
theorem shownL_rw : ∀ (ts : List T) (n : Nat), okDL n ts = true → smL ts = true → ((PyData.shownAll (toDL ts)).map (·.length)).sum + 2 * (PyData.shownAll (toDL ts)).length ≤ rwL ts
  | [], _, _, _ => by simp [PyData.shownAll]
  | t :: ts, n, h, hs => by
    rw [okDL_cons, Bool.and_eq_true] at h
    rw [smL_cons, Bool.and_eq_true] at hs
    have h1 := shown_rw t n h.1 hs.1
    have h2 := shownL_rw ts n h.2 hs.2
    simp only [toDL_cons, PyData.shownAll, List.map_cons, List.sum_cons, List.length_cons, rwL_cons]
    omega
end
mutual
theorem shw_sm : ∀ t : T, smT t = true → shwT t = true
  | .dead, _ => by simp [shwT]
  | .non, _ => by simp [shwT]
  | .bl _, _ => by simp [shwT]
  | .str _, _ => by simp [shwT]
  | .int i, h => by
    simp only [smT_int, decide_eq_true_eq] at h
    simp only [shwT, Nat.blt_eq]
    exact log2_lt_of (by omega) (Nat.lt_trans h (by decide +kernel))
  | .nd k ts, h => by rw [smT_nd] at h; simp only [shwT]; exact shwL_sm ts h
theorem shwL_sm : ∀ ts : List T, smL ts = true → shwL ts = true
  | [], _ => by simp [shwL]
  | t :: ts, h => by
    rw [smL_cons, Bool.and_eq_true] at h
    simp only [shwL, Bool.and_eq_true]
    exact ⟨shw_sm t h.1, shwL_sm ts h.2⟩
end
theorem fRepr_ok {t : T} (h1 : okD 60 t = true) (h2 : smT t = true) (h3 : rwT t ≤ 16777216) : fRepr t = some (.str (reprT t)) := by
  have := shown_rw t 60 h1 h2
  unfold fRepr
  rw [if_pos]
  simp only [h1, shw_sm t h2, Bool.true_and, Nat.ble_eq, sizeLine_val]
  show (toD t).shown.length ≤ _
  omega
theorem okS_iff {s : Str} : okS s = true ↔ ∀ c ∈ s.cps.toList, c < 1114112 := by
  unfold okS; rw [List.all_eq_true]
  exact ⟨fun h c hc => by have := h c hc; rwa [Nat.blt_eq] at this, fun h c hc => by rw [Nat.blt_eq]; exact h c hc⟩
theorem char_lt (c : Char) : c.toNat < 1114112 := by
  have h := c.valid
  simp only [UInt32.isValidChar, Nat.isValidChar] at h
  have e : c.toNat = c.val.toNat := rfl
  omega
theorem okS_ofString (x : String) : okS (Str.ofString x) = true := by
  rw [okS_iff, Str.ofString_eq_toList]
  intro c hc
  simp only [List.mem_map] at hc
  obtain ⟨d, _, rfl⟩ := hc
  exact char_lt d
@[simp] theorem okS_append {a b : Str} : okS (a ++ b) = (okS a && okS b) := by
  show okS ⟨a.cps ++ b.cps⟩ = _
  simp only [okS, Array.toList_append, List.all_append]
theorem okS_join {sep : Str} (h : okS sep = true) : ∀ xs : List Str, (∀ x ∈ xs, okS x = true) → okS (Str.join sep xs) = true
  | [], _ => by show okS Str.empty = true; decide +kernel
  | [x], hx => hx x (by simp)
  | x :: y :: r, hx => by
    show okS (x ++ sep ++ Str.join sep (y :: r)) = true
    rw [okS_append, okS_append, h, hx x (by simp), okS_join h (y :: r) fun z hz => hx z (List.mem_cons_of_mem _ hz)]; rfl
theorem okS_textFrom : ∀ (ts : List Str) (k : Nat) (acc : Str), okS acc = true → (∀ t ∈ ts, okS t = true) → okS (textFrom k acc ts) = true
  | [], _, acc, h, _ => h
  | t :: ts, k, acc, h, ht => by
    show okS (textFrom (k + 1) _ ts) = true
    refine okS_textFrom ts _ _ ?_ fun z hz => ht z (List.mem_cons_of_mem _ hz)
    rw [okS_append, okS_append, h, ht t (by simp), okS_ofString]; rfl
theorem okS_listText {ts : List Str} (h : ∀ t ∈ ts, okS t = true) : okS (listText ts) = true := by
  unfold listText
  rw [okS_append, okS_textFrom ts 0 _ (okS_ofString _) h, okS_ofString]; rfl
theorem okS_tupleText {ts : List Str} (h : ∀ t ∈ ts, okS t = true) : okS (tupleText ts) = true := by
  unfold tupleText
  rw [okS_append, okS_append, okS_ofString, okS_join (okS_ofString _) ts h, okS_ofString]; rfl
theorem hex_lt {w c d : Nat} (h : d ∈ List.replicate (w - ((Nat.toDigits 16 c).map Char.toNat).length) 48 ++ (Nat.toDigits 16 c).map Char.toNat) : d < 1114112 := by
  rcases List.mem_append.mp h with h | h
  · rw [List.eq_of_mem_replicate h]; omega
  · obtain ⟨e, _, rfl⟩ := List.mem_map.mp h; exact char_lt e
theorem reprChar_lt {q c : Nat} (hc : c < 1114112) : ∀ d ∈ Builtin.Str.reprChar q c, d < 1114112 := by
  intro d hd
  unfold Builtin.Str.reprChar at hd
  simp only at hd
  split at hd
  · simp at hd; omega
  · split at hd
    · simp at hd; omega
    · split at hd
      · simp at hd; omega
      · split at hd
        · simp at hd; omega
        · split at hd
          · simp at hd; omega
          · split at hd
            · rcases List.mem_append.mp hd with hd | hd
              · simp at hd; omega
              · exact hex_lt hd
            · split at hd
              · rcases List.mem_append.mp hd with hd | hd
                · simp at hd; omega
                · exact hex_lt hd
              · rcases List.mem_append.mp hd with hd | hd
                · simp at hd; omega
                · exact hex_lt hd
theorem okS_reprText {s : Str} (h : okS s = true) : okS (reprText s) = true := by
  rw [okS_iff] at *
  have hq : reprQuote s < 1114112 := by unfold reprQuote; split <;> omega
  have key : ∀ (l : List Nat) (acc : Array Nat), (∀ c ∈ l, c < 1114112) → (∀ c ∈ acc.toList, c < 1114112) → ∀ c ∈ (l.foldl (fun out c => out ++ (Builtin.Str.reprChar (reprQuote s) c).toArray) acc).toList, c < 1114112 := by
    intro l
    induction l with
    | nil => intro acc _ h; exact h
    | cons x l ih =>
      intro acc hl ha
      refine ih _ (fun c hc => hl c (List.mem_cons_of_mem _ hc)) fun c hc => ?_
      rw [Array.toList_append] at hc
      rcases List.mem_append.mp hc with hc | hc
      · exact ha c hc
      · exact reprChar_lt (hl x List.mem_cons_self) c hc
  intro c hc
  unfold reprText at hc
  rw [Array.toList_push, List.mem_append] at hc
  rcases hc with hc | hc
  · rw [← Array.foldl_toList] at hc
    exact key s.cps.toList #[reprQuote s] h (by intro c hc; simp at hc; omega) c hc
  · rw [List.mem_singleton.mp hc]; exact hq
mutual
theorem okS_shown : ∀ (t : T) (n : Nat), okD n t = true → okS (toD t).shown = true
  | .dead, n, h => by cases n <;> simp [okD] at h
  | .non, _, _ => by simp only [toD, PyData.shown]; exact okS_ofString _
  | .bl b, _, _ => by cases b <;> (simp only [toD, PyData.shown]; exact okS_ofString _)
  | .int i, _, _ => by simp only [toD, PyData.shown]; exact okS_ofString _
  | .str s, n, h => by rw [okD_str] at h; simp only [toD, PyData.shown]; exact okS_reprText h
  | .nd k ts, 0, h => by simp [okD] at h
  | .nd k ts, n + 1, h => by
    rw [okD_nd, Bool.and_eq_true] at h
    have ih := okS_shownL ts n h.2
    by_cases hk : k.isTup = true
    · simp only [toD, hk, if_true, PyData.shown]
      exact okS_tupleText ih
    · simp only [toD, hk, if_false, PyData.shown, Bool.false_eq_true]
      exact okS_listText ih
theorem okS_shownL : ∀ (ts : List T) (n : Nat), okDL n ts = true → ∀ x ∈ PyData.shownAll (toDL ts), okS x = true
  | [], _, _ => by simp [PyData.shownAll]
  | t :: ts, n, h => by
    rw [okDL_cons, Bool.and_eq_true] at h
    intro x hx
    simp only [toDL_cons, PyData.shownAll, List.mem_cons] at hx
    rcases hx with rfl | hx
    · exact okS_shown t n h.1
    · exact okS_shownL ts n h.2 x hx
end
theorem okS_reprT {t : T} {n : Nat} (h : okD n t = true) : okS (reprT t) = true := okS_shown t n h
end MI
namespace MI
open PySem L2
theorem jar_spec {ns : List Int} {turn : Nat} (ht : turn ≤ 1000) : ∃ a b, c__law_jar [.nd .scr (ns.map T.int), .int turn] = some (jarT a b 0, []) ∧ JarOk 0 a b 0 := by
  suffices h : EvO (c__law_jar [.nd .scr (ns.map T.int), .int turn]) fun p => ∃ a b, p = (jarT a b 0, []) ∧ JarOk 0 a b 0 by
    obtain ⟨p, e, a, b, rfl, hj⟩ := h
    exact ⟨a, b, e, hj⟩
  refine EvO_runB rfl ?_
  have key : ∀ cell : Int, Ev (mSeq (mSet 3 (mFrz (m2 fAdd (mC (.int 60013)) (m2 fMul (mC (.int 8009)) (mRd 1))))) (mSeq (mFor (mItA (m2 fAdd (mSl fCut (mRd 0) mNoP (mPt (mC (.int 5)))) (mLst (mCons (mIm (mRd 2)) mNil)))) (mPut 4) (mSet 3 (m2 (fII iMod) (mF (c1 fInt) (mCons (m2 fAdd (m2 fMul (mRd 3) (mC (.int 28411))) (mRd 4)) mNil)) (mC (.int 2147483087))))) (mRet (mLst (mCons (mIf (mOr (asB (m2 fLt (mRd 2) (mC (.int 0)))) (asB (m2 fGe (mRd 2) (m2 (fII iPow) (mC (.int 10)) (mC (.int 18)))))) (mF (c1 fAbs) (mCons (mRd 2) mNil)) (mC (.int 0))) (mCons (mIm (mRd 3)) (mCons (mC (.int 0)) mNil)))))))
      [.nd .scr (ns.map T.int), .int turn, .int cell, .dead, .dead] fun fl Ts => outO [] fl Ts fun p => ∃ a b, p = (jarT a b 0, []) ∧ JarOk 0 a b 0 := by
    intro cell
    simp
    rw [fMul_int (mul_small (by decide) (by omega))]
    simp [fCut_scr]
    rw [cutT_map]
    have hle : (cutT ns none (some 5)).length + 1 ≤ 16777216 := by
      have : (cutT ns none (some 5)).length ≤ 5 := by
        simp only [cutT, HT.sIx]
        simp
        omega
      omega
    simp [hle]
    rw [show (cutT ns none (some 5)).map T.int ++ [T.int cell] = (cutT ns none (some 5) ++ [cell]).map T.int by simp]
    refine ⟨by omega, ?_⟩
    refine loop_inv (enc := T.int) (fun pre Ts => ∃ (g : Int) (u : T), Ts = [.nd .scr (ns.map T.int), .int turn, .int cell, .int g, u] ∧ 0 ≤ g ∧ g < 2147483399) ⟨60013 + 8009 * turn, .dead, rfl, by omega, by omega⟩ ?_ ?_
    · rintro pre x post e Ts ⟨g, u, rfl, g0, g1⟩
      simp
      rw [fMul_int (mul_small (by omega) (by decide))]
      simp [fMod_int]
      refine Inn.mk ⟨_, _, rfl, Int.emod_nonneg _ (by omega), ?_⟩
      have := Int.emod_lt_of_pos (g * 28411 + x) (show (0 : Int) < 2147483087 by omega)
      omega
    · rintro Ts ⟨g, u, rfl, g0, g1⟩
      simp
      split
      · simp [fAbs]
        exact ⟨by split <;> omega, g0, g1, by omega, by omega⟩
      · split
        · simp [fAbs]
          exact ⟨by split <;> omega, g0, g1, by omega, by omega⟩
        · exact ⟨by omega, g0, g1, by omega, by omega⟩
  unfold m__law_jar
  simp only [List.cons_append, List.nil_append, Nat.reduceSub, List.replicate]
  rw [Ev_mSeq]
  simp
  split
  · rename_i hlt
    rw [atI_of (k := turn) rfl (by simpa using hlt)]
    simp
    simpa using key _
  · rw [fMul_int (mul_small (by decide) (by omega))]
    simp
    simpa using key _
end MI
namespace MI
open PySem L2
@[simp] theorem isIns_full {h : Chart} : isIns "Table" "full" h.tab = some h.tab := isIns_tab' (by decide +kernel)
@[simp] theorem isIns_is_right {h : Chart} : isIns "Table" "is_right" h.tab = some h.tab := isIns_tab' (by decide +kernel)
@[simp] theorem fIsNot_bl {a b : Bool} : fIsNot (.bl a) (.bl b) = some (.bl (!decide (a = b))) := rfl
theorem fNe_str_self {s : Str} (h : okS s = true) : fNe (.str s) (.str s) = some (.bl false) := by rw [fNe_ok (by simpa using h) (by simpa using h)]; simp
end MI
namespace MI
open PySem L2
abbrev bx := Builtin.bitXor
theorem bx_nat (a b : Nat) : bx a b = ((a ^^^ b : Nat) : Int) := by
  show Builtin.bitXor a b = _
  rw [Bits.bitXor_pp (by omega) (by omega)]; simp
theorem bx_nn {a b : Int} (ha : 0 ≤ a) (hb : 0 ≤ b) : 0 ≤ bx a b := Bits.bitXor_nonneg ha hb
theorem nat_of {a : Int} (h : 0 ≤ a) : ∃ n : Nat, a = n := ⟨a.toNat, by omega⟩
def Kind.op (k : Kind) (a b : Int) : Int := k.tog [a, b]
end MI
namespace MI
open PySem L2
mutual
theorem eqT_self : ∀ (t : T) (n : Nat), okD n t = true → PyData.eqv (toD t) (toD t) = true
  | .dead, n, h => by cases n <;> simp [okD] at h
  | .non, _, _ => by simp [toD, PyData.eqv]
  | .bl b, _, _ => by simp [toD, PyData.eqv]
  | .int i, _, _ => by simp [toD, PyData.eqv]
  | .str s, _, _ => by simp [toD, PyData.eqv]
  | .nd k ts, 0, h => by simp [okD] at h
  | .nd k ts, n + 1, h => by
    rw [okD_nd, Bool.and_eq_true] at h
    have ih := eqTL_self ts n h.2
    by_cases hk : k.isTup = true
    · simp only [toD, hk, if_true, PyData.eqv]; exact ih
    · simp only [toD, hk, if_false, PyData.eqv, Bool.false_eq_true]; exact ih
theorem eqTL_self : ∀ (ts : List T) (n : Nat), okDL n ts = true → PyData.eqvAll (toDL ts) (toDL ts) = true
  | [], _, _ => by simp [PyData.eqvAll]
  | t :: ts, n, h => by
    rw [okDL_cons, Bool.and_eq_true] at h
    simp only [toDL_cons, PyData.eqvAll, eqT_self t n h.1, eqTL_self ts n h.2, Bool.and_self]
end
def Cell.nm : Cell → Prop
  | .sum s => nameB s = true
  | .datum _ => True
theorem okD_cell {n : Nat} {c : Cell} (h : c.nm) : okD (n + 1) c.t = true := by
  cases c with
  | sum s => simp [Cell.t, okS_name (show nameB s = true from h)]
  | datum k => simp [Cell.t]
theorem cell_nm {h : Chart} (w : h.Wf) {c : Cell} (hc : c ∈ h.cells) : c.nm := by
  have := cells_mem hc
  cases c with
  | sum s => exact w.sn s this
  | datum n => trivial
def Kind.isDial : Kind → Bool
  | .dial _ => true
  | _ => false
@[simp] theorem isB_int_kind {k : Kind} : isB .int k.t = some (.bl k.isDial) := by cases k <;> rfl
@[simp] theorem fIx_chart0 {h : Chart} : fIx h.l (.int 0) = some h.kind.t := by simp [Chart.l]
@[simp] theorem fIx_chart1 {h : Chart} : fIx h.l (.int 1) = some (.nd (.lst false) (h.cols.map Col.l)) := by simp [Chart.l]
theorem val_weaken {k : Kind} {a b v : Int} (hab : a ≤ b) (h : k.val a v) : k.val b v := by
  cases k with
  | bits => exact h
  | plain => obtain ⟨h1, h2⟩ := h; exact ⟨by omega, by omega⟩
  | dial m => exact h
end MI
namespace MI
open PySem L2
def Chart.both (h : Chart) (vs us : List Int) : List Int := (List.range h.data.length).map fun k => h.kind.op (vs.getD k 0) (us.getD k 0)
end MI
namespace MI
open PySem L2
structure WellOk (n : Nat) (a b c : Int) : Prop where
  a0 : 0 ≤ a
  b0 : 0 ≤ b
  b1 : b < 2147483423
  c0 : 0 ≤ c
  c1 : c ≤ n
theorem WellOk.mono {n m : Nat} {a b c : Int} (h : WellOk n a b c) (hm : n ≤ m) : WellOk m a b c := ⟨h.a0, h.b0, h.b1, h.c0, by have := h.c1; omega⟩
end MI
namespace MI
open PySem L2
def Chart.s (h : Chart) : T := .nd (.lst false) [h.kind.t, .nd (.lst false) (h.cols.map Col.t)]
@[simp] theorem live_s {h : Chart} : h.s.live = true := rfl
@[simp] theorem imm_s {h : Chart} : h.s.imm = true := by simp [Chart.s]
@[simp] theorem fIx_s0 {h : Chart} : fIx h.s (.int 0) = some h.kind.t := by simp [Chart.s]
@[simp] theorem fIx_s1 {h : Chart} : fIx h.s (.int 1) = some (.nd (.lst false) (h.cols.map Col.t)) := by simp [Chart.s]
def tagsA : List (List Str) := [["p", "q", "r", "s", "t"], ["b", "a", "sum", "zz", "one"]]
end MI
namespace MI
open PySem L2
end MI
namespace MI
open PySem L2
def Kind.sub (k : Kind) (x y : Int) : Int := match k with
  | .bits => bx x y
  | .plain => x - y
  | .dial m => (x - y) % m
def Cell.x : Cell → T
  | .sum s => .str s
  | .datum n => .int n
@[simp] theorem imm_x {c : Cell} : c.x.imm = true := by cases c <;> simp [Cell.x]
@[simp] theorem live_x {c : Cell} : c.x.live = true := by cases c <;> rfl
@[simp] theorem fz_x {c : Cell} : c.x.fz = c.x := T.fz_imm _ imm_x
@[simp] theorem fIx_cell1 {c : Cell} : fIx c.t (.int 1) = some c.x := by cases c <;> simp [Cell.t, Cell.x]
def Chart.lk (h : Chart) (vs : List Int) (c : Cell) (told : Int) : T := .nd .tup [c.x, .int (h.kind.sub (h.cv (h.dataOf vs) c) told)]
def Chart.lackB (h : Chart) (vs : List Int) (p : Cell × Int) : Bool := decide (p.2 ≠ h.cv (h.dataOf vs) p.1)
def Chart.lacks (h : Chart) (vs : List Int) : List T := ((h.cells.zip vs).filter (h.lackB vs)).map fun p => h.lk vs p.1 p.2
end MI
namespace MI
open PySem L2
def pickO (π : List Nat) (n : Nat) (ts : List T) : Option (List T) := if immL ts && decide (ts.length = n) then some (pick π ts) else none
@[simp] theorem Ev_mPick {π : List Nat} {n : Nat} {fs : M (List T)} {Ts : List T} {Q : List T → List T → Prop} : Ev (mPick π n fs) Ts Q ↔ Ev fs Ts fun ts Ts => EvO (pickO π n ts) fun r => Q r Ts := by
  rw [show mPick π n fs = mRng (pickO π n) fs from rfl]; exact Ev_mRng
end MI
namespace MI
open PySem L2
theorem range_pre {L x : Nat} {pre post : List Nat} (e : List.range L = pre ++ x :: post) : x = pre.length ∧ pre.length < L := by
  have hl := congrArg List.length e
  simp at hl
  have h1 : (List.range L)[pre.length]? = some x := by rw [e]; simp
  rw [List.getElem?_range (by omega)] at h1
  injection h1 with h1
  exact ⟨h1.symm, by omega⟩
@[simp] theorem fz_s {h : Chart} : h.s.fz = h.s := T.fz_imm _ imm_s
end MI
namespace MI
open PySem L2
section
variable {Ts : List T} {Q : T → List T → Prop} {QF : Fl → List T → Prop}
@[simp] theorem Ev_wrD {i : Nat} {p : List Nat} {k v : T} : Ev (wrD i p k v) Ts QF ↔ EvO (subT p (slot Ts i)) fun n => n.ownNd = true ∧ EvO (fStD n [k, v]) fun r => QF .nx (Ts.set i (setT p (slot Ts i) r.2)) := by
  show Ev0 _ _ _ ↔ EvO0 _ _
  cases h : subT p (slot Ts i) with
  | none => rw [Ev0_no (by unfold wrD; simp only [h])]; simp
  | some n =>
    by_cases q : n.ownNd = true
    · cases h2 : fStD n [k, v] with
      | none => rw [Ev0_no (by unfold wrD; simp only [h, q, h2, if_true])]; simp [h2]
      | some r => obtain ⟨r1, r2⟩ := r; rw [Ev0_is (a := .nx) (s := Ts.set i (setT p (slot Ts i) r2)) (by unfold wrD; simp only [h, q, h2, if_true])]; simp [q, h2]
    · rw [Ev0_no (by unfold wrD; simp only [h]; rw [if_neg q])]; simp [q]
theorem Ev0_mSetD {i : Nat} {mp : M (List Nat)} {fk fa : M T} : Ev0 (mSetD i mp fk fa) Ts QF ↔ Ev0 fa Ts fun v Ts => Ev0 mp Ts fun p Ts => Ev0 fk Ts fun k Ts => Ev0 (wrD i p k v) Ts QF := by simp [mSetD]
@[simp] theorem Ev_mSetD {i : Nat} {mp : M (List Nat)} {fk fa : M T} : Ev (mSetD i mp fk fa) Ts QF ↔ Ev fa Ts fun v Ts => Ev mp Ts fun p Ts => Ev fk Ts fun k Ts => Ev (wrD i p k v) Ts QF := Ev0_mSetD
def disp1 (k v : T) : Option T := (keyOf k).bind fun q => if v.imm then some (.nd (.dK true [q]) [v]) else none
theorem Ev0_mDisp1 {fk fv : M T} : Ev0 (mDisp1 fk fv) Ts Q ↔ Ev0 fk Ts fun k Ts => Ev0 fv Ts fun v Ts => EvO0 (disp1 k v) fun t => Q t Ts := by
  rw [show mDisp1 fk fv = bnd fk fun k => bnd fv fun v => lft (disp1 k v) from rfl]
  simp only [Ev0_bnd, Ev0_lft]
@[simp] theorem Ev_mDisp1 {fk fv : M T} : Ev (mDisp1 fk fv) Ts Q ↔ Ev fk Ts fun k Ts => Ev fv Ts fun v Ts => EvO (disp1 k v) fun t => Q t Ts := Ev0_mDisp1
theorem Ev0_mGet2 {fa fb fc : M T} : Ev0 (mGet2 fa fb fc) Ts Q ↔ Ev0 fa Ts fun a Ts => isDct a = true ∧ Ev0 fb Ts fun b Ts => Ev0 fc Ts fun c Ts => EvO0 (fGet2 a b c) fun t => Q t Ts := by
  have : ∀ a Ts, Ev0 (if isDct a then bnd fb fun b => bnd fc fun c => lft (fGet2 a b c) else fun _ => none) Ts Q ↔ isDct a = true ∧ Ev0 fb Ts fun b Ts => Ev0 fc Ts fun c Ts => EvO0 (fGet2 a b c) fun t => Q t Ts := fun a Ts => by
    by_cases h : isDct a = true
    · rw [if_pos h]; simp only [Ev0_bnd, Ev0_lft, h, true_and]
    · rw [if_neg h]; simp [h]
  unfold mGet2
  simp only [Ev0_bnd, this]
@[simp] theorem Ev_mGet2 {fa fb fc : M T} : Ev (mGet2 fa fb fc) Ts Q ↔ Ev fa Ts fun a Ts => isDct a = true ∧ Ev fb Ts fun b Ts => Ev fc Ts fun c Ts => EvO (fGet2 a b c) fun t => Q t Ts := Ev0_mGet2
@[simp] theorem Ev_mFzS {i : Nat} {f : M T} : Ev (mFzS i f) Ts Q ↔ (slot Ts i).live = true ∧ Ev f (Ts.set i (slot Ts i).fz) Q := by
  show Ev0 _ _ _ ↔ _ ∧ Ev0 _ _ _
  unfold Ev0 mFzS
  cases h : slot Ts i <;> simp [T.live]
end
end MI
namespace MI
open PySem L2
theorem Ev0_mConsL {s : Nat} {fs : M (List T)} {Ts : List T} {QL : List T → List T → Prop} : Ev0 (mConsL s fs) Ts QL ↔ (slot Ts s).live = true ∧ Ev0 fs Ts fun ts Ts => Ev0 (mLn s) Ts fun t Ts => QL (t :: ts) Ts := by
  have e : ∀ t : T, t.live = true → (match t with
    | .dead => none
    | _ => (bnd fs fun ts => bnd (mLn s) fun t => ret (t :: ts)) Ts) = (bnd fs fun ts => bnd (mLn s) fun t => ret (t :: ts)) Ts := fun t ht => by cases t <;> first | rfl | cases ht
  by_cases h : (slot Ts s).live = true
  · have : mConsL s fs Ts = (bnd fs fun ts => bnd (mLn s) fun t => ret (t :: ts)) Ts := e _ h
    have h2 : Ev0 (mConsL s fs) Ts QL ↔ Ev0 (bnd fs fun ts => bnd (mLn s) fun t => ret (t :: ts)) Ts QL := by
      show (∃ a Ts', mConsL s fs Ts = some (a, Ts') ∧ QL a Ts') ↔ _
      rw [this]; rfl
    rw [h2]
    simp only [Ev0_bnd, Ev0_ret, h, true_and]
  · rw [Ev0_no]
    · simp [h]
    · unfold mConsL
      cases h2 : slot Ts s <;> first | rfl | (rw [h2] at h; exact absurd rfl h)
@[simp] theorem Ev_mConsL {s : Nat} {fs : M (List T)} {Ts : List T} {QL : List T → List T → Prop} : Ev (mConsL s fs) Ts QL ↔ (slot Ts s).live = true ∧ Ev fs Ts fun ts Ts => Ev (mLn s) Ts fun t Ts => QL (t :: ts) Ts := Ev0_mConsL
@[simp] theorem keyOf_kT {q : Key} : keyOf (kT' q) = some q := by cases q <;> rfl
theorem kIx_no {ks : List Key} {q : Key} (h : q ∉ ks) : kIx ks q = none := by
  unfold kIx
  rw [List.findIdx?_eq_none_iff]
  intro x hx
  have : x ≠ q := fun e => h (e ▸ hx)
  simp [this]
section
variable {α : Type}
end
end MI
namespace MI
def su {α : Type} (l : List α) (f : α → Int) : Int := match l with
  | [] => 0
  | a :: l => f a + su l f
section
variable {α β : Type}
@[simp] theorem su_nil {f : α → Int} : su [] f = 0 := rfl
@[simp] theorem su_cons {f : α → Int} {a : α} {l : List α} : su (a :: l) f = f a + su l f := rfl
theorem su_append {f : α → Int} {l m : List α} : su (l ++ m) f = su l f + su m f := by
  induction l with
  | nil => simp
  | cons a l ih => simp [ih, Int.add_assoc]
theorem su_congr {f g : α → Int} {l : List α} (h : ∀ a ∈ l, f a = g a) : su l f = su l g := by
  induction l with
  | nil => rfl
  | cons a l ih => rw [su_cons, su_cons, h a (by simp), ih fun b hb => h b (by simp [hb])]
theorem su_add {f g : α → Int} {l : List α} : su l (fun a => f a + g a) = su l f + su l g := by
  induction l with
  | nil => rfl
  | cons a l ih => simp only [su_cons, ih]; omega
theorem su_sub {f g : α → Int} {l : List α} : su l (fun a => f a - g a) = su l f - su l g := by
  induction l with
  | nil => rfl
  | cons a l ih => simp only [su_cons, ih]; omega
theorem su_map {f : β → Int} {g : α → β} {l : List α} : su (l.map g) f = su l fun a => f (g a) := by
  induction l with
  | nil => rfl
  | cons a l ih => simp [ih]
theorem su_filter {f : α → Int} {p : α → Bool} {l : List α} : su (l.filter p) f = su l fun a => if p a then f a else 0 := by
  induction l with
  | nil => rfl
  | cons a l ih =>
    by_cases h : p a = true
    · rw [List.filter_cons_of_pos h, su_cons, su_cons, ih, if_pos h]
    · rw [List.filter_cons_of_neg h, su_cons, ih, if_neg h]; omega
end
section
variable {N : Type} [DecidableEq N]
def ends (p : N × N) (s : N) : Bool := decide (s = p.1) || decide (s = p.2)
theorem ends_iff {p : N × N} {s : N} : ends p s = true ↔ s = p.1 ∨ s = p.2 := by simp [ends]
def onL (ps : List (N × N)) (k : Nat) (F : N × N → Int) : Int := match ps[k]? with
  | some p => F p
  | none => 0
def bd (ps : List (N × N)) (f : Nat → Int) (s : N) : Int := su (List.range ps.length) fun k => onL ps k fun p => if ends p s then f k else 0
theorem bd_congr {ps : List (N × N)} {f g : Nat → Int} {s : N} (h : ∀ k, k < ps.length → f k = g k) : bd ps f s = bd ps g s :=
  su_congr fun k hk => by
    have := h k (by simpa using hk)
    rw [this]
theorem bd_add {ps : List (N × N)} {f g : Nat → Int} {s : N} : bd ps (fun k => f k + g k) s = bd ps f s + bd ps g s := by
  unfold bd
  rw [← su_add]
  refine su_congr fun k _ => ?_
  unfold onL
  cases ps[k]? with
  | none => rfl
  | some p => by_cases h : ends p s = true <;> simp [h]
theorem bd_sub {ps : List (N × N)} {f g : Nat → Int} {s : N} : bd ps (fun k => f k - g k) s = bd ps f s - bd ps g s := by
  unfold bd
  rw [← su_sub]
  refine su_congr fun k _ => ?_
  unfold onL
  cases ps[k]? with
  | none => rfl
  | some p => by_cases h : ends p s = true <;> simp [h]
structure Pt (N : Type) where
  start : N
  signs : List (N × Int)
  ways : List (N × Nat × N)
  lines : List Nat
  stubs : List Nat
  odd : List Nat
def sg (l : List (N × Int)) (s : N) : Int := match l with
  | [] => 0
  | p :: l => if p.1 = s then p.2 else sg l s
theorem sg_not {l : List (N × Int)} {s : N} (h : s ∉ l.map Prod.fst) : sg l s = 0 := by
  induction l with
  | nil => rfl
  | cons p l ih =>
    simp at h
    rw [sg, if_neg fun e => h.1 e.symm]
    exact ih (by simpa using h.2)
theorem sg_mem {l : List (N × Int)} {p : N × Int} (hn : (l.map Prod.fst).Nodup) (h : p ∈ l) : sg l p.1 = p.2 := by
  induction l with
  | nil => cases h
  | cons q l ih =>
    rw [List.map_cons, List.nodup_cons] at hn
    rw [sg]
    rcases List.mem_cons.mp h with rfl | h
    · rw [if_pos rfl]
    · rw [if_neg fun (e : q.1 = p.1) => hn.1 (e ▸ List.mem_map_of_mem h)]
      exact ih hn.2 h
theorem sg_append {l m : List (N × Int)} {s : N} : sg (l ++ m) s = if s ∈ l.map Prod.fst then sg l s else sg m s := by
  induction l with
  | nil => simp
  | cons p l ih =>
    rw [List.cons_append, sg, sg, ih]
    by_cases e : p.1 = s
    · simp [e]
    · rw [if_neg e, if_neg e, List.map_cons]
      simp only [List.mem_cons, show s ≠ p.1 from fun z => e z.symm, false_or]
structure Pt.Ok (ps : List (N × N)) (ns : List Nat) (left : List N) (P : Pt N) : Prop where
  nodup : (P.signs.map Prod.fst).Nodup
  left_ : ∀ q ∈ P.signs, q.1 ∈ left
  pm : ∀ q ∈ P.signs, q.2 = 1 ∨ q.2 = -1
  first : sg P.signs P.start = 1
  line : ∀ n, n ∈ P.lines ↔ n ∈ ns ∧ ∃ p, ps[n]? = some p ∧ (p.1 ∈ P.signs.map Prod.fst ∨ p.2 ∈ P.signs.map Prod.fst)
  stub : ∀ n, n ∈ P.stubs ↔ n ∈ P.lines ∧ ∃ p, ps[n]? = some p ∧ (p.1 ∉ left ∨ p.2 ∉ left)
  odds : ∀ n, n ∈ P.odd ↔ n ∈ P.lines ∧ ∃ p, ps[n]? = some p ∧ p.1 ∈ left ∧ p.2 ∈ left ∧ sg P.signs p.1 = sg P.signs p.2
  clos : ∀ n ∈ ns, ∀ p, ps[n]? = some p → p.1 ∈ left → p.2 ∈ left → (p.1 ∈ P.signs.map Prod.fst ↔ p.2 ∈ P.signs.map Prod.fst)
  reachA : ∃ a : Nat → Int, (∀ n, a n = 1 ∨ a n = -1) ∧ ∀ q ∈ P.signs, ∃ f : Nat → Int, (∀ n, f n = 0 ∨ f n = - q.2 * a n) ∧ (∀ n, n ∉ P.ways.map (fun w => w.2.1) → f n = 0) ∧ (∀ n, n ∉ ns → f n = 0) ∧ ∀ s ∈ left, bd ps f s = (if s = q.1 then 1 else 0) - q.2 * (if s = P.start then 1 else 0)
  least : ∀ C : N → Prop, (∀ n ∈ ns, ∀ p, ps[n]? = some p → p.1 ∈ left → p.2 ∈ left → (C p.1 ↔ C p.2)) → C P.start → ∀ q ∈ P.signs, C q.1
  wkeys : P.signs.map Prod.fst = P.start :: P.ways.map Prod.fst
  wline : ∀ pre x n h post, P.ways = pre ++ (x, n, h) :: post → (h = P.start ∨ h ∈ pre.map Prod.fst) ∧ n ∈ P.lines ∧ (∃ p, ps[n]? = some p ∧ ((p.1 = x ∧ p.2 = h) ∨ (p.1 = h ∧ p.2 = x))) ∧ sg P.signs x = - sg P.signs h
  wnod : (P.ways.map fun w => w.2.1).Nodup
  nlines : P.lines.Nodup
  nstubs : P.stubs.Nodup
  nodd : P.odd.Nodup
end
end MI
namespace MI
section
variable {N : Type} [DecidableEq N]
def Chg (ps : List (N × N)) (ns : List Nat) (left : List N) (m : Int) (f : Nat → Int) : Prop := (∀ n, n ∉ ns → f n = 0) ∧ ∀ s ∈ left, m ∣ bd ps f s
inductive Srt | bits | even | odd | plain
deriving DecidableEq
def Srt.fits : Srt → Int → Prop
  | .bits, m => m = 2
  | .plain, m => m = 0
  | .even, m => 4 ≤ m ∧ m % 2 = 0
  | .odd, m => 3 ≤ m ∧ m % 2 = 1
def Pt.tight (P : Pt N) (s : Srt) : Bool := P.stubs.isEmpty && (decide (s = .bits) || P.odd.isEmpty)
def Pt.step (P : Pt N) (e : N) (s : Srt) : Bool := P.tight s && (decide (e ∉ P.signs.map Prod.fst) || ((decide (s = .odd) || decide (s = .plain)) && decide (sg P.signs e = 1)))
variable {ps : List (N × N)} {ns : List Nat} {left : List N} {P : Pt N} {m : Int} {s : Srt}
end
end MI
namespace MI
section
variable {N : Type} [DecidableEq N]
variable {ps : List (N × N)} {ns : List Nat} {left : List N} {P : Pt N} {m : Int} {s : Srt}
def Srt.k : Srt → Int
  | .bits => 1
  | _ => 2
end
end MI
namespace MI
section
variable {N : Type} [DecidableEq N]
abbrev Pt.keys (P : Pt N) : List N := P.signs.map Prod.fst
structure Pt.Inv (ps : List (N × N)) (ns : List Nat) (left : List N) (P : Pt N) (wait : List N) (here : N) (rest : List Nat) : Prop where
  nodup : P.keys.Nodup
  left_ : ∀ q ∈ P.signs, q.1 ∈ left
  pm : ∀ q ∈ P.signs, q.2 = 1 ∨ q.2 = -1
  first : sg P.signs P.start = 1
  line : ∀ n ∈ P.lines, n ∈ ns ∧ ∃ p, ps[n]? = some p ∧ (p.1 ∈ P.keys ∨ p.2 ∈ P.keys) ∧ (p.1 ∈ left → p.2 ∈ left → p.1 ∈ P.keys ∧ p.2 ∈ P.keys)
  stub : ∀ n, n ∈ P.stubs ↔ n ∈ P.lines ∧ ∃ p, ps[n]? = some p ∧ (p.1 ∉ left ∨ p.2 ∉ left)
  odds : ∀ n, n ∈ P.odd ↔ n ∈ P.lines ∧ ∃ p, ps[n]? = some p ∧ p.1 ∈ left ∧ p.2 ∈ left ∧ sg P.signs p.1 = sg P.signs p.2
  reachA : ∃ a : Nat → Int, (∀ n, a n = 1 ∨ a n = -1) ∧ ∀ q ∈ P.signs, ∃ f : Nat → Int, (∀ n, f n = 0 ∨ f n = - q.2 * a n) ∧ (∀ n, n ∉ P.ways.map (fun w => w.2.1) → f n = 0) ∧ (∀ n, n ∉ ns → f n = 0) ∧ ∀ s ∈ left, bd ps f s = (if s = q.1 then 1 else 0) - q.2 * (if s = P.start then 1 else 0)
  least : ∀ C : N → Prop, (∀ n ∈ ns, ∀ p, ps[n]? = some p → p.1 ∈ left → p.2 ∈ left → (C p.1 ↔ C p.2)) → C P.start → ∀ q ∈ P.signs, C q.1
  wkeys : P.keys = P.start :: P.ways.map Prod.fst
  wline : ∀ pre x n h post, P.ways = pre ++ (x, n, h) :: post → (h = P.start ∨ h ∈ pre.map Prod.fst) ∧ n ∈ P.lines ∧ (∃ p, ps[n]? = some p ∧ ((p.1 = x ∧ p.2 = h) ∨ (p.1 = h ∧ p.2 = x))) ∧ sg P.signs x = - sg P.signs h
  wnod : (P.ways.map fun w => w.2.1).Nodup
  nlines : P.lines.Nodup
  nstubs : P.stubs.Nodup
  nodd : P.odd.Nodup
  wait_ : ∀ x ∈ wait, x ∈ P.keys
  todo : ∀ x ∈ P.keys, ∀ n ∈ ns, ∀ p, ps[n]? = some p → ends p x = true → n ∈ P.lines ∨ x ∈ wait ∨ (x = here ∧ n ∈ rest)
variable {ps : List (N × N)} {ns : List Nat} {left wait : List N} {P : Pt N} {here : N} {rest : List Nat}
theorem Pt.Inv.ok (h : P.Inv ps ns left [] here []) : P.Ok ps ns left where
  nodup := h.nodup
  left_ := h.left_
  pm := h.pm
  first := h.first
  line n := by
    constructor
    · intro hn
      obtain ⟨a, p, b, c, _⟩ := h.line n hn
      exact ⟨a, p, b, c⟩
    · rintro ⟨hn, p, hp, hk⟩
      have key : ∀ x ∈ P.keys, ends p x = true → n ∈ P.lines := fun x hx he => by
        rcases h.todo x hx n hn p hp he with z | z | z
        · exact z
        · cases z
        · cases z.2
      rcases hk with z | z
      · exact key _ z (by simp [ends])
      · exact key _ z (by simp [ends])
  stub := h.stub
  odds := h.odds
  clos n hn p hp l1 l2 := by
    have key : ∀ x ∈ P.keys, ends p x = true → p.1 ∈ P.keys ∧ p.2 ∈ P.keys := fun x hx he => by
      rcases h.todo x hx n hn p hp he with z | z | z
      · obtain ⟨_, p', hp', _, hb⟩ := h.line n z
        rw [hp] at hp'; cases hp'
        exact hb l1 l2
      · cases z
      · cases z.2
    exact ⟨fun z => (key _ z (by simp [ends])).2, fun z => (key _ z (by simp [ends])).1⟩
  reachA := h.reachA
  least := h.least
  wkeys := h.wkeys
  wline := h.wline
  wnod := h.wnod
  nlines := h.nlines
  nstubs := h.nstubs
  nodd := h.nodd
def Pt.take (P : Pt N) (n : Nat) (here other : N) (left : List N) : Pt N × List N :=
  if other ∉ left then ({ P with lines := P.lines ++ [n], stubs := P.stubs ++ [n] }, [])
  else if other ∉ P.keys then ({ P with lines := P.lines ++ [n], signs := P.signs ++ [(other, - sg P.signs here)], ways := P.ways ++ [(other, n, here)] }, [other])
  else if sg P.signs other = sg P.signs here then ({ P with lines := P.lines ++ [n], odd := P.odd ++ [n] }, [])
  else ({ P with lines := P.lines ++ [n] }, [])
def other (p : N × N) (x : N) : N := if x = p.1 then p.2 else p.1
theorem other_ends {p : N × N} {x : N} (h : ends p x = true) : (x = p.1 ∧ other p x = p.2) ∨ (x = p.2 ∧ other p x = p.1) := by
  unfold other
  by_cases e : x = p.1
  · rw [if_pos e]; exact .inl ⟨e, rfl⟩
  · rw [if_neg e]; exact .inr ⟨(ends_iff.mp h).resolve_left e, rfl⟩
theorem Pt.Inv.inner {n : Nat} {p : N × N} {od : List Nat} (h : P.Inv ps ns left wait here (n :: rest)) (hp : ps[n]? = some p) (he : ends p here = true) (hh : here ∈ P.keys) (hn : n ∈ ns) (hl : n ∉ P.lines) (ho : other p here ∈ P.keys) (hod : od = if sg P.signs (other p here) = sg P.signs here then P.odd ++ [n] else P.odd) :
    ({ P with lines := P.lines ++ [n], odd := od } : Pt N).Inv ps ns left wait here rest := by
  have hb : p.1 ∈ P.keys ∧ p.2 ∈ P.keys := by
    rcases other_ends he with ⟨a, b⟩ | ⟨a, b⟩
    · exact ⟨a ▸ hh, b ▸ ho⟩
    · exact ⟨b ▸ ho, a ▸ hh⟩
  have hL : ∀ x ∈ P.keys, x ∈ left := fun x hx => by
    obtain ⟨q, hq, rfl⟩ := List.mem_map.mp hx; exact h.left_ q hq
  have hs : (sg P.signs p.1 = sg P.signs p.2) ↔ sg P.signs (other p here) = sg P.signs here := by
    rcases other_ends he with ⟨a, b⟩ | ⟨a, b⟩
    · rw [b, a]; exact eq_comm
    · rw [b, a]
  exact { h with
    line := fun k hk => by
      rcases List.mem_append.mp hk with z | z
      · exact h.line k z
      · rw [List.mem_singleton.mp z]
        exact ⟨hn, p, hp, .inl hb.1, fun _ _ => hb⟩
    stub := fun k => by
      rw [h.stub k]
      constructor
      · rintro ⟨z, y⟩; exact ⟨List.mem_append_left _ z, y⟩
      · rintro ⟨z, q, hq, e⟩
        rcases List.mem_append.mp z with z | z
        · exact ⟨z, q, hq, e⟩
        · rw [List.mem_singleton.mp z] at hq
          rw [hp] at hq; cases hq
          rcases e with e | e
          · exact absurd (hL _ hb.1) e
          · exact absurd (hL _ hb.2) e
    odds := fun k => by
      show k ∈ od ↔ _
      rw [hod]
      have key : k ∈ P.odd ↔ k ∈ P.lines ∧ ∃ p, ps[k]? = some p ∧ p.1 ∈ left ∧ p.2 ∈ left ∧ sg P.signs p.1 = sg P.signs p.2 := h.odds k
      by_cases e : sg P.signs (other p here) = sg P.signs here
      · rw [if_pos e, List.mem_append, List.mem_append, key, List.mem_singleton]
        constructor
        · rintro (⟨z, y⟩ | rfl)
          · exact ⟨.inl z, y⟩
          · exact ⟨.inr rfl, p, hp, hL _ hb.1, hL _ hb.2, hs.mpr e⟩
        · rintro ⟨z | z, y⟩
          · exact .inl ⟨z, y⟩
          · exact .inr z
      · rw [if_neg e, List.mem_append, key, List.mem_singleton]
        constructor
        · rintro ⟨z, y⟩; exact ⟨.inl z, y⟩
        · rintro ⟨z | z, q, hq, l1, l2, y⟩
          · exact ⟨z, q, hq, l1, l2, y⟩
          · rw [z, hp] at hq; cases hq
            exact absurd (hs.mp y) e
    wline := fun pre x k y post e => by
      obtain ⟨a, b, c⟩ := h.wline pre x k y post e
      exact ⟨a, List.mem_append_left _ b, c⟩
    nlines := by
      refine List.nodup_append.mpr ⟨h.nlines, by simp, fun a ha b hb => ?_⟩
      rw [List.mem_singleton.mp hb]; rintro rfl; exact hl ha
    nodd := by
      show od.Nodup
      rw [hod]
      split
      · refine List.nodup_append.mpr ⟨h.nodd, by simp, fun a ha b hb => ?_⟩
        rw [List.mem_singleton.mp hb]; rintro rfl; exact hl ((h.odds a).mp ha).1
      · exact h.nodd
    todo := fun y hy k hk q hq hE => by
      rcases h.todo y hy k hk q hq hE with z | z | z
      · exact .inl (List.mem_append_left _ z)
      · exact .inr (.inl z)
      · rcases List.mem_cons.mp z.2 with e | e
        · exact .inl (List.mem_append_right _ (by simp [e]))
        · exact .inr (.inr ⟨z.1, e⟩) }
theorem nodup_len {α : Type} [DecidableEq α] : ∀ {xs ys : List α}, xs.Nodup → (∀ x ∈ xs, x ∈ ys) → xs.length ≤ ys.length
  | [], _, _, _ => Nat.zero_le _
  | x :: xs, ys, hn, hs => by
    rw [List.nodup_cons] at hn
    have h1 : x ∈ ys := hs x (by simp)
    have h2 := nodup_len (xs := xs) (ys := ys.erase x) hn.2 fun y hy => (List.mem_erase_of_ne fun (e : y = x) => hn.1 (e ▸ hy)).mpr (hs y (by simp [hy]))
    have h3 := List.length_erase_of_mem h1
    have h4 := List.length_pos_of_mem h1
    rw [List.length_cons]; omega
theorem Pt.Inv.len (h : P.Inv ps ns left wait here rest) : P.keys.length ≤ left.length :=
  nodup_len h.nodup fun x hx => by obtain ⟨q, hq, rfl⟩ := List.mem_map.mp hx; exact h.left_ q hq
end
end MI
namespace MI
section
variable {N : Type} [DecidableEq N]
variable {ps : List (N × N)} {ns : List Nat} {left : List N} {P : Pt N}
end
end MI
namespace MI
open PySem L2
def sK (s : Str) : Key := .inr s
def partF : List Str := ["start", "signs", "ways", "lines", "stubs", "odd"]
def wayT (w : Str × Nat × Str) : T := .nd .tup [natT w.2.1, .str w.2.2]
def sgnT (q : Str × Int) : T := .int q.2
def signsD (o : Bool) (l : List (Str × Int)) : T := .nd (.dK o (l.map fun q => sK q.1)) (l.map sgnT)
def waysD (o : Bool) (l : List (Str × Nat × Str)) : T := .nd (.dK o (l.map fun q => sK q.1)) (l.map wayT)
def Pt.t (o : Bool) (P : Pt Str) : T := .nd (.ins o "Part" partF) [.str P.start, signsD o P.signs, waysD o P.ways, .nd (.lst o) (P.lines.map natT), .nd (.lst o) (P.stubs.map natT), .nd (.lst o) (P.odd.map natT)]
@[simp] theorem live_Pt {o : Bool} {P : Pt Str} : (P.t o).live = true := rfl
@[simp] theorem imm_sgnT {q : Str × Int} : (sgnT q).imm = true := by simp [sgnT]
@[simp] theorem imm_wayT {q : Str × Nat × Str} : (wayT q).imm = true := by simp [wayT]
@[simp] theorem immL_sgnT {l : List (Str × Int)} : immL (l.map sgnT) = true := immL_map (fun _ => imm_sgnT) l
@[simp] theorem immL_wayT {l : List (Str × Nat × Str)} : immL (l.map wayT) = true := immL_map (fun _ => imm_wayT) l
@[simp] theorem fzL_sgnT {l : List (Str × Int)} : fzL (l.map sgnT) = l.map sgnT := fzL_imm _ immL_sgnT
@[simp] theorem fzL_wayT {l : List (Str × Nat × Str)} : fzL (l.map wayT) = l.map wayT := fzL_imm _ immL_wayT
@[simp] theorem live_signsD {o : Bool} {l : List (Str × Int)} : (signsD o l).live = true := rfl
@[simp] theorem live_waysD {o : Bool} {l : List (Str × Nat × Str)} : (waysD o l).live = true := rfl
@[simp] theorem fz_signsD {o : Bool} {l : List (Str × Int)} : (signsD o l).fz = signsD false l := by simp [signsD]
@[simp] theorem fz_waysD {o : Bool} {l : List (Str × Nat × Str)} : (waysD o l).fz = waysD false l := by simp [waysD]
@[simp] theorem fz_Pt {o : Bool} {P : Pt Str} : (P.t o).fz = P.t false := by simp [Pt.t]
@[simp] theorem imm_Pt {P : Pt Str} : (P.t false).imm = true := by simp [Pt.t, signsD, waysD]
@[simp] theorem imm_PtO {P : Pt Str} : (P.t true).imm = false := by simp [Pt.t, signsD, waysD]
@[simp] theorem ownNd_signsD {o : Bool} {l : List (Str × Int)} : (signsD o l).ownNd = o := rfl
@[simp] theorem ownNd_waysD {o : Bool} {l : List (Str × Nat × Str)} : (waysD o l).ownNd = o := rfl
@[simp] theorem isDct_signsD {o : Bool} {l : List (Str × Int)} : isDct (signsD o l) = true := rfl
@[simp] theorem fFld_start {o : Bool} {P : Pt Str} : fFld "Part" "start" (P.t o) = some (.str P.start) := by cases o <;> rfl
@[simp] theorem fFld_signs {o : Bool} {P : Pt Str} : fFld "Part" "signs" (P.t o) = some (signsD o P.signs) := by cases o <;> rfl
@[simp] theorem fFld_ways {o : Bool} {P : Pt Str} : fFld "Part" "ways" (P.t o) = some (waysD o P.ways) := by cases o <;> rfl
@[simp] theorem fFld_lines {o : Bool} {P : Pt Str} : fFld "Part" "lines" (P.t o) = some (.nd (.lst o) (P.lines.map natT)) := by cases o <;> rfl
@[simp] theorem fFld_stubs {o : Bool} {P : Pt Str} : fFld "Part" "stubs" (P.t o) = some (.nd (.lst o) (P.stubs.map natT)) := by cases o <;> rfl
@[simp] theorem fFld_odd {o : Bool} {P : Pt Str} : fFld "Part" "odd" (P.t o) = some (.nd (.lst o) (P.odd.map natT)) := by cases o <;> rfl
@[simp] theorem stepF_signs {o : Bool} {P : Pt Str} : stepF "Part" "signs" (P.t o) = some 1 := by cases o <;> rfl
@[simp] theorem stepF_ways {o : Bool} {P : Pt Str} : stepF "Part" "ways" (P.t o) = some 2 := by cases o <;> rfl
@[simp] theorem stepF_lines {o : Bool} {P : Pt Str} : stepF "Part" "lines" (P.t o) = some 3 := by cases o <;> rfl
@[simp] theorem stepF_stubs {o : Bool} {P : Pt Str} : stepF "Part" "stubs" (P.t o) = some 4 := by cases o <;> rfl
@[simp] theorem stepF_odd {o : Bool} {P : Pt Str} : stepF "Part" "odd" (P.t o) = some 5 := by cases o <;> rfl
@[simp] theorem subT_Pt1 {o : Bool} {P : Pt Str} : subT [1] (P.t o) = some (signsD o P.signs) := by simp [Pt.t]
@[simp] theorem subT_Pt2 {o : Bool} {P : Pt Str} : subT [2] (P.t o) = some (waysD o P.ways) := by simp [Pt.t]
@[simp] theorem subT_Pt3 {o : Bool} {P : Pt Str} : subT [3] (P.t o) = some (.nd (.lst o) (P.lines.map natT)) := by simp [Pt.t]
@[simp] theorem subT_Pt4 {o : Bool} {P : Pt Str} : subT [4] (P.t o) = some (.nd (.lst o) (P.stubs.map natT)) := by simp [Pt.t]
@[simp] theorem subT_Pt5 {o : Bool} {P : Pt Str} : subT [5] (P.t o) = some (.nd (.lst o) (P.odd.map natT)) := by simp [Pt.t]
theorem setT_Pt1 {o : Bool} {P : Pt Str} {l : List (Str × Int)} : setT [1] (P.t o) (signsD o l) = Pt.t o { P with signs := l } := by simp [Pt.t]
end MI
namespace MI
open PySem L2
end MI
namespace MI
open PySem L2
structure LinesOk (d : List (Str × Str)) (ns : List Nat) (left : List Str) : Prop where
  ne : ∀ p ∈ d, p.1 ≠ p.2
  ok : ∀ p ∈ d, okS p.1 = true ∧ okS p.2 = true
  lt : ∀ n ∈ ns, n < d.length
  okl : ∀ s ∈ left, okS s = true
  nn : ns.length ≤ 1000
  ll : left.length ≤ 1000
@[simp] theorem fIx_tup_nat {ts : List T} {n : Nat} : fIx (.nd .tup ts) (natT n) = atI ts (n : Int) := fIx_tup
@[simp] theorem fIx_lst_nat {o : Bool} {ts : List T} {n : Nat} : fIx (.nd (.lst o) ts) (natT n) = atI ts (n : Int) := fIx_lst
end MI
namespace MI
open PySem L2
structure Chart.Lost (h : Chart) (lost : List Cell) : Prop where
  nd : lost.Nodup
  mem : ∀ c ∈ lost, c ∈ h.cells
def Chart.lostN (h : Chart) (lost : List Cell) : List Nat := (List.range h.data.length).filter fun n => decide (Cell.datum n ∈ lost)
def Chart.left (h : Chart) (lost : List Cell) : List Str := h.sums.filter fun s => decide (Cell.sum s ∉ lost)
theorem mem_lostN {h : Chart} {lost : List Cell} (hl : h.Lost lost) {n : Nat} : n ∈ h.lostN lost ↔ Cell.datum n ∈ lost := by
  unfold Chart.lostN
  rw [List.mem_filter]
  simp only [List.mem_range, decide_eq_true_eq]
  exact ⟨fun z => z.2, fun z => ⟨cells_mem (hl.mem _ z), z⟩⟩
theorem mem_left {h : Chart} {lost : List Cell} {s : Str} : s ∈ h.left lost ↔ s ∈ h.sums ∧ Cell.sum s ∉ lost := by
  unfold Chart.left
  rw [List.mem_filter]; simp
theorem cells_sum {h : Chart} {s : Str} : Cell.sum s ∈ h.cells ↔ s ∈ h.sums := by
  constructor
  · intro z; exact cells_mem z
  · intro z
    unfold Chart.sums at z
    obtain ⟨c, hc, hs⟩ := List.mem_flatMap.mp z
    have key : ∀ (cs : List Col) (n : Nat), c ∈ cs → Cell.sum s ∈ (partsFrom n cs).flatten := fun cs => by
      induction cs with
      | nil => intro n h; cases h
      | cons d cs ih =>
        intro n hm
        rw [partsFrom, List.flatten_cons]
        rcases List.mem_cons.mp hm with e | e
        · subst e
          exact List.mem_append_left _ (List.mem_append_left _ (List.mem_map_of_mem hs))
        · exact List.mem_append_right _ (ih _ e)
    exact key _ _ hc
theorem cells_datum {h : Chart} {n : Nat} : Cell.datum n ∈ h.cells ↔ n < h.data.length := by
  constructor
  · intro z; exact cells_mem z
  · intro z
    have : Cell.datum n ∈ h.cells.filter Cell.isD := by
      rw [cells_data]; exact List.mem_map_of_mem (by simpa using z)
    exact (List.mem_filter.mp this).1
def Cell.num : Cell → Nat
  | .datum n => n
  | .sum _ => 0
theorem table_sums {h : Chart} (w : h.Wf) : c_Table_sums [h.tab] = some (.nd .tup (h.sums.map T.str), []) := by
  refine EvO.eq (EvO_runB rfl ?_)
  simp [m_Table_sums]
  refine lc2_inv (enc := Col.t) (xs := h.cols) (fun pre acc Ts => acc = (pre.flatMap Col.sums).map T.str ∧ Ts = [h.tab, .dead, .dead]) (by simp) (by simp) ?_ ?_
  · rintro pre c post e acc Ts ⟨rfl, rfl⟩
    have d24 := w.s10
    unfold Chart.sums at d24
    rw [e] at d24
    simp only [List.flatMap_append, List.flatMap_cons, List.length_append] at d24
    simp [Col.t]
    refine lcM_pure (enc := T.str) (xs := c.sums) (fun _ => true) T.str (by rw [List.length_map]; simp only [sizeLine_val]; omega) (fun s hs => ?_) ?_
    · simp
    · refine Inn.mk ⟨by simp, by simp⟩
  · rintro acc Ts' ⟨rfl, rfl⟩
    simp
    rfl
def Srt.nm : Srt → Str
  | .bits => "bits"
  | .even => "even"
  | .odd => "odd"
  | .plain => "plain"
end MI
namespace MI
open PySem L2
def Chart.eff (h : Chart) (f : Nat → Int) : Cell → Int
  | .sum s => bd h.data f s
  | .datum n => f n
def Chart.Back (h : Chart) (lost : List Cell) (m : Int) (c : Cell) : Prop := ∀ f, Chg h.data (h.lostN lost) (h.left lost) m f → m ∣ h.eff f c
def wT : Option (Int × List (Str × Int)) → T
  | none => .non
  | some (d, l) => .nd .tup [.int d, signsD false l]
structure Chart.WOk (h : Chart) (lost : List Cell) (c : Cell) (s : Srt) (w : Option (Int × List (Str × Int))) : Prop where
  iff : ∀ m, s.fits m → (w.isSome = true ↔ h.Back lost m c)
  nd : ∀ d l, w = some (d, l) → (l.map Prod.fst).Nodup
  pm : ∀ d l, w = some (d, l) → ∀ q ∈ l, q.2 = 1 ∨ q.2 = -1
  left : ∀ d l, w = some (d, l) → ∀ q ∈ l, q.1 ∈ h.left lost ∨ c = .sum q.1
  dv : ∀ d l, w = some (d, l) → d = 1 ∨ (d = 2 ∧ (s = .odd ∨ s = .plain) ∧ ∃ n, c = .datum n)
  own : ∀ d l, w = some (d, l) → match c with
    | .sum x => sg l x = -1
    | .datum n => ∀ p, h.data[n]? = some p → sg l p.1 + sg l p.2 = d
  oth : ∀ d l, w = some (d, l) → ∀ n p, Cell.datum n ∈ lost → Cell.datum n ≠ c → h.data[n]? = some p → (s ≠ .bits → sg l p.1 + sg l p.2 = 0) ∧ (2 : Int) ∣ sg l p.1 + sg l p.2
theorem Ev_un {n : Nat} {ms : List T → M Unit} {t : T} {ts Ts : List T} {QU : Unit → List T → Prop} (h : t = .nd .tup ts) (hl : ts.length = n) (q : Ev (ms ts) Ts QU) : Ev (mUn n ms t) Ts QU := by
  subst h; rw [Ev_mUnT]; exact ⟨hl, q⟩
@[simp] theorem imm_signsD {l : List (Str × Int)} : (signsD false l).imm = true := by simp [signsD]
theorem fIn_srt {s : Srt} : fIn (.str s.nm) (.nd .tup [.str "odd", .str "plain"]) = some (.bl (decide (s = .odd) || decide (s = .plain))) := by
  rw [show [T.str "odd", T.str "plain"] = (["odd", "plain"] : List Str).map T.str from rfl, fIn_strs_tup]
  have : decide (s.nm ∈ (["odd", "plain"] : List Str)) = (decide (s = .odd) || decide (s = .plain)) := by cases s <;> decide +kernel
  rw [this]
end MI
namespace MI
open PySem L2
noncomputable def Chart.backB (h : Chart) (lost : List Cell) (m : Int) (c : Cell) : Bool := @decide (h.Back lost m c) (Classical.propDecidable _)
def Kind.srt : Kind → Srt
  | .bits => .bits
  | .plain => .plain
  | .dial m => if m % 2 = 0 then .even else .odd
def Kind.mod : Kind → Int
  | .bits => 2
  | .plain => 0
  | .dial m => m
theorem Kind.fits {k : Kind} (h : k.ok) : k.srt.fits k.mod := by
  cases k with
  | bits => rfl
  | plain => rfl
  | dial m =>
    have h : 3 ≤ m ∧ m ≤ 1000000000 := h
    simp only [Kind.srt, Kind.mod]
    by_cases e : m % 2 = 0
    · rw [if_pos e]; exact ⟨by omega, e⟩
    · rw [if_neg e]; exact ⟨by omega, by omega⟩
@[simp] theorem fIsNot_wT {r : Option (Int × List (Str × Int))} : fIsNot (wT r) .non = some (.bl r.isSome) := by
  cases r with
  | none => rfl
  | some p => rfl
@[simp] theorem live_wT {r : Option (Int × List (Str × Int))} : (wT r).live = true := by cases r <;> rfl
@[simp] theorem imm_wT {r : Option (Int × List (Str × Int))} : (wT r).imm = true := by
  cases r with
  | none => simp [wT]
  | some p => simp [wT]
@[simp] theorem fz_wT {r : Option (Int × List (Str × Int))} : (wT r).fz = wT r := T.fz_imm _ imm_wT
noncomputable def Chart.backOf (h : Chart) (lost : List Cell) : List Cell := h.cells.filter fun c => decide (c ∈ lost) && h.backB lost h.kind.mod c
theorem cutT_from {α : Type} {xs : List α} {i : Nat} (hi : i ≤ xs.length) : cutT xs (some (i : Int)) none = xs.drop i := by
  simp only [cutT, HT.sIx_nat]
  rw [Nat.min_eq_left hi, show HT.sIx xs.length xs.length none = xs.length from rfl]
  exact List.take_of_length_le (by simp)
end MI
namespace MI
open PySem L2
end MI
namespace MI
open PySem L2
end MI
namespace MI
open PySem L2
def Chart.with_ (h : Chart) (k : Kind) : Chart := ⟨k, h.cols⟩
@[simp] theorem fInt_true : fInt (.bl true) = some (.int 1) := rfl
@[simp] theorem fInt_false : fInt (.bl false) = some (.int 0) := rfl
noncomputable def gT (h : Chart) (lost : List Cell) (g : List Kind) : T := .nd (.lst false) (g.map fun k => .nd .tup (((h.with_ k).backOf lost).map Cell.t))
end MI
namespace MI
open PySem L2
def cnt (d : List (Str × Str)) (c : Cell) (k : Nat) : Int := match c with
  | .sum s => if inP s (d.getD k (Str.empty, Str.empty)) then 1 else 0
  | .datum n => if n = k then 1 else 0
def Kind.rst (k : Kind) (x : Int) : Int := match k with
  | .bits => x % 2
  | .plain => x
  | .dial m => x % m
end MI
namespace MI
open PySem L2
end MI
namespace MI
open PySem L2
section
variable {Ts : List T} {Q : T → List T → Prop} {QP : KT → List T → Prop}
@[simp] theorem Ev_mPnil : Ev mPnil Ts QP ↔ QP [] Ts := Ev0_ret
theorem Ev0_mPcons {fk fv : M T} {fp : M KT} : Ev0 (mPcons fk fv fp) Ts QP ↔ Ev0 fk Ts fun k Ts => Ev0 fv Ts fun v Ts => EvO0 (if v.imm then keyOf k else none) fun q => Ev0 fp Ts fun ps Ts => QP ((q, v) :: ps) Ts := by simp [mPcons]
@[simp] theorem Ev_mPcons {fk fv : M T} {fp : M KT} : Ev (mPcons fk fv fp) Ts QP ↔ Ev fk Ts fun k Ts => Ev fv Ts fun v Ts => EvO (if v.imm then keyOf k else none) fun q => Ev fp Ts fun ps Ts => QP ((q, v) :: ps) Ts := Ev0_mPcons
def dispN (ps : KT) : Option T := if keysDif ps then some (.nd (.dK true (ps.map Prod.fst)) (ps.map Prod.snd)) else none
theorem Ev0_mDispN {fp : M KT} : Ev0 (mDispN fp) Ts Q ↔ Ev0 fp Ts fun ps Ts => EvO0 (dispN ps) fun t => Q t Ts := by
  rw [show mDispN fp = bnd fp fun ps => lft (dispN ps) from rfl]; simp only [Ev0_bnd, Ev0_lft]
@[simp] theorem Ev_mDispN {fp : M KT} : Ev (mDispN fp) Ts Q ↔ Ev fp Ts fun ps Ts => EvO (dispN ps) fun t => Q t Ts := Ev0_mDispN
def met1 (ck : T → Bool) (f : T → T → Option T) (a b : T) : Option T := if ck a then f a b else none
theorem Ev0_mMet1 {ck : T → Bool} {f : T → T → Option T} {fa fb : M T} : Ev0 (mMet1 ck f fa fb) Ts Q ↔ Ev0 fa Ts fun a Ts => ck a = true ∧ Ev0 fb Ts fun b Ts => EvO0 (f a b) fun t => Q t Ts := by
  have : ∀ a Ts, Ev0 (if ck a then bnd fb fun b => lft (f a b) else fun _ => none) Ts Q ↔ ck a = true ∧ Ev0 fb Ts fun b Ts => EvO0 (f a b) fun t => Q t Ts := fun a Ts => by
    by_cases h : ck a = true
    · rw [if_pos h]; simp only [Ev0_bnd, Ev0_lft, h, true_and]
    · rw [if_neg h]; simp [h]
  unfold mMet1
  simp only [Ev0_bnd, this]
@[simp] theorem Ev_mMet1 {ck : T → Bool} {f : T → T → Option T} {fa fb : M T} : Ev (mMet1 ck f fa fb) Ts Q ↔ Ev fa Ts fun a Ts => ck a = true ∧ Ev fb Ts fun b Ts => EvO (f a b) fun t => Q t Ts := Ev0_mMet1
end
@[simp] theorem fEq_nat {n k : Nat} : fEq (.int n) (natT k) = some (.bl (decide (n = k))) := by
  unfold natT
  rw [fEq_int]
  simp [Int.ofNat_inj]
@[simp] theorem fInt_bl {b : Bool} : fInt (.bl b) = some (.int (if b then 1 else 0)) := rfl
def intsT (t : List Int) : T := .nd .tup (t.map T.int)
@[simp] theorem imm_intsT {t : List Int} : (intsT t).imm = true := by simp [intsT]
@[simp] theorem live_intsT {t : List Int} : (intsT t).live = true := rfl
@[simp] theorem fz_intsT {t : List Int} : (intsT t).fz = intsT t := T.fz_imm _ imm_intsT
@[simp] theorem immL_intsT {l : List (List Int)} : immL (l.map intsT) = true := immL_map (fun _ => imm_intsT) l
@[simp] theorem fzL_intsT {l : List (List Int)} : fzL (l.map intsT) = l.map intsT := fzL_imm _ immL_intsT
end MI
namespace MI
open PySem L2
end MI
namespace MI
open PySem L2
theorem cell_reprB {h : Chart} (w : h.Wf) {c : Cell} (hc : c ∈ h.cells) : smT c.t = true ∧ rwT c.t ≤ 300 := by
  have d24 := w.d24
  have := cell_nm w hc
  have hm := cells_mem hc
  cases c with
  | sum s =>
    have := name_len (show nameB s = true from this)
    have e : (Str.ofString "sum").length = 3 := by decide +kernel
    simp [Cell.t, e]; omega
  | datum k =>
    have hm : k < h.data.length := hm
    have e : (Str.ofString "datum").length = 5 := by decide +kernel
    simp [Cell.t, e]; omega
end MI
namespace MI
open PySem L2
def Chart.fac (h : Chart) (l : List (Str × Int)) : Cell → Int
  | .sum s => sg l s
  | .datum n => - onL h.data n fun p => sg l p.1 + sg l p.2
end MI
namespace MI
open PySem L2
def facT (p : Cell × Int) : T := .nd .tup [p.1.t, .int p.2]
@[simp] theorem imm_facT {p : Cell × Int} : (facT p).imm = true := by simp [facT]
@[simp] theorem live_facT {p : Cell × Int} : (facT p).live = true := rfl
@[simp] theorem fz_facT {p : Cell × Int} : (facT p).fz = facT p := T.fz_imm _ imm_facT
@[simp] theorem immL_facT {l : List (Cell × Int)} : immL (l.map facT) = true := immL_map (fun _ => imm_facT) l
@[simp] theorem fzL_facT {l : List (Cell × Int)} : fzL (l.map facT) = l.map facT := fzL_imm _ immL_facT
def Chart.facB (h : Chart) (lost : List Cell) (l : List (Str × Int)) (τ : Int) (x : Cell) : Bool := decide (x ∉ lost) && decide (h.kind.rst (h.fac l x * τ) ≠ 0)
def Kind.ar : Kind → T
  | .bits => .int 2
  | .plain => .str "plain"
  | .dial m => .int m
@[simp] theorem live_ar {k : Kind} : k.ar.live = true := by cases k <;> rfl
@[simp] theorem imm_ar {k : Kind} : k.ar.imm = true := by cases k <;> simp [Kind.ar]
@[simp] theorem fz_ar {k : Kind} : k.ar.fz = k.ar := T.fz_imm _ imm_ar
@[simp high] theorem Ev_around {h : Chart} {Ts : List T} {Q : T → List T → Prop} : Ev (mIf (asB (m2 fEq (m1 (fFld "Table" "kind") (mRd 0)) (mC (.str "bits")))) (mC (.int 2)) (mIm (m1 (fFld "Table" "kind") (mRd 0)))) (h.tab :: Ts) Q ↔ Q h.kind.ar (h.tab :: Ts) := by
  simp
  cases hk : h.kind <;> simp [Kind.ar, Kind.t]
end MI
namespace MI
open PySem L2
def recT : Option (Int × List (Cell × Int)) → T
  | none => .non
  | some (d, fs) => .nd .tup [.int d, .nd .tup (fs.map facT)]
@[simp] theorem live_recT {r : Option (Int × List (Cell × Int))} : (recT r).live = true := by cases r <;> rfl
@[simp] theorem imm_recT {r : Option (Int × List (Cell × Int))} : (recT r).imm = true := by cases r <;> simp [recT]
@[simp] theorem fz_recT {r : Option (Int × List (Cell × Int))} : (recT r).fz = recT r := T.fz_imm _ imm_recT
@[simp] theorem fIs_wT {r : Option (Int × List (Str × Int))} : fIs (wT r) .non = some (.bl r.isNone) := by cases r <;> rfl
@[simp] theorem fIs_recT {r : Option (Int × List (Cell × Int))} : fIs (recT r) .non = some (.bl r.isNone) := by cases r <;> rfl
@[simp] theorem fIsNot_recT {r : Option (Int × List (Cell × Int))} : fIsNot (recT r) .non = some (.bl r.isSome) := by cases r <;> rfl
def Kind.fb (k : Kind) (x : Int) : Prop := match k with
  | .bits => 0 ≤ x ∧ x ≤ 1
  | .plain => -2 ≤ x ∧ x ≤ 2
  | .dial m => 0 ≤ x ∧ x ≤ m - 1
structure Chart.ROk (h : Chart) (lost : List Cell) (c : Cell) (r : Option (Int × List (Cell × Int))) : Prop where
  iff : r.isSome = true ↔ h.Back lost h.kind.mod c
  ok : ∀ D fs, r = some (D, fs) → (D = 1 ∨ (D = 2 ∧ h.kind = .plain)) ∧ ∃ F : Cell → Int, fs = (h.cells.filter fun x => decide (x ∉ lost) && decide (F x ≠ 0)).map (fun x => (x, F x)) ∧ (∀ x ∈ h.cells, h.kind.fb (F x)) ∧ ∀ k, k < h.data.length → h.kind.mod ∣ su h.cells (fun x => (if x ∈ lost then 0 else F x) * cnt h.data x k) - D * cnt h.data c k
end MI
namespace MI
open PySem L2
def rpT (c : Cell) : T := .str (reprT c.t)
@[simp] theorem imm_rpT {c : Cell} : (rpT c).imm = true := by simp [rpT]
@[simp] theorem live_rpT {c : Cell} : (rpT c).live = true := rfl
@[simp] theorem fz_rpT {c : Cell} : (rpT c).fz = rpT c := T.fz_imm _ imm_rpT
@[simp] theorem immL_rpT {l : List Cell} : immL (l.map rpT) = true := immL_map (fun _ => imm_rpT) l
@[simp] theorem fzL_rpT {l : List Cell} : fzL (l.map rpT) = l.map rpT := fzL_imm _ immL_rpT
theorem cell_rpT {h : Chart} (w : h.Wf) {c : Cell} (hc : c ∈ h.cells) : fRepr c.t = some (rpT c) := by
  have := cell_reprB w hc
  exact fRepr_ok (okD_cell (n := 59) (cell_nm w hc)) this.1 (by omega)
def Kind.high : Kind → Int
  | .bits => 1
  | .plain => 10 ^ 60
  | .dial m => m - 1
end MI
namespace MI
open PySem L2
end MI
namespace MI
open PySem L2
end MI
namespace MI
open PySem L2
end MI
namespace MI
open PySem L2
end MI
namespace MI
open PySem L2
end MI
namespace MI
open PySem L2
end MI
namespace MI
open PySem L2
end MI
namespace MI
open PySem L2
end MI
namespace MI
open PySem L2
end MI
namespace MI
open PySem L2
end MI
namespace MI
open PySem L2
end MI
namespace MI
open PySem L2
end MI
namespace MI
open PySem L2
def mkD (o : Bool) (left : List Str) (μ : Str → Int) : T := signsD o (left.map fun x => (x, μ x))
@[simp] theorem live_mkD {o : Bool} {left : List Str} {μ : Str → Int} : (mkD o left μ).live = true := rfl
def ixOf (left : List Str) (x : Str) : Int := (left.findIdx fun y => decide (y = x) : Nat)
end MI
namespace MI
open PySem L2
end MI
namespace MI
open PySem L2
end MI
namespace MI
open PySem L2
end MI
namespace MI
open PySem L2
end MI
namespace MI
open PySem L2
end MI
namespace MI
structure Alg where
  sub : Int → Int → Int
  dom : Int → Prop
  ph : Nat → Int → Int
  m : Int
  d0 : dom 0
  dsub : ∀ {a b}, dom a → dom b → dom (sub a b)
  hsub : ∀ {a b}, dom a → dom b → ∀ i, m ∣ ph i (sub a b) - (ph i a - ph i b)
  h0 : ∀ i, ph i 0 = 0
  inj : ∀ {a b}, dom a → dom b → (∀ i, m ∣ ph i a - ph i b) → a = b
section
variable {N : Type} [DecidableEq N]
def Ways (ps : List (N × N)) (st : N) (W : List (N × Nat × N)) : Prop := ∀ pre x n h post, W = pre ++ (x, n, h) :: post → (h = st ∨ h ∈ pre.map Prod.fst) ∧ ∃ p, ps[n]? = some p ∧ ((p.1 = x ∧ p.2 = h) ∨ (p.1 = h ∧ p.2 = x))
theorem Ways.ends {ps : List (N × N)} {st : N} {W : List (N × Nat × N)} (h : Ways ps st W) {x : N} {n : Nat} {y : N} (hm : (x, n, y) ∈ W) : ∃ p, ps[n]? = some p ∧ (p.1 = st ∨ p.1 ∈ W.map Prod.fst) ∧ (p.2 = st ∨ p.2 ∈ W.map Prod.fst) := by
  obtain ⟨pre, post, e⟩ := List.append_of_mem hm
  obtain ⟨h1, p, hp, h2⟩ := h pre x n y post e
  have hx : x ∈ W.map Prod.fst := List.mem_map.mpr ⟨_, hm, rfl⟩
  have hy : y = st ∨ y ∈ W.map Prod.fst := h1.imp id fun z => by rw [e]; simp at z ⊢; exact .inl z
  refine ⟨p, hp, ?_⟩
  rcases h2 with ⟨e1, e2⟩ | ⟨e1, e2⟩
  · rw [e1, e2]; exact ⟨.inr hx, hy⟩
  · rw [e1, e2]; exact ⟨hy, .inr hx⟩
variable {ps : List (N × N)} {ns : List Nat} {left : List N} {P : Pt N}
end
end MI
namespace MI
section
variable {N : Type} [DecidableEq N] {ps : List (N × N)} {ns : List Nat} {left : List N} {P : Pt N}
def Meets (A : Alg) (ps : List (N × N)) (ns : List Nat) (P : Pt N) (r : N → Int) (F : Nat → Int) : Prop := (∀ n, A.dom (F n)) ∧ (∀ n, n ∉ ns → F n = 0) ∧ ∀ i, ∀ s ∈ P.keys, A.m ∣ bd ps (fun k => A.ph i (F k)) s - A.ph i (r s)
end
end MI
namespace MI
open PySem L2
def bitI (x : Int) (i : Nat) : Int := if x.toNat.testBit i then 1 else 0
theorem bitI_bx {a b : Int} (ha : 0 ≤ a) (hb : 0 ≤ b) (i : Nat) : 2 ∣ bitI (bx a b) i - (bitI a i - bitI b i) := by
  obtain ⟨x, rfl⟩ := nat_of ha
  obtain ⟨y, rfl⟩ := nat_of hb
  rw [bx_nat]
  unfold bitI
  rw [Int.toNat_natCast, Int.toNat_natCast, Int.toNat_natCast, Nat.testBit_xor]
  cases x.testBit i <;> cases y.testBit i <;> simp <;> omega
theorem bitI_inj {a b : Int} (ha : 0 ≤ a) (hb : 0 ≤ b) (h : ∀ i, 2 ∣ bitI a i - bitI b i) : a = b := by
  obtain ⟨x, rfl⟩ := nat_of ha
  obtain ⟨y, rfl⟩ := nat_of hb
  have : x = y := Nat.eq_of_testBit_eq fun i => by
    have := h i
    unfold bitI at this
    rw [Int.toNat_natCast, Int.toNat_natCast] at this
    revert this
    cases x.testBit i <;> cases y.testBit i <;> simp <;> omega
  rw [this]
def Kind.ph (k : Kind) (i : Nat) (x : Int) : Int := match k with
  | .bits => bitI x i
  | _ => x
def Kind.dom (k : Kind) (x : Int) : Prop := match k with
  | .bits => 0 ≤ x
  | .plain => True
  | .dial m => 0 ≤ x ∧ x < m
theorem emod_eq_of_dvd {m a b : Int} (ha : 0 ≤ a ∧ a < m) (hb : 0 ≤ b ∧ b < m) (h : m ∣ a - b) : a = b := by
  have := Int.emod_emod_of_dvd
  have h1 : a % m = b % m := Int.emod_eq_emod_iff_emod_sub_eq_zero.mpr (Int.emod_eq_zero_of_dvd h)
  rw [Int.emod_eq_of_lt ha.1 ha.2, Int.emod_eq_of_lt hb.1 hb.2] at h1
  exact h1
theorem dvd_emod_sub {m a : Int} : m ∣ a % m - a := by
  have := Int.emod_add_mul_ediv a m
  exact ⟨-(a / m), by rw [Int.mul_neg]; omega⟩
def Kind.alg (k : Kind) (hk : k.ok) : Alg where
  sub := k.sub
  dom := k.dom
  ph := k.ph
  m := k.mod
  d0 := by
    cases k with
    | bits => exact Int.le_refl 0
    | plain => trivial
    | dial m => have h : 3 ≤ m ∧ m ≤ 1000000000 := hk; exact ⟨Int.le_refl 0, by omega⟩
  dsub {a b} ha hb := by
    cases k with
    | bits => exact bx_nn ha hb
    | plain => trivial
    | dial m =>
      have h : 3 ≤ m ∧ m ≤ 1000000000 := hk
      exact ⟨Int.emod_nonneg _ (by omega), Int.emod_lt_of_pos _ (by omega)⟩
  hsub {a b} ha hb i := by
    cases k with
    | bits => exact bitI_bx ha hb i
    | plain => simp [Kind.ph, Kind.sub]
    | dial m => exact dvd_emod_sub
  h0 i := by
    cases k with
    | bits => simp [Kind.ph, bitI]
    | plain => rfl
    | dial m => rfl
  inj {a b} ha hb h := by
    cases k with
    | bits => exact bitI_inj ha hb h
    | plain =>
      have := h 0
      have := Int.zero_dvd.mp this
      simp only [Kind.ph] at this; omega
    | dial m => exact emod_eq_of_dvd ha hb (h 0)
section
variable {k : Kind} {hk : k.ok} {ps : List (Str × Str)} {ns : List Nat} {left : List Str} {P : Pt Str} {r : Str → Int}
end
end MI
namespace MI
open PySem L2
def nK (n : Nat) : Key := .inl (n : Int)
def amD (o : Bool) (l : List (Nat × Int)) : T := .nd (.dK o (l.map fun q => nK q.1)) (l.map fun q => .int q.2)
@[simp] theorem live_amD {o : Bool} {l : List (Nat × Int)} : (amD o l).live = true := rfl
@[simp] theorem ownNd_amD {o : Bool} {l : List (Nat × Int)} : (amD o l).ownNd = o := rfl
@[simp] theorem immL_amD {l : List (Nat × Int)} : immL (l.map fun q => T.int q.2) = true := immL_map (fun _ => rfl) l
@[simp] theorem fz_amD {o : Bool} {l : List (Nat × Int)} : (amD o l).fz = amD false l := by simp [amD, fzL_imm _ immL_amD]
@[simp] theorem imm_amD {l : List (Nat × Int)} : (amD false l).imm = true := by simp [amD]
@[simp] theorem ownNd_mkD {o : Bool} {l : List Str} {r : Str → Int} : (mkD o l r).ownNd = o := rfl
@[simp] theorem fz_mkD2 {o : Bool} {l : List Str} {r : Str → Int} : (mkD o l r).fz = mkD false l r := fz_signsD
@[simp] theorem imm_mkD {l : List Str} {r : Str → Int} : (mkD false l r).imm = true := imm_signsD
@[simp] theorem isDct_mkD {o : Bool} {l : List Str} {r : Str → Int} : isDct (mkD o l r) = true := rfl
theorem fDictK_mkD {o : Bool} {l : List Str} {r : Str → Int} : fDictK (mkD o l r) = some (mkD true l r) := by
  unfold mkD signsD fDictK
  simp only [immL_sgnT, if_true]
end MI
namespace MI
open PySem L2
end MI
namespace MI
open PySem L2
@[simp] theorem fIs_lstN {o : Bool} {ts : List T} : fIs (.nd (.lst o) ts) .non = some (.bl false) := rfl
end MI
namespace MI
open PySem L2
theorem dvd_tr {m a b c : Int} (h : m ∣ a - b) (g : m ∣ b - c) : m ∣ a - c := by
  have := Int.dvd_add h g
  rwa [show a - b + (b - c) = a - c by omega] at this
theorem dvd_sy {m a b : Int} (h : m ∣ a - b) : m ∣ b - a := by
  have := Int.dvd_neg.mpr h
  rwa [Int.neg_sub] at this
theorem dvd_rf {m a : Int} : m ∣ a - a := by rw [Int.sub_self]; exact Int.dvd_zero m
theorem fold_bit (i : Nat) : ∀ (vs : List Int) (a : Int), 0 ≤ a → (∀ v ∈ vs, 0 ≤ v) → 0 ≤ vs.foldl bx a ∧ (2 : Int) ∣ bitI (vs.foldl bx a) i - (bitI a i + su vs fun v => bitI v i)
  | [], a, ha, _ => ⟨ha, by simp⟩
  | v :: vs, a, ha, h => by
    have hv := h v (by simp)
    have ih := fold_bit i vs (bx a v) (bx_nn ha hv) fun u hu => h u (by simp [hu])
    refine ⟨ih.1, ?_⟩
    have h1 := bitI_bx ha hv i
    have h2 := ih.2
    rw [List.foldl_cons, su_cons]
    omega
theorem sum_su' : ∀ vs : List Int, vs.sum = su vs fun v => v
  | [] => rfl
  | v :: vs => by rw [List.sum_cons, su_cons, sum_su' vs]
theorem tog_ph {k : Kind} (hk : k.ok) {vs : List Int} (h : ∀ v ∈ vs, k.dom v) : k.dom (k.tog vs) ∧ ∀ i, k.mod ∣ k.ph i (k.tog vs) - su vs (k.ph i) := by
  cases k with
  | bits =>
    refine ⟨(fold_bit 0 vs 0 (Int.le_refl 0) h).1, fun i => ?_⟩
    have h1 := (fold_bit i vs 0 (Int.le_refl 0) h).2
    have h0 : bitI 0 i = 0 := by simp [bitI]
    rw [h0, Int.zero_add] at h1
    exact h1
  | plain => exact ⟨trivial, fun i => by show (0 : Int) ∣ vs.sum - su vs fun v => v; rw [sum_su']; exact dvd_rf⟩
  | dial m =>
    have h3 : 3 ≤ m ∧ m ≤ 1000000000 := hk
    refine ⟨⟨Int.emod_nonneg _ (by omega), Int.emod_lt_of_pos _ (by omega)⟩, fun i => ?_⟩
    show m ∣ vs.sum % m - su vs fun v => v
    rw [← sum_su']
    exact dvd_emod_sub
theorem su_bd {d : List (Str × Str)} {s : Str} {g : Nat → Int} : su (dataIn d s) g = bd d g s := by
  unfold dataIn bd
  rw [su_filter]
  refine su_congr fun k hk => ?_
  have hk : k < d.length := by simpa using hk
  rw [onL, List.getElem?_eq_getElem hk, List.getD_eq_getElem?_getD, List.getElem?_eq_getElem hk]
  rfl
section
variable {h : Chart} {lost : List Cell}
theorem cv_ph (hk : h.kind.ok) {vs : List Int} (hd : ∀ n, h.kind.dom (vs.getD n 0)) (c : Cell) : h.kind.dom (h.cv vs c) ∧ ∀ i, h.kind.mod ∣ h.kind.ph i (h.cv vs c) - h.eff (fun n => h.kind.ph i (vs.getD n 0)) c := by
  cases c with
  | datum n => exact ⟨hd n, fun i => dvd_rf⟩
  | sum s =>
    have h1 := tog_ph hk (vs := (dataIn h.data s).map fun k => vs.getD k 0) (fun v hv => by
      obtain ⟨n, _, rfl⟩ := List.mem_map.mp hv; exact hd n)
    refine ⟨h1.1, fun i => ?_⟩
    have h2 := h1.2 i
    rw [su_map, su_bd] at h2
    exact h2
def Chart.told (h : Chart) (ns : List Nat) (val : Cell → Int) (s : Str) : Int := h.kind.tog (((dataIn h.data s).filter fun n => decide (n ∉ ns)).map fun n => val (.datum n))
def Chart.need (h : Chart) (lost : List Cell) (val : Cell → Int) (s : Str) : Int := if s ∈ h.left lost then h.kind.sub (val (.sum s)) (h.told (h.lostN lost) val s) else 0
variable {val : Cell → Int}
theorem told_ph (hk : h.kind.ok) (hv : ∀ c ∈ h.cells, h.kind.dom (val c)) {ns : List Nat} {s : Str} : h.kind.dom (h.told ns val s) ∧ ∀ i, h.kind.mod ∣ h.kind.ph i (h.told ns val s) - bd h.data (fun n => if n ∈ ns then 0 else h.kind.ph i (val (.datum n))) s := by
  have h1 := tog_ph hk (vs := ((dataIn h.data s).filter fun n => decide (n ∉ ns)).map fun n => val (.datum n)) (fun v hv' => by
    obtain ⟨n, hn, rfl⟩ := List.mem_map.mp hv'
    exact hv _ (cells_datum.mpr (dataIn_lt (List.mem_filter.mp hn).1)))
  refine ⟨h1.1, fun i => ?_⟩
  have h2 := h1.2 i
  rw [su_map, su_filter] at h2
  have e : (su (dataIn h.data s) fun a => if decide (a ∉ ns) = true then h.kind.ph i (val (.datum a)) else 0) = bd h.data (fun n => if n ∈ ns then 0 else h.kind.ph i (val (.datum n))) s := by
    rw [← su_bd]
    refine su_congr fun n _ => ?_
    by_cases z : n ∈ ns <;> simp [z]
  rw [e] at h2
  exact h2
theorem need_ph (hk : h.kind.ok) (hv : ∀ c ∈ h.cells, h.kind.dom (val c)) (s : Str) : h.kind.dom (h.need lost val s) ∧ (s ∈ h.left lost → ∀ i, h.kind.mod ∣ h.kind.ph i (h.need lost val s) - (h.kind.ph i (val (.sum s)) - bd h.data (fun n => if n ∈ h.lostN lost then 0 else h.kind.ph i (val (.datum n))) s)) := by
  unfold Chart.need
  by_cases hs : s ∈ h.left lost
  · have ht := told_ph hk hv (ns := h.lostN lost) (s := s)
    have hvs := hv _ (cells_sum.mpr (mem_left.mp hs).1)
    simp only [hs, if_true]
    refine ⟨(h.kind.alg hk).dsub hvs ht.1, fun _ i => ?_⟩
    have h1 := (h.kind.alg hk).hsub hvs ht.1 i
    have h2 := ht.2 i
    have h3 : h.kind.mod ∣ (h.kind.ph i (val (.sum s)) - h.kind.ph i (h.told (h.lostN lost) val s)) - (h.kind.ph i (val (.sum s)) - bd h.data (fun n => if n ∈ h.lostN lost then 0 else h.kind.ph i (val (.datum n))) s) := by
      have := dvd_sy h2
      rwa [show bd h.data (fun n => if n ∈ h.lostN lost then 0 else h.kind.ph i (val (.datum n))) s - h.kind.ph i (h.told (h.lostN lost) val s) = (h.kind.ph i (val (.sum s)) - h.kind.ph i (h.told (h.lostN lost) val s)) - (h.kind.ph i (val (.sum s)) - bd h.data (fun n => if n ∈ h.lostN lost then 0 else h.kind.ph i (val (.datum n))) s) by omega] at this
    exact dvd_tr h1 h3
  · simp only [hs, if_false]
    exact ⟨(h.kind.alg hk).d0, fun z => z.elim⟩
structure Chart.Fit (h : Chart) (lost : List Cell) (val : Cell → Int) (x : List Int) : Prop where
  dom : ∀ n, h.kind.dom (x.getD n 0)
  at_ : ∀ c ∈ h.cells, c ∉ lost → h.cv x c = val c
theorem Chart.Fit.sum (hk : h.kind.ok) (hl : h.Lost lost) {x : List Int} (f : h.Fit lost val x) {s : Str} (hs : s ∈ h.left lost) (i : Nat) : h.kind.mod ∣ h.kind.ph i (val (.sum s)) - bd h.data (fun n => h.kind.ph i (x.getD n 0)) s := by
  have h1 := (cv_ph hk f.dom (.sum s)).2 i
  have h2 := f.at_ (.sum s) (cells_sum.mpr (mem_left.mp hs).1) (mem_left.mp hs).2
  rw [h2] at h1
  exact h1
theorem Chart.Fit.meets (hk : h.kind.ok) (hl : h.Lost lost) (hv : ∀ c ∈ h.cells, h.kind.dom (val c)) {x : List Int} (f : h.Fit lost val x) {P : Pt Str} (ok : P.Ok h.data (h.lostN lost) (h.left lost)) :
    Meets (h.kind.alg hk) h.data (h.lostN lost) P (h.need lost val) fun n => if n ∈ h.lostN lost then x.getD n 0 else 0 := by
  refine ⟨fun n => ?_, fun n hn => by simp [hn], fun i s hs => ?_⟩
  · show h.kind.dom (if n ∈ h.lostN lost then x.getD n 0 else 0)
    split
    · exact f.dom n
    · exact (h.kind.alg hk).d0
  · have hsl : s ∈ h.left lost := by obtain ⟨q, hq, rfl⟩ := List.mem_map.mp hs; exact ok.left_ q hq
    have h1 := (need_ph (lost := lost) hk hv s).2 hsl i
    have h2 := f.sum hk hl hsl i
    have e : bd h.data (fun n => h.kind.ph i (x.getD n 0)) s = bd h.data (fun n => if n ∈ h.lostN lost then 0 else h.kind.ph i (val (.datum n))) s + bd h.data (fun k => (h.kind.alg hk).ph i (if k ∈ h.lostN lost then x.getD k 0 else 0)) s := by
      rw [← bd_add]
      refine bd_congr fun n hn => ?_
      by_cases z : n ∈ h.lostN lost
      · simp only [z, if_true, Int.zero_add]; rfl
      · have h3 := f.at_ (.datum n) (cells_datum.mpr hn) fun z2 => z ((mem_lostN hl).mpr z2)
        have h3 : x.getD n 0 = val (.datum n) := h3
        have h0 : (h.kind.alg hk).ph i 0 = 0 := (h.kind.alg hk).h0 i
        simp only [z, if_false, h0, h3, Int.add_zero]
    rw [e] at h2
    show h.kind.mod ∣ bd h.data (fun k => (h.kind.alg hk).ph i (if k ∈ h.lostN lost then x.getD k 0 else 0)) s - h.kind.ph i (h.need lost val s)
    have h4 := Int.dvd_neg.mpr (Int.dvd_add h1 h2)
    rwa [show ∀ a b c d : Int, -((a - (b - c)) + (b - (c + d))) = d - a by intros; omega] at h4
structure Chart.Acc (h : Chart) (lost : List Cell) (val : Cell → Int) (S : List Str) (F : Nat → Int) : Prop where
  nd : S.Nodup
  left_ : ∀ s ∈ S, s ∈ h.left lost
  clos : ∀ n ∈ h.lostN lost, ∀ p, h.data[n]? = some p → p.1 ∈ h.left lost → p.2 ∈ h.left lost → (p.1 ∈ S ↔ p.2 ∈ S)
  dom : ∀ n, h.kind.dom (F n)
  off : ∀ n, n ∉ h.lostN lost → F n = 0
  far : ∀ n p, h.data[n]? = some p → p.1 ∉ S → p.2 ∉ S → F n = 0
  meets : ∀ s ∈ S, ∀ i, h.kind.mod ∣ bd h.data (fun n => h.kind.ph i (F n)) s - h.kind.ph i (h.need lost val s)
def puts (am : List (Nat × Int)) (F : Nat → Int) (n : Nat) : Int := if n ∈ am.map Prod.fst then sg am n else F n
theorem bd_at {d : List (Str × Str)} {f g : Nat → Int} {s : Str} (e : ∀ n p, d[n]? = some p → ends p s = true → f n = g n) : bd d f s = bd d g s := by
  unfold bd
  refine su_congr fun k hk => ?_
  have hk : k < d.length := by simpa using hk
  have h1 := e k d[k] (List.getElem?_eq_getElem hk)
  rw [onL, onL, List.getElem?_eq_getElem hk]
  simp only
  by_cases z : ends d[k] s = true
  · rw [if_pos z, if_pos z, h1 z]
  · rw [if_neg z, if_neg z]
theorem Chart.Acc.step (hk : h.kind.ok) {S : List Str} {F : Nat → Int} (a : h.Acc lost val S F) {P : Pt Str} (ok : P.Ok h.data (h.lostN lost) (h.left lost)) (hx : P.start ∉ S) {am : List (Nat × Int)}
    (hm : Meets (h.kind.alg hk) h.data (h.lostN lost) P (h.need lost val) (sg am)) (hin : ∀ n ∈ am.map Prod.fst, n ∈ P.lines) : h.Acc lost val (S ++ P.keys) (puts am F) := by
  have kl : ∀ s ∈ P.keys, s ∈ h.left lost := fun s hs => by obtain ⟨q, hq, rfl⟩ := List.mem_map.mp hs; exact ok.left_ q hq
  have dj : ∀ s ∈ P.keys, s ∉ S := fun s hs => by
    obtain ⟨q, hq, rfl⟩ := List.mem_map.mp hs
    exact ok.least (fun s => s ∉ S) (fun n hn p hp l1 l2 => not_congr (a.clos n hn p hp l1 l2)) hx q hq
  have ln : ∀ n ∈ P.lines, n ∈ h.lostN lost := fun n hn => ((ok.line n).mp hn).1
  have sgo : ∀ n, n ∉ am.map Prod.fst → sg am n = 0 := fun n hn => sg_not hn
  have cl2 : ∀ n ∈ h.lostN lost, ∀ p, h.data[n]? = some p → ∀ s, s ∈ P.keys → ends p s = true → (p.1 ∉ S ∧ p.2 ∉ S) := fun n hn p hp s hs he => by
    have hs0 := dj s hs
    have hsl := kl s hs
    rcases ends_iff.mp he with z | z
    · subst z
      exact ⟨hs0, fun z2 => hs0 ((a.clos n hn p hp hsl (a.left_ _ z2)).mpr z2)⟩
    · subst z
      exact ⟨fun z2 => hs0 ((a.clos n hn p hp (a.left_ _ z2) hsl).mp z2), hs0⟩
  refine ⟨?_, ?_, ?_, ?_, ?_, ?_, ?_⟩
  · rw [List.nodup_append]
    exact ⟨a.nd, ok.nodup, fun s hs t ht e => dj t ht (e ▸ hs)⟩
  · intro s hs
    rcases List.mem_append.mp hs with z | z
    · exact a.left_ s z
    · exact kl s z
  · intro n hn p hp l1 l2
    have h1 := a.clos n hn p hp l1 l2
    have h2 : p.1 ∈ P.keys ↔ p.2 ∈ P.keys := ok.clos n hn p hp l1 l2
    rw [List.mem_append, List.mem_append, h1, h2]
  · intro n
    unfold puts
    split
    · exact hm.1 n
    · exact a.dom n
  · intro n hn
    unfold puts
    split
    · exact hm.2.1 n hn
    · exact a.off n hn
  · intro n p hp n1 n2
    have n1' := (not_congr List.mem_append).mp n1
    have n2' := (not_congr List.mem_append).mp n2
    have hnl : n ∉ am.map Prod.fst := fun z => by
      obtain ⟨_, p', hp', hi⟩ := (ok.line n).mp (hin n z)
      rw [hp] at hp'; cases hp'
      rcases hi with y | y
      · exact n1' (.inr y)
      · exact n2' (.inr y)
    unfold puts
    rw [if_neg hnl]
    exact a.far n p hp (fun z => n1' (.inl z)) fun z => n2' (.inl z)
  · intro s hs i
    rcases List.mem_append.mp hs with z | z
    · rw [bd_at (g := fun n => h.kind.ph i (F n)) fun n p hp he => ?_]
      · exact a.meets s z i
      · have hnl : n ∉ am.map Prod.fst := fun y => by
          have hnP := hin n y
          obtain ⟨hn, p', hp', hi⟩ := (ok.line n).mp hnP
          rw [hp] at hp'; cases hp'
          obtain ⟨t, ht, he2⟩ : ∃ t, t ∈ P.keys ∧ ends p t = true := by
            rcases hi with q | q
            · exact ⟨_, q, ends_iff.mpr (.inl rfl)⟩
            · exact ⟨_, q, ends_iff.mpr (.inr rfl)⟩
          have := cl2 n hn p hp t ht he2
          rcases ends_iff.mp he with q | q
          · exact this.1 (q ▸ z)
          · exact this.2 (q ▸ z)
        unfold puts
        rw [if_neg hnl]
    · rw [bd_at (g := fun n => h.kind.ph i (sg am n)) fun n p hp he => ?_]
      · exact hm.2.2 i s z
      · unfold puts
        split
        · rfl
        · rename_i hnl
          rw [sgo n hnl]
          by_cases hn : n ∈ h.lostN lost
          · have := cl2 n hn p hp s z he
            rw [a.far n p hp this.1 this.2]
          · rw [a.off n hn]
def Chart.sol (h : Chart) (lost : List Cell) (val : Cell → Int) (F : Nat → Int) : List Int := (List.range h.data.length).map fun n => if n ∈ h.lostN lost then F n else val (.datum n)
theorem sol_at {F : Nat → Int} {n : Nat} (hn : n < h.data.length) : (h.sol lost val F).getD n 0 = if n ∈ h.lostN lost then F n else val (.datum n) := by
  unfold Chart.sol
  rw [List.getD_eq_getElem?_getD, List.getElem?_map, List.getElem?_range hn]
  rfl
theorem sol_off {F : Nat → Int} {n : Nat} (hn : ¬ n < h.data.length) : (h.sol lost val F).getD n 0 = 0 := by
  unfold Chart.sol
  rw [List.getD_eq_getElem?_getD, List.getElem?_eq_none (by simp; omega)]
  rfl
theorem Chart.Acc.done (hk : h.kind.ok) (hl : h.Lost lost) (hv : ∀ c ∈ h.cells, h.kind.dom (val c)) {x : List Int} (f : h.Fit lost val x) {S : List Str} {F : Nat → Int} (a : h.Acc lost val S F) (hS : ∀ s ∈ h.left lost, s ∈ S) {c : Cell} (hc : c ∈ h.cells)
    (hb : c ∈ lost → h.Back lost h.kind.mod c) : h.cv (h.sol lost val F) c = h.cv x c := by
  have hd : ∀ n, h.kind.dom ((h.sol lost val F).getD n 0) := fun n => by
    by_cases hn : n < h.data.length
    · rw [sol_at hn]
      split
      · exact a.dom n
      · exact hv _ (cells_datum.mpr hn)
    · rw [sol_off hn]; exact (h.kind.alg hk).d0
  have dat : ∀ n, n < h.data.length → n ∉ h.lostN lost → val (.datum n) = x.getD n 0 := fun n hn hnl => (f.at_ (.datum n) (cells_datum.mpr hn) fun z => hnl ((mem_lostN hl).mpr z)).symm
  refine (h.kind.alg hk).inj (cv_ph hk hd c).1 (cv_ph hk f.dom c).1 fun i => ?_
  have h1 := (cv_ph hk hd c).2 i
  have h2 := (cv_ph hk f.dom c).2 i
  have key : h.kind.mod ∣ h.eff (fun n => h.kind.ph i ((h.sol lost val F).getD n 0)) c - h.eff (fun n => h.kind.ph i (x.getD n 0)) c := by
    let g : Nat → Int := fun n => if n < h.data.length then h.kind.ph i ((h.sol lost val F).getD n 0) - h.kind.ph i (x.getD n 0) else 0
    have bg : ∀ s, bd h.data g s = bd h.data (fun n => h.kind.ph i ((h.sol lost val F).getD n 0)) s - bd h.data (fun n => h.kind.ph i (x.getD n 0)) s := fun s => by
      rw [← bd_sub]
      exact bd_congr fun n hn => by simp only [g, hn, if_true]
    have gl : ∀ s ∈ h.left lost, h.kind.mod ∣ bd h.data g s := fun s hs => by
      rw [bg s]
      have h3 := f.sum hk hl hs i
      have h4 := a.meets s (hS s hs) i
      have h5 := (need_ph (lost := lost) hk hv s).2 hs i
      have e : bd h.data (fun n => h.kind.ph i ((h.sol lost val F).getD n 0)) s = bd h.data (fun n => h.kind.ph i (F n)) s + bd h.data (fun n => if n ∈ h.lostN lost then 0 else h.kind.ph i (val (.datum n))) s := by
        rw [← bd_add]
        refine bd_congr fun n hn => ?_
        rw [sol_at hn]
        by_cases z : n ∈ h.lostN lost
        · simp only [z, if_true, Int.add_zero]
        · have h0 : h.kind.ph i 0 = 0 := (h.kind.alg hk).h0 i
          simp only [z, if_false, a.off n z, h0, Int.zero_add]
      rw [e]
      have h6 := Int.dvd_add (Int.dvd_add h4 h5) h3
      rwa [show ∀ a b c d e : Int, ((a - b) + (b - (c - d))) + (c - e) = a + d - e by intros; omega] at h6
    have gd : ∀ n, n ∉ h.lostN lost → g n = 0 := fun n hn => by
      by_cases z : n < h.data.length
      · simp only [g, z, if_true]
        rw [sol_at z, if_neg hn, dat n z hn, Int.sub_self]
      · simp only [g, z, if_false]
    have ch : Chg h.data (h.lostN lost) (h.left lost) h.kind.mod g := ⟨gd, gl⟩
    have eg : h.kind.mod ∣ h.eff g c := by
      by_cases z : c ∈ lost
      · exact hb z g ch
      · cases c with
        | sum s => exact gl s (mem_left.mpr ⟨cells_sum.mp hc, z⟩)
        | datum n => show h.kind.mod ∣ g n; rw [gd n fun y => z ((mem_lostN hl).mp y)]; exact Int.dvd_zero _
    cases c with
    | sum s => have := bg s; show h.kind.mod ∣ bd h.data _ s - bd h.data _ s; rw [← this]; exact eg
    | datum n =>
      have hn : n < h.data.length := cells_datum.mp hc
      have eg : h.kind.mod ∣ g n := eg
      simp only [g, hn, if_true] at eg
      exact eg
  exact dvd_tr (dvd_tr h1 key) (dvd_sy h2)
end
end MI
namespace MI
open PySem L2
def Cell.key : Cell → List Key
  | .sum s => [.inr "sum", .inr s]
  | .datum n => [.inr "datum", .inl (n : Int)]
end MI
namespace MI
open PySem L2
@[simp] theorem fIs_amN {o : Bool} {l : List (Nat × Int)} : fIs (amD o l) .non = some (.bl false) := rfl
@[simp] theorem isDk_amD {o : Bool} {l : List (Nat × Int)} : isDk (amD o l) = true := rfl
theorem sg_app {a b : List (Nat × Int)} {n : Nat} : sg (a ++ b) n = if n ∈ a.map Prod.fst then sg a n else sg b n := by
  induction a with
  | nil => simp
  | cons q a ih =>
    rw [List.cons_append, sg, ih, sg]
    by_cases e : q.1 = n
    · simp [e]
    · have e2 : n ≠ q.1 := fun z => e z.symm
      have e3 : n ∈ (q :: a).map Prod.fst ↔ n ∈ a.map Prod.fst := by rw [List.map_cons, List.mem_cons]; exact ⟨fun z => z.resolve_left e2, .inr⟩
      rw [if_neg e, if_neg e]
      by_cases z : n ∈ a.map Prod.fst
      · rw [if_pos z, if_pos (e3.mpr z)]
      · rw [if_neg z, if_neg fun y => z (e3.mp y)]
end MI
namespace MI
open PySem L2
@[simp] theorem fIs_tupN {ts : List T} : fIs (.nd .tup ts) .non = some (.bl false) := rfl
end MI
namespace MI
open PySem L2
end MI
namespace MI
open PySem L2
end MI
namespace MI
open PySem L2
end MI
namespace MI
open PySem L2
end MI
namespace MI
open PySem L2
end MI
namespace MI
section
variable {N : Type} [DecidableEq N] {ps : List (N × N)} {ns : List Nat} {left : List N} {P : Pt N}
def ind (R : List Nat) (n : Nat) : Int := if n ∈ R then 1 else 0
structure Ring (ps : List (N × N)) (ns : List Nat) (left : List N) (R : List Nat) : Prop where
  nd : R.Nodup
  sub : ∀ n ∈ R, n ∈ ns
  ev : ∀ s ∈ left, ∃ z, bd ps (ind R) s = 2 * z
end
end MI
namespace MI
open PySem L2
section
variable {N : Type} [DecidableEq N] {ps : List (N × N)} {ns : List Nat} {left : List N} {P : Pt N}
end
section
variable {ps : List (Str × Str)} {ns : List Nat} {left : List Str} {P : Pt Str}
def needE (P : Pt Str) (o : Option Str) (s : Str) : Int := if s = P.start ∨ o = some s then -2 else 0
def Bnd (o : Option Str) (v : Int) : Prop := match o with
  | none => -2 ≤ v ∧ v ≤ 2
  | some _ => -4 ≤ v ∧ v ≤ 4 ∧ 2 ∣ v
end
end MI
namespace MI
open PySem L2
end MI
namespace MI
open PySem L2
end MI
namespace MI
open PySem L2
end MI
namespace MI
open PySem L2
section
variable {ps : List (Str × Str)} {ns : List Nat} {left : List Str} {P : Pt Str}
structure AmOk (ps : List (Str × Str)) (ns : List Nat) (left : List Str) (P : Pt Str) (o : Option Str) (am : List (Nat × Int)) : Prop where
  nd : (am.map Prod.fst).Nodup
  sub : ∀ n ∈ am.map Prod.fst, n ∈ P.lines
  at_ : ∀ s ∈ left, bd ps (sg am) s = if s ∈ P.keys then needE P o s else 0
  bnd : ∀ q ∈ am, Bnd o q.2
end
structure Chart.ShowOk (h : Chart) (lost : List Cell) (c : Cell) (l : List (Nat × Int)) : Prop where
  nd : (l.map Prod.fst).Nodup
  sub : ∀ n ∈ l.map Prod.fst, n ∈ h.lostN lost
  at_ : ∀ s ∈ h.left lost, bd h.data (sg l) s = 0
  bnd : ∀ n, -2 ≤ sg l n ∧ sg l n ≤ 2
  eff : h.eff (sg l) c = 1 ∨ h.eff (sg l) c = 2 ∨ h.eff (sg l) c = -1 ∨ h.eff (sg l) c = -2
end MI
namespace MI
open PySem L2
end MI
namespace MI
open PySem L2
end MI
namespace MI
open PySem L2
def chT : Option (List Int) → T
  | none => .non
  | some f => .nd .tup (f.map T.int)
def Kind.chg (k : Kind) (v : Int) : Prop := match k with
  | .bits => 0 ≤ v ∧ v ≤ 1
  | .plain => -2 ≤ v ∧ v ≤ 2
  | .dial m => 0 ≤ v ∧ v ≤ m - 1
structure Chart.ChOk (h : Chart) (lost : List Cell) (c : Cell) (f : List Int) : Prop where
  len : f.length = h.data.length
  chg : Chg h.data (h.lostN lost) (h.left lost) h.kind.mod fun n => f.getD n 0
  eff : ¬ h.kind.mod ∣ h.eff (fun n => f.getD n 0) c
  bnd : ∀ v ∈ f, h.kind.chg v
end MI
namespace MI
open PySem L2
end MI
namespace MI
open PySem L2
end MI
namespace MI
open PySem L2
@[simp] theorem fIs_chT {r : Option (List Int)} : fIs (chT r) .non = some (.bl r.isNone) := by cases r <;> rfl
@[simp] theorem imm_chT {r : Option (List Int)} : (chT r).imm = true := by cases r <;> simp [chT]
@[simp] theorem live_chT {r : Option (List Int)} : (chT r).live = true := by cases r <;> rfl
@[simp] theorem fz_chT {r : Option (List Int)} : (chT r).fz = chT r := T.fz_imm _ imm_chT
end MI
namespace MI
open PySem L2
@[simp] theorem Ev_mPlace {c : List T → Option (List T)} {cls : Str} {fa fb : M T} {Ts : List T} {Q : T → List T → Prop} : Ev (mPlace c cls fa fb) Ts Q ↔ Ev (mIns cls Str.empty fa) Ts fun t Ts => t.imm = true ∧ EvO (c [t]) fun ts => Ev fb Ts fun b Ts => EvO (fPlace ts b) fun r => Q r Ts := by
  have e : ∀ t Ts1, (Ev0 (if t.imm = true then bnd (lft (c [t])) fun ts => bnd fb fun b => lft (fPlace ts b) else fun _ => none) Ts1 Q ↔ (t.imm = true ∧ EvO0 (c [t]) fun ts => Ev0 fb Ts1 fun b Ts => EvO0 (fPlace ts b) fun r => Q r Ts)) := fun t Ts1 => by
    by_cases h : t.imm = true
    · rw [if_pos h]; simp [h]
    · rw [if_neg h]; simp [h]
  show Ev0 (mPlace c cls fa fb) Ts Q ↔ Ev0 (mIns cls Str.empty fa) Ts fun t Ts => t.imm = true ∧ EvO0 (c [t]) fun ts => Ev0 fb Ts fun b Ts => EvO0 (fPlace ts b) fun r => Q r Ts
  unfold mPlace
  rw [Ev0_bnd]
  exact ⟨fun ⟨t, Ts1, h1, h2⟩ => ⟨t, Ts1, h1, (e t Ts1).mp h2⟩, fun ⟨t, Ts1, h1, h2⟩ => ⟨t, Ts1, h1, (e t Ts1).mpr h2⟩⟩
theorem names_list {h : Chart} (w : h.Wf) {Q : T → List T → Prop} (q : Q (.nd (.lst true) (h.names.map T.str)) [h.tab, .dead]) : Ev mB_Table_names [h.tab, .dead] Q := by
  have c8 := w.c8
  simp [mB_Table_names]
  refine lc_pure (enc := Col.t) (xs := h.cols) (fun _ => true) (fun c => .str c.name) (by simp) (by show _ ≤ 16777216; omega) (fun c hc => ?_) ?_
  · simp [Col.t]
  · rw [filter_tt]
    have e : h.cols.map (fun c => T.str c.name) = h.names.map T.str := by unfold Chart.names; rw [List.map_map]; rfl
    rw [e]
    simpa using q
@[simp] theorem table_names {h : Chart} (w : h.Wf) : c_Table_names [h.tab] = some (.nd .tup (h.names.map T.str), []) := by
  refine EvO.eq (EvO_runB rfl ?_)
  have e : m_Table_names = mRet (mF (c1 fTuple) (mCons mB_Table_names mNil)) := rfl
  rw [e]
  simp
  refine names_list w ?_
  simp
def Chart.partOf (h : Chart) (s : Str) : List Cell := h.parts.getD (h.names.idxOf s) []
@[simp] theorem fIsNot_tupN {ts : List T} : fIsNot (.nd .tup ts) .non = some (.bl true) := rfl
end MI
namespace MI
open PySem L2
def Kind.top : Kind → Int
  | .bits => 4
  | .plain => 1
  | .dial m => m
end MI
namespace MI
open PySem L2
def partT (p : Str × List Nat) : T := .nd .tup [.str p.1, .nd (.lst false) (p.2.map natT)]
@[simp] theorem imm_partT {p : Str × List Nat} : (partT p).imm = true := by
  have e : immL (p.2.map natT) = true := immL_map (fun _ => rfl) _
  simp [partT, e]
end MI
namespace MI
open PySem L2
end MI
namespace MI
open PySem L2
def strsL (ss : List Str) : T := .nd (.lst false) (ss.map T.str)
@[simp] theorem imm_strsL {ss : List Str} : (strsL ss).imm = true := by simp [strsL]
@[simp] theorem live_strsL {ss : List Str} : (strsL ss).live = true := rfl
def Chart.choices (h : Chart) (left : List Str) : List Nat → List Str → List (List Str)
  | [], _ => [[]]
  | n :: ns, taken => ([(h.data.getD n (Str.empty, Str.empty)).1, (h.data.getD n (Str.empty, Str.empty)).2].filter fun s => decide (s ∈ left) && !decide (s ∈ taken)).flatMap fun s => (h.choices left ns (taken ++ [s])).map fun r => s :: r
end MI
namespace MI
open PySem L2
def stepT (p : Cell × Str) : T := .nd .tup [p.1.t, .str p.2]
@[simp] theorem imm_stepT {p : Cell × Str} : (stepT p).imm = true := by simp [stepT]
def Chart.needsN (h : Chart) (s : Str) : List Cell := (dataIn h.data s).map Cell.datum ++ [Cell.sum s]
end MI
namespace MI
open PySem L2
section
variable {α : Type}
def Rank (B : α → α → Bool) (l : List α) : Prop := ∃ r : α → Nat, ∀ x ∈ l, ∀ y ∈ l, B x y = true → r y < r x
variable {B : α → α → Bool} {l : List α}
end
end MI
namespace MI
open PySem L2
def byD (o : Bool) (l : List (Nat × Str)) : T := .nd (.dK o (l.map fun q => nK q.1)) (l.map fun q => T.str q.2)
@[simp] theorem live_byD {o : Bool} {l : List (Nat × Str)} : (byD o l).live = true := rfl
@[simp] theorem imm_byD {l : List (Nat × Str)} : (byD false l).imm = true := by
  have : immL (l.map fun q => T.str q.2) = true := immL_map (fun _ => rfl) _
  simp [byD, this]
@[simp] theorem fz_byD {o : Bool} {l : List (Nat × Str)} : (byD o l).fz = byD false l := by
  have : immL (l.map fun q => T.str q.2) = true := immL_map (fun _ => rfl) _
  simp [byD, fzL_imm _ this, Kd.fz]
def Chart.hold (h : Chart) (by_ : Nat → Str) (n m : Nat) : Bool := decide (m ≠ n) && inP (by_ n) (h.data.getD m (Str.empty, Str.empty))
end MI
namespace MI
open PySem L2
def Chart.numsOf (h : Chart) (s : Str) : List Nat := ((h.partOf s).filter Cell.isD).map Cell.num
def Chart.leftOf (h : Chart) (s : Str) : List Str := h.sums.filter fun t => !decide (Cell.sum t ∈ h.partOf s)
def Cell.tag : Cell → Str
  | .sum s => s
  | .datum _ => Str.empty
@[simp] theorem fIsNot_lstN {o : Bool} {ts : List T} : fIsNot (.nd (.lst o) ts) .non = some (.bl true) := rfl
theorem in_flatten {α : Type} {p : List α} : ∀ {l : List (List α)}, p ∈ l → p.length ≤ l.flatten.length
  | q :: l, hp => by
    rw [List.flatten_cons, List.length_append]
    rcases List.mem_cons.mp hp with rfl | hp
    · omega
    · have := in_flatten hp
      omega
end MI
namespace MI
open PySem L2
section
variable {α : Type}
end
def bestT : Option (Nat × List (Cell × Str)) → T
  | none => .non
  | some (m, st) => .nd .tup [natT m, .nd .tup (st.map stepT)]
@[simp] theorem imm_bestT {b : Option (Nat × List (Cell × Str))} : (bestT b).imm = true := by
  rcases b with _ | ⟨m, st⟩
  · rfl
  · have : immL (st.map stepT) = true := immL_map (fun _ => imm_stepT) _
    simp [bestT, this]
@[simp] theorem fz_bestT {b : Option (Nat × List (Cell × Str))} : (bestT b).fz = bestT b := T.fz_imm _ imm_bestT
@[simp] theorem live_bestT {b : Option (Nat × List (Cell × Str))} : (bestT b).live = true := by rcases b with _ | ⟨m, st⟩ <;> rfl
@[simp] theorem fIs_bestT {b : Option (Nat × List (Cell × Str))} : fIs (bestT b) .non = some (.bl b.isNone) := by rcases b with _ | ⟨m, st⟩ <;> rfl
theorem leftOf_sub {h : Chart} {s t : Str} (ht : t ∈ h.leftOf s) : t ∈ h.sums := (List.mem_filter.mp ht).1
end MI
namespace MI
open PySem L2
def Chart.duosT (h : Chart) : T := .nd (.lst false) (h.data.map pairT)
@[simp] theorem imm_duosT {h : Chart} : h.duosT.imm = true := by
  have : immL (h.data.map pairT) = true := immL_map (fun _ => imm_pairT) _
  simp [Chart.duosT, this]
@[simp] theorem fz_duosT {h : Chart} : h.duosT.fz = h.duosT := T.fz_imm _ imm_duosT
@[simp] theorem live_duosT {h : Chart} : h.duosT.live = true := rfl
def Chart.tagsOf (h : Chart) : Cell → List Str
  | .sum s => [s]
  | .datum n => [(h.data.getD n (Str.empty, Str.empty)).1, (h.data.getD n (Str.empty, Str.empty)).2]
def stepsT (st : List (Cell × Str)) : T := .nd (.lst false) (st.map stepT)
@[simp] theorem imm_stepsT {st : List (Cell × Str)} : (stepsT st).imm = true := by
  have : immL (st.map stepT) = true := immL_map (fun _ => imm_stepT) _
  simp [stepsT, this]
@[simp] theorem live_stepsT {st : List (Cell × Str)} : (stepsT st).live = true := rfl
theorem tagsOf_len {h : Chart} {c : Cell} : (h.tagsOf c).length ≤ 2 := by cases c <;> simp [Chart.tagsOf]
end MI
namespace MI
open PySem L2
@[simp] theorem live_stepT {p : Cell × Str} : (stepT p).live = true := rfl
theorem nodup_map_inj {α β : Type} {f : α → β} : ∀ {l : List α}, (l.map f).Nodup → ∀ {a b : α}, a ∈ l → b ∈ l → f a = f b → a = b
  | [], _, a, b, ha, _, _ => by cases ha
  | x :: l, h, a, b, ha, hb, e => by
    rw [List.map_cons, List.nodup_cons] at h
    rcases List.mem_cons.mp ha with h1 | h1
    · rcases List.mem_cons.mp hb with h2 | h2
      · rw [h1, h2]
      · exact absurd (by rw [← h1, e]; exact List.mem_map_of_mem h2) h.1
    · rcases List.mem_cons.mp hb with h2 | h2
      · exact absurd (by rw [← h2, ← e]; exact List.mem_map_of_mem h1) h.1
      · exact nodup_map_inj h.2 h1 h2 e
end MI
namespace MI
open PySem L2
end MI
namespace MI
open PySem L2
end MI
namespace MI
open PySem L2
end MI
namespace MI
open PySem L2
@[simp] theorem fz_stepsT {st : List (Cell × Str)} : (stepsT st).fz = stepsT st := T.fz_imm _ imm_stepsT
@[simp] theorem isIns_cells_of {h : Chart} : isIns "Table" "cells_of" h.tab = some h.tab := isIns_tab' (by decide +kernel)
end MI
namespace MI
open PySem L2
def namedL (cs : List Col) : List (Str × (Str × Str)) := cs.flatMap fun c => c.data.map fun p => (c.name, p)
end MI
namespace MI
open PySem L2
structure Chart.Can (h : Chart) (s : Str) (f : Nat → Str) : Prop where
  tag : ∀ n ∈ h.numsOf s, f n ∈ h.tagsOf (.datum n)
  left : ∀ n ∈ h.numsOf s, f n ∈ h.leftOf s
  rank : Rank (h.hold f) (h.numsOf s)
structure Chart.Alike (h h' : Chart) (s : Str) : Prop where
  w : h.Wf
  w' : h'.Wf
  s1 : s ∈ h.names
  s2 : s ∈ h'.names
  perm : (namedL h.cols).Perm (namedL h'.cols)
  sums : ∀ t, t ∈ h.sums ↔ t ∈ h'.sums
  part : ∀ t, Cell.sum t ∈ h.partOf s ↔ Cell.sum t ∈ h'.partOf s
theorem Chart.Alike.symm {h h' : Chart} {s : Str} (a : h.Alike h' s) : h'.Alike h s := ⟨a.w', a.w, a.s2, a.s1, a.perm.symm, fun t => (a.sums t).symm, fun t => (a.part t).symm⟩
end MI
namespace MI
open PySem L2
end MI
namespace MI
open PySem L2
end MI
namespace MI
open PySem L2
def fewT : Option Nat → T
  | none => .non
  | some m => .int (m : Int)
end MI
namespace MI
open PySem L2
@[simp] theorem imm_fewT {o : Option Nat} : (fewT o).imm = true := by cases o <;> rfl
@[simp] theorem fz_fewT {o : Option Nat} : (fewT o).fz = fewT o := T.fz_imm _ imm_fewT
@[simp] theorem live_fewT {o : Option Nat} : (fewT o).live = true := by cases o <;> rfl
@[simp] theorem fIsNot_fewT {o : Option Nat} : fIsNot (fewT o) .non = some (.bl o.isSome) := by cases o <;> rfl
@[simp] theorem kidsT_few : ∀ o : Option Nat, (fewT o).imm = true := fun o => imm_fewT
theorem eqT_pair (p q : Str × Str) : eqT (pairT p) (pairT q) = decide (p = q) := by
  obtain ⟨a, b⟩ := p
  obtain ⟨c, d⟩ := q
  simp [eqT, pairT, PyData.eqv, PyData.eqvAll, toD]
  rfl
end MI
namespace MI
open PySem L2 TL
theorem str_nil (s : Str) : Str.empty ++ s = s := ext_tl (by rw [tl_append]; rfl)
theorem str_len (a b : Str) : (a ++ b).length = a.length + b.length := by rw [len_tl, len_tl a, len_tl b, tl_append, List.length_append]
def kindS : Kind → Str
  | .bits => "bits"
  | .plain => "plain"
  | .dial m => numS m
def colLines (c : Col) : List Str := (("column " : Str) ++ c.name) :: (c.sums.map (fun s => ("sum " : Str) ++ s) ++ c.data.map fun p => ("datum " : Str) ++ p.1 ++ (" " : Str) ++ p.2)
def Chart.page (h : Chart) : List Str := (("kind " : Str) ++ kindS h.kind) :: h.cols.flatMap colLines
def Chart.text (h : Chart) : Str := Txt.join "\n" h.page
theorem strsOf_strs : ∀ xs : List Str, strsOf (xs.map T.str) = some xs
  | [] => rfl
  | x :: xs => by show (strsOf (xs.map T.str)).map _ = _; rw [strsOf_strs xs]; rfl
theorem fStr1_kind {k : Kind} (hk : k.ok) : fStr1 k.t = some (.str (kindS k)) := by
  cases k with
  | bits => rfl
  | plain => rfl
  | dial m =>
    have : m.natAbs.log2 < 1920 := log2_lt_of (by omega) (by have := hk; simp [Kind.ok] at this; have h2 : (2:Nat) ^ 40 ≤ 2 ^ 1920 := Nat.pow_le_pow_right (by omega) (by omega); omega)
    simp [fStr1, Kind.t, this, kindS]
theorem numS_len {m : Int} (h0 : 0 ≤ m) (h : m ≤ 10 ^ 9) : (numS m).length ≤ 10 := by
  obtain ⟨n, rfl⟩ : ∃ n : Nat, m = (n : Int) := ⟨m.toNat, by omega⟩
  rw [len_tl]
  show (tl (Str.ofString (toString ((n : Nat) : Int)))).length ≤ 10
  rw [tl_num]
  exact numL_len (by omega) (by omega)
theorem kindS_len {k : Kind} (hk : k.ok) : (kindS k).length ≤ 10 := by
  cases k with
  | bits => decide
  | plain => decide
  | dial m => simp [Kind.ok] at hk; exact numS_len (by omega) (by omega)
theorem line_len {s : Str} {h : Chart} (w : h.Wf) (hs : s ∈ h.page) : s.length ≤ 30 := by
  have nl : ∀ x : Str, nameB x = true → x.length ≤ 8 := fun x hx => name_len hx
  have e1 : ("kind " : Str).length = 5 := by decide
  have e2 : ("column " : Str).length = 7 := by decide
  have e3 : ("sum " : Str).length = 4 := by decide
  have e4 : ("datum " : Str).length = 6 := by decide
  have e5 : (" " : Str).length = 1 := by decide
  rcases List.mem_cons.mp hs with rfl | hs
  · have := kindS_len w.k
    rw [str_len, e1]
    omega
  · obtain ⟨c, hc, hs⟩ := List.mem_flatMap.mp hs
    rcases List.mem_cons.mp hs with rfl | hs
    · have := nl _ (w.nm c.name (List.mem_map_of_mem hc))
      rw [str_len, e2]
      omega
    · rcases List.mem_append.mp hs with hs | hs
      · obtain ⟨t, ht, rfl⟩ := List.mem_map.mp hs
        have := nl _ (w.sn t (List.mem_flatMap.mpr ⟨c, hc, ht⟩))
        rw [str_len, e3]
        omega
      · obtain ⟨p, hp, rfl⟩ := List.mem_map.mp hs
        obtain ⟨p1, p2, _⟩ := w.dp p (List.mem_flatMap.mpr ⟨c, hc, hp⟩)
        have h1 := nl _ (w.sn _ p1)
        have h2 := nl _ (w.sn _ p2)
        rw [str_len, str_len, str_len, e4, e5]
        omega
theorem page_cols : ∀ cs : List Col, (cs.flatMap colLines).length = cs.length + (cs.flatMap Col.sums).length + (cs.flatMap Col.data).length
  | [] => rfl
  | c :: cs => by
    have := page_cols cs
    rw [List.flatMap_cons, List.flatMap_cons, List.flatMap_cons, List.length_append, List.length_append, List.length_append, this, colLines]
    simp
    omega
theorem page_len {h : Chart} (w : h.Wf) : h.page.length ≤ 43 := by
  have h1 := page_cols h.cols
  have h2 := w.c8
  have h3 : (h.cols.flatMap Col.sums).length ≤ 10 := w.s10
  have h4 : (h.cols.flatMap Col.data).length ≤ 24 := w.d24
  unfold Chart.page
  rw [List.length_cons]
  omega
theorem sum_le : ∀ (l : List Str) (B : Nat), (∀ s ∈ l, s.length ≤ B) → (l.map (·.length)).sum ≤ l.length * B
  | [], B, _ => by simp
  | s :: l, B, h => by
    have h1 := sum_le l B fun x hx => h x (List.mem_cons_of_mem _ hx)
    have h2 := h s List.mem_cons_self
    rw [List.map_cons, List.sum_cons, List.length_cons, Nat.succ_mul]
    omega
theorem join_page {h : Chart} (w : h.Wf) {o : Bool} : fJoin (.str "\n") (.nd (.lst o) (h.page.map T.str)) = some (.str h.text) := by
  have h1 := sum_le h.page 30 fun s hs => line_len w hs
  have h2 := page_len w
  have h3 : ("\n" : Str).length = 1 := by decide
  have hc : (h.page.map (·.length)).sum + h.page.length * ("\n" : Str).length ≤ 16777216 := by rw [h3]; omega
  unfold fJoin
  simp only [seqS, Option.bind_some, strsOf_strs]
  rw [if_pos hc]
  rfl
theorem fFmt_str {s : Str} (h : s.length ≤ 16777216) : fFmt (.str s) = some (.str s) := by simp [fFmt, h]
theorem fFmt_kind {k : Kind} (hk : k.ok) : fFmt k.t = some (.str (kindS k)) := by
  have h := fStr1_kind hk
  cases k with
  | bits => exact fFmt_str (by decide)
  | plain => exact fFmt_str (by decide)
  | dial m => exact h
theorem fAdd_strL {a b : Str} : fAdd (.str a) (.str b) = if a.length + b.length ≤ 16777216 then some (.str (a ++ b)) else none := by
  simp only [fAdd, oe2, fII, fAddS, sizeLine_val]
  by_cases h : a.length + b.length ≤ 16777216
  · simp [h]
  · simp [h]; rfl
theorem fExtend_lstF {ts us : List T} : fExtend (.nd (.lst true) ts) [.nd (.lst false) us] = if ts.length + us.length ≤ sizeLine then some (.non, .nd (.lst true) (ts ++ us)) else none := rfl
section
variable {Ts : List T} {Q : T → List T → Prop}
@[simp] theorem Ev_mJs_nil {acc : Str} : Ev (mJs [] acc) Ts Q ↔ Q (.str acc) Ts := by simp [mJs]
theorem Ev_mJs_cons {f : M T} {fs : List (M T)} {acc : Str} : Ev (mJs (f :: fs) acc) Ts Q ↔ Ev f Ts fun t Ts => ∃ y, t = .str y ∧ (acc ++ y).length ≤ 16777216 ∧ Ev (mJs fs (acc ++ y)) Ts Q := by
  show Ev (bnd f _) Ts Q ↔ _
  rw [Ev_bnd]
  refine iff_of_eq (congrArg (fun q => Ev f Ts q) (funext fun t => funext fun s => propext ?_))
  cases t with
  | str y =>
    show Ev (if (acc ++ y).length ≤ sizeLine then mJs fs (acc ++ y) else fun _ => none) s Q ↔ _
    rw [sizeLine_val]
    by_cases h : (acc ++ y).length ≤ 16777216
    · rw [if_pos h]
      exact ⟨fun q => ⟨y, rfl, h, q⟩, fun ⟨z, e, _, q⟩ => by cases e; exact q⟩
    · rw [if_neg h]
      exact ⟨fun q => by simp at q, fun ⟨z, e, h2, _⟩ => by cases e; exact absurd h2 h⟩
  | _ => exact ⟨fun q => by simp at q, fun ⟨z, e, _⟩ => nomatch e⟩
end
theorem str_ok {h : Chart} (w : h.Wf) : c_Table___str__ [h.tab] = some (.str h.text, []) := by
  have e1 : ("kind " : Str).length = 5 := by decide
  have e2 : ("column " : Str).length = 7 := by decide
  have e3 : ("sum " : Str).length = 4 := by decide
  have e4 : ("datum " : Str).length = 6 := by decide
  have e5 : (" " : Str).length = 1 := by decide
  have hk := kindS_len w.k
  have hpl := page_len w
  refine EvO.eq (EvO_runB rfl ?_)
  simp [m_Table___str__, Ev_mJs_cons, str_nil, e1, fFmt_kind w.k, str_len]
  refine ⟨by omega, ?_⟩
  refine loop_inv (enc := Col.t) (xs := h.cols) (fun pre Ts => ∃ (u1 u2 u4 u5 u6 : T), hidOk u1 = true ∧ hidOk u2 = true ∧ Ts = [h.tab, u1, u2, .nd (.lst true) (((("kind " : Str) ++ kindS h.kind) :: pre.flatMap colLines).map T.str), u4, u5, u6]) ⟨.dead, .dead, .dead, .dead, .dead, rfl, rfl, rfl⟩ ?_ ?_
  · rintro pre c post e Ts ⟨u1, u2, u4, u5, u6, hu1, hu2, rfl⟩
    have hcm : c ∈ h.cols := by rw [e]; simp
    have hn := name_len (w.nm c.name (List.mem_map_of_mem hcm))
    have hs : ∀ s ∈ c.sums, s.length ≤ 8 := fun s hs => name_len (w.sn s (List.mem_flatMap.mpr ⟨c, hcm, hs⟩))
    have hd : ∀ p ∈ c.data, p.1.length ≤ 8 ∧ p.2.length ≤ 8 := fun p hp => by
      obtain ⟨p1, p2, _⟩ := w.dp p (List.mem_flatMap.mpr ⟨c, hcm, hp⟩)
      exact ⟨name_len (w.sn _ p1), name_len (w.sn _ p2)⟩
    have hL : (pre.flatMap colLines).length + (1 + c.sums.length + c.data.length) ≤ 43 := by
      have : h.page.length = 1 + ((pre.flatMap colLines).length + ((colLines c).length + (post.flatMap colLines).length)) := by
        unfold Chart.page
        rw [e]
        simp
        omega
      have : (colLines c).length = 1 + (c.sums.length + c.data.length) := by simp [colLines]; omega
      omega
    have hL0 : ((pre.flatMap colLines).map T.str).length = (pre.flatMap colLines).length := by simp
    simp [Col.t, Ev_mJs_cons, str_nil, e2, fFmt_str (show c.name.length ≤ 16777216 by omega), str_len]
    have hsum : (List.map (fun a => (colLines a).length) pre).sum = (pre.flatMap colLines).length := by rw [List.length_flatMap]
    refine ⟨by omega, by omega, ?_⟩
    refine lc_pure (enc := T.str) (xs := c.sums) (fun _ => true) (fun s => .str (("sum " : Str) ++ s)) (by simp [hu1]) (by simp; omega) (fun s hsm => ?_) ?_
    · have := hs s hsm
      simp [Ev_mJs_cons, str_nil, e3, fFmt_str (show s.length ≤ 16777216 by omega), str_len]
      omega
    · have hz : fzL (c.sums.map fun s => T.str (("sum " : Str) ++ s)) = c.sums.map fun s => T.str (("sum " : Str) ++ s) := fzL_map (fun _ => by simp) _
      rw [filter_tt]
      simp [hz, fExtend_lstF]
      refine ⟨by omega, ?_⟩
      refine lc_pure (enc := pairT) (xs := c.data) (fun _ => true) (fun p => .str (("datum " : Str) ++ p.1 ++ (" " : Str) ++ p.2)) (by simp [hu2]) (by simp; omega) (fun p hp => ?_) ?_
      · obtain ⟨p1, p2⟩ := hd p hp
        simp [pairT, Ev_mJs_cons, str_nil, e4, e5, fFmt_str (show p.1.length ≤ 16777216 by omega), fFmt_str (show p.2.length ≤ 16777216 by omega), str_len]
        omega
      · have hz2 : fzL (c.data.map fun p => T.str (("datum " : Str) ++ p.1 ++ (" " : Str) ++ p.2)) = c.data.map fun p => T.str (("datum " : Str) ++ p.1 ++ (" " : Str) ++ p.2) := fzL_map (fun _ => by simp) _
        rw [filter_tt]
        simp [hz2, fExtend_lstF]
        refine ⟨by omega, Inn.mk ⟨u1, u2, .str c.name, .nd .tup (c.sums.map T.str), .nd .tup (c.data.map pairT), hu1, hu2, ?_⟩⟩
        simp [colLines, Function.comp_def]
  · rintro Ts ⟨u1, u2, u4, u5, u6, hu1, hu2, rfl⟩
    have hj := join_page w (o := true)
    unfold Chart.page at hj
    simp only [List.map_cons] at hj
    simp [isTx, hj]
theorem okT_iff {s : Str} : okS s = true ↔ ∀ c ∈ tl s, c < 1114112 := by
  unfold okS
  rw [List.all_eq_true]
  exact ⟨fun h c hc => Nat.blt_eq.mp (h c hc), fun h c hc => Nat.blt_eq.mpr (h c hc)⟩
theorem okT_app {a b : Str} (ha : okS a = true) (hb : okS b = true) : okS (a ++ b) = true := by
  rw [okT_iff] at *
  intro c hc
  rw [tl_append] at hc
  rcases List.mem_append.mp hc with h | h
  · exact ha c h
  · exact hb c h
theorem mem_joinL {s : List Nat} {c : Nat} : ∀ {ps : List (List Nat)}, c ∈ joinL s ps → c ∈ s ∨ ∃ p ∈ ps, c ∈ p
  | [], h => nomatch h
  | [p], h => .inr ⟨p, List.mem_singleton_self _, h⟩
  | p :: q :: ps, h => by
    have h : c ∈ p ++ (s ++ joinL s (q :: ps)) := h
    rcases List.mem_append.mp h with h | h
    · exact .inr ⟨p, List.mem_cons_self, h⟩
    · rcases List.mem_append.mp h with h | h
      · exact .inl h
      · rcases mem_joinL h with h | ⟨r, hr, h⟩
        · exact .inl h
        · exact .inr ⟨r, List.mem_cons_of_mem _ hr, h⟩
theorem okT_join {y : Str} {ps : List Str} (hy : okS y = true) (hp : ∀ p ∈ ps, okS p = true) : okS (Txt.join y ps) = true := by
  rw [okT_iff, join_eq, tl_join]
  intro c hc
  rcases mem_joinL hc with h | ⟨r, hr, h⟩
  · exact okT_iff.mp hy c h
  · obtain ⟨p, hp', rfl⟩ := List.mem_map.mp hr
    exact okT_iff.mp (hp p hp') c h
theorem okS_num {m : Int} (h0 : 0 ≤ m) : okS (numS m) = true := by
  obtain ⟨n, rfl⟩ : ∃ n : Nat, m = (n : Int) := ⟨m.toNat, by omega⟩
  rw [okT_iff]
  intro c hc
  have hc : c ∈ tl (Str.ofString (toString ((n : Nat) : Int))) := hc
  rw [tl_num] at hc
  have := numL_digits n c hc
  omega
theorem okS_kind {k : Kind} (hk : k.ok) : okS (kindS k) = true := by
  cases k with
  | bits => decide
  | plain => decide
  | dial m => simp [Kind.ok] at hk; exact okS_num (by omega)
theorem okS_line {s : Str} {h : Chart} (w : h.Wf) (hs : s ∈ h.page) : okS s = true := by
  have nl : ∀ x : Str, nameB x = true → okS x = true := fun x hx => okS_name hx
  have e1 : okS ("kind " : Str) = true := by decide
  have e2 : okS ("column " : Str) = true := by decide
  have e3 : okS ("sum " : Str) = true := by decide
  have e4 : okS ("datum " : Str) = true := by decide
  have e5 : okS (" " : Str) = true := by decide
  rcases List.mem_cons.mp hs with rfl | hs
  · exact okT_app e1 (okS_kind w.k)
  · obtain ⟨c, hc, hs⟩ := List.mem_flatMap.mp hs
    rcases List.mem_cons.mp hs with rfl | hs
    · exact okT_app e2 (nl _ (w.nm c.name (List.mem_map_of_mem hc)))
    · rcases List.mem_append.mp hs with hs | hs
      · obtain ⟨t, ht, rfl⟩ := List.mem_map.mp hs
        exact okT_app e3 (nl _ (w.sn t (List.mem_flatMap.mpr ⟨c, hc, ht⟩)))
      · obtain ⟨p, hp, rfl⟩ := List.mem_map.mp hs
        obtain ⟨p1, p2, _⟩ := w.dp p (List.mem_flatMap.mpr ⟨c, hc, hp⟩)
        exact okT_app (okT_app (okT_app e4 (nl _ (w.sn _ p1))) e5) (nl _ (w.sn _ p2))
theorem okS_text {h : Chart} (w : h.Wf) : okS h.text = true := okT_join (by decide) fun p hp => okS_line w hp
theorem fEq_text {h h' : Chart} (w : h.Wf) (w' : h'.Wf) : fEq (.str h.text) (.str h'.text) = some (.bl (decide (h.text = h'.text))) := by
  rw [fEq_ok (by simpa using okS_text w) (by simpa using okS_text w'), eqT_str]
theorem fNe_text {h h' : Chart} (w : h.Wf) (w' : h'.Wf) : fNe (.str h.text) (.str h'.text) = some (.bl (!decide (h.text = h'.text))) := by
  rw [fNe_ok (by simpa using okS_text w) (by simpa using okS_text w'), eqT_str]
@[simp] theorem isIns_tabS {h : Chart} : isIns "Table" Str.empty h.tab = some h.tab := by
  first | exact isIns_tab | exact isIns_tab' (by decide +kernel)
section
variable {Ts : List T} {Q : T → List T → Prop} {QL : List T → List T → Prop}
@[simp] theorem Ev_mTx {m : M T} : Ev (mTx m) Ts Q ↔ Ev m Ts fun t Ts => ∃ s, t = .str s ∧ Q (.str s) Ts := by
  show Ev (bnd m _) Ts Q ↔ _
  rw [Ev_bnd]
  refine iff_of_eq (congrArg (fun q => Ev m Ts q) (funext fun t => funext fun s => propext ?_))
  cases t with
  | str y => simp
  | _ => simp
@[simp] theorem Ev_mBl {m : M T} : Ev (mBl m) Ts Q ↔ Ev m Ts fun t Ts => ∃ s, t = .bl s ∧ Q (.bl s) Ts := by
  show Ev (bnd m _) Ts Q ↔ _
  rw [Ev_bnd]
  refine iff_of_eq (congrArg (fun q => Ev m Ts q) (funext fun t => funext fun s => propext ?_))
  cases t with
  | bl y => simp
  | _ => simp
@[simp] theorem Ev_mChk {p : List T → Bool} {fs : M (List T)} : Ev (mChk p fs) Ts QL ↔ Ev fs Ts fun ts Ts => p ts = true ∧ QL ts Ts := by
  show Ev (bnd fs _) Ts QL ↔ _
  rw [Ev_bnd]
  refine iff_of_eq (congrArg (fun q => Ev fs Ts q) (funext fun t => funext fun s => propext ?_))
  by_cases h : p t = true
  · rw [if_pos h]; simp [h]
  · rw [if_neg h]; simp [h]
end
@[simp] theorem pEq_tabs {h h' : Chart} : pEq "Table" [h.tab, h'.tab] = true := by simp [Chart.tab, pEq]
@[simp] theorem fNt_bl {b : Bool} : fNt (.bl b) = some (.bl (!b)) := rfl
theorem eq_ok {h h' : Chart} (w : h.Wf) (w' : h'.Wf) : c_Table___eq__ [h.tab, h'.tab] = some (.bl (decide (h.text = h'.text)), []) := by
  refine EvO.eq (EvO_runB rfl ?_)
  have e1 : isC "Table" ["Table"] h'.tab = some (.bl true) := by simp [isC, Chart.tab]
  simp [m_Table___eq__, e1, str_ok w, str_ok w', fEq_text w w']
theorem law_page_ok {h : Chart} (w : h.Wf) : c__law_page [h.l] = some (.str h.text, []) := by
  have hpl := page_len w
  refine EvO.eq (EvO_runB rfl ?_)
  have e1 : ("kind " : Str).length = 5 := by decide
  have e2 : ("column " : Str).length = 7 := by decide
  have e3 : ("sum " : Str).length = 4 := by decide
  have e4 : ("datum " : Str).length = 6 := by decide
  have e5 : (" " : Str).length = 1 := by decide
  have hk := kindS_len w.k
  simp [m__law_page, Chart.l, fStr1_kind w.k, fAdd_strL, e1, str_len]
  refine ⟨by omega, ?_⟩
  refine loop_inv (enc := Col.l) (xs := h.cols) (fun pre Ts => ∃ (u1 u2 u3 u5 u6 u7 : T), hidOk u1 = true ∧ hidOk u2 = true ∧ hidOk u3 = true ∧ Ts = [h.l, u1, u2, u3, .nd (.lst false) (((("kind " : Str) ++ kindS h.kind) :: pre.flatMap colLines).map T.str), u5, u6, u7]) ⟨.dead, .dead, .dead, .dead, .dead, .dead, rfl, rfl, rfl, rfl⟩ ?_ ?_
  · rintro pre c post e Ts ⟨u1, u2, u3, u5, u6, u7, hu1, hu2, hu3, rfl⟩
    have hcm : c ∈ h.cols := by rw [e]; simp
    have hn := name_len (w.nm c.name (List.mem_map_of_mem hcm))
    have hs : ∀ s ∈ c.sums, s.length ≤ 8 := fun s hs => name_len (w.sn s (List.mem_flatMap.mpr ⟨c, hcm, hs⟩))
    have hd : ∀ p ∈ c.data, p.1.length ≤ 8 ∧ p.2.length ≤ 8 := fun p hp => by
      obtain ⟨p1, p2, _⟩ := w.dp p (List.mem_flatMap.mpr ⟨c, hcm, hp⟩)
      exact ⟨name_len (w.sn _ p1), name_len (w.sn _ p2)⟩
    have hL : (pre.flatMap colLines).length + (1 + c.sums.length + c.data.length) ≤ 43 := by
      have : h.page.length = 1 + ((pre.flatMap colLines).length + ((colLines c).length + (post.flatMap colLines).length)) := by
        unfold Chart.page
        rw [e]
        simp
        omega
      have : (colLines c).length = 1 + (c.sums.length + c.data.length) := by simp [colLines]; omega
      omega
    have hsum : (List.map (fun a => (colLines a).length) pre).sum = (pre.flatMap colLines).length := by rw [List.length_flatMap]
    have hz0 : fzL ((pre.flatMap colLines).map T.str) = (pre.flatMap colLines).map T.str := fzL_map (fun _ => by simp) _
    have hi0 : immL ((pre.flatMap colLines).map T.str) = true := immL_map (fun _ => by simp) _
    simp [Col.l, fAdd_strL, e2, str_len, hz0, hi0]
    refine ⟨by omega, by omega, ?_⟩
    refine lc_pure (enc := T.str) (xs := c.sums) (fun _ => true) (fun s => .str (("sum " : Str) ++ s)) (by simp [hu1]) (by simp; omega) (fun s hsm => ?_) ?_
    · have := hs s hsm
      simp [fAdd_strL, e3, str_len]
      omega
    · have hi1 : immL (c.sums.map fun s => T.str (("sum " : Str) ++ s)) = true := immL_map (fun _ => by simp) _
      have hz1 : fzL (c.sums.map fun s => T.str (("sum " : Str) ++ s)) = c.sums.map fun s => T.str (("sum " : Str) ++ s) := fzL_map (fun _ => by simp) _
      rw [filter_tt]
      simp [hi0, hi1, hz0, hz1]
      refine ⟨by omega, ?_⟩
      refine lc_pure (enc := pairT) (xs := c.data) (fun _ => true) (fun p => .str (("datum " : Str) ++ p.1 ++ (" " : Str) ++ p.2)) (by simp [hu2, hu3]) (by simp; omega) (fun p hp => ?_) ?_
      · obtain ⟨p1, p2⟩ := hd p hp
        simp [pairT, fAdd_strL, e4, e5, str_len]
        omega
      · have hz2 : fzL (c.data.map fun p => T.str (("datum " : Str) ++ p.1 ++ (" " : Str) ++ p.2)) = c.data.map fun p => T.str (("datum " : Str) ++ p.1 ++ (" " : Str) ++ p.2) := fzL_map (fun _ => by simp) _
        have hi2 : immL (c.data.map fun p => T.str (("datum " : Str) ++ p.1 ++ (" " : Str) ++ p.2)) = true := immL_map (fun _ => by simp) _
        rw [filter_tt]
        simp [hi0, hi1, hi2, hz0, hz1, hz2]
        refine ⟨by omega, Inn.mk ⟨u1, u2, u3, .str c.name, .nd (.lst false) (c.sums.map T.str), .nd (.lst false) (c.data.map pairT), hu1, hu2, hu3, ?_⟩⟩
        simp [colLines, Function.comp_def]
  · rintro Ts ⟨u1, u2, u3, u5, u6, u7, hu1, hu2, hu3, rfl⟩
    have hj := join_page w (o := false)
    unfold Chart.page at hj
    simp only [List.map_cons] at hj
    simp [isTx, hj]
end MI
namespace MI
section
variable {N : Type} [DecidableEq N] {ps : List (N × N)} {ns : List Nat} {left : List N} {start : N}
abbrev ks (sd : List (N × Int)) : List N := sd.map Prod.fst
def hop (left : List N) (start : N) (sd : List (N × Int)) (near far : N) : List (N × Int) := if near ∈ ks sd ∧ far ≠ start ∧ far ∈ left ∧ far ∉ ks sd then sd ++ [(far, 1 - sg sd near)] else sd
def hop2 (left : List N) (start : N) (ps : List (N × N)) (sd : List (N × Int)) (k : Nat) : List (N × Int) := match ps[k]? with
  | some p => hop left start (hop left start sd p.1 p.2) p.2 p.1
  | none => sd
def round1 (left : List N) (start : N) (ps : List (N × N)) (ns : List Nat) (sd : List (N × Int)) : List (N × Int) := ns.foldl (hop2 left start ps) sd
def roundH (left : List N) (start : N) (ps : List (N × N)) (ns : List Nat) : Nat → List (N × Int) → List (N × Int)
  | 0, sd => sd
  | m + 1, sd => round1 left start ps ns (roundH left start ps ns m sd)
structure Hang (ps : List (N × N)) (ns : List Nat) (left : List N) (start : N) (sd : List (N × Int)) : Prop where
  nodup : (ks sd).Nodup
  first : start ∈ ks sd ∧ sg sd start = 0
  left_ : ∀ x ∈ ks sd, x ∈ left
  val : ∀ q ∈ sd, q.2 = 0 ∨ q.2 = 1
  least : ∀ C : N → Prop, (∀ n ∈ ns, ∀ p, ps[n]? = some p → p.1 ∈ left → p.2 ∈ left → (C p.1 ↔ C p.2)) → C start → ∀ x ∈ ks sd, C x
  cons : ∀ (C : N → Prop) (S : N → Int), (∀ n ∈ ns, ∀ p, ps[n]? = some p → p.1 ∈ left → p.2 ∈ left → (C p.1 ↔ C p.2)) → C start → S start = 0 → (∀ n ∈ ns, ∀ p, ps[n]? = some p → C p.1 → C p.2 → S p.1 + S p.2 = 1) → ∀ x ∈ ks sd, sg sd x = S x
theorem sg_val {sd : List (N × Int)} (nd : (ks sd).Nodup) (hv : ∀ q ∈ sd, q.2 = 0 ∨ q.2 = 1) {x : N} (hx : x ∈ ks sd) : sg sd x = 0 ∨ sg sd x = 1 := by
  obtain ⟨q, hq, rfl⟩ := List.mem_map.mp hx
  rw [sg_mem nd hq]
  exact hv q hq
theorem Hang.step {sd : List (N × Int)} {near far : N} (h : Hang ps ns left start sd) (hl : ∃ n ∈ ns, ∃ p, ps[n]? = some p ∧ ((p.1 = near ∧ p.2 = far) ∨ (p.1 = far ∧ p.2 = near))) : Hang ps ns left start (hop left start sd near far) := by
  unfold hop
  split
  · rename_i c
    obtain ⟨c1, c2, c3, c4⟩ := c
    obtain ⟨n, hn, p, hp, hpe⟩ := hl
    have nl := h.left_ near c1
    have hks : ks (sd ++ [(far, 1 - sg sd near)]) = ks sd ++ [far] := by simp [ks]
    have hsg : ∀ x, x ∈ ks sd → sg (sd ++ [(far, 1 - sg sd near)]) x = sg sd x := fun x hx => by rw [sg_append, if_pos hx]
    have hsgf : sg (sd ++ [(far, 1 - sg sd near)]) far = 1 - sg sd near := by rw [sg_append, if_neg c4]; simp [sg]
    have both : p.1 ∈ left ∧ p.2 ∈ left := by
      rcases hpe with ⟨e1, e2⟩ | ⟨e1, e2⟩
      · rw [e1, e2]; exact ⟨nl, c3⟩
      · rw [e1, e2]; exact ⟨c3, nl⟩
    refine ⟨?_, ?_, ?_, ?_, ?_, ?_⟩
    · rw [hks, List.nodup_append]
      exact ⟨h.nodup, by simp, fun x hx y hy e => by rw [List.mem_singleton.mp hy] at e; exact c4 (e ▸ hx)⟩
    · rw [hks, hsg _ h.first.1]
      exact ⟨List.mem_append_left _ h.first.1, h.first.2⟩
    · intro x hx
      rw [hks] at hx
      rcases List.mem_append.mp hx with hx | hx
      · exact h.left_ x hx
      · rw [List.mem_singleton.mp hx]; exact c3
    · intro q hq
      rcases List.mem_append.mp hq with hq | hq
      · exact h.val q hq
      · rw [List.mem_singleton.mp hq]
        have := sg_val h.nodup h.val c1
        show 1 - sg sd near = 0 ∨ 1 - sg sd near = 1
        omega
    · intro C hC h0 x hx
      rw [hks] at hx
      rcases List.mem_append.mp hx with hx | hx
      · exact h.least C hC h0 x hx
      · rw [List.mem_singleton.mp hx]
        have cn := h.least C hC h0 near c1
        have := hC n hn p hp both.1 both.2
        rcases hpe with ⟨e1, e2⟩ | ⟨e1, e2⟩
        · rw [e1, e2] at this; exact this.mp cn
        · rw [e1, e2] at this; exact this.mpr cn
    · intro C S hC h0 hS hl x hx
      rw [hks] at hx
      rcases List.mem_append.mp hx with hx | hx
      · rw [hsg x hx]; exact h.cons C S hC h0 hS hl x hx
      · rw [List.mem_singleton.mp hx, hsgf, h.cons C S hC h0 hS hl near c1]
        have cn := h.least C hC h0 near c1
        have := hC n hn p hp both.1 both.2
        have l := hl n hn p hp
        rcases hpe with ⟨e1, e2⟩ | ⟨e1, e2⟩
        · rw [e1, e2] at this l; have := l cn (this.mp cn); omega
        · rw [e1, e2] at this l; have := l (this.mpr cn) cn; omega
  · exact h
theorem Hang.step2 {sd : List (N × Int)} {k : Nat} (h : Hang ps ns left start sd) (hk : k ∈ ns) : Hang ps ns left start (hop2 left start ps sd k) := by
  unfold hop2
  cases e : ps[k]? with
  | none => exact h
  | some p => exact (h.step ⟨k, hk, p, e, .inl ⟨rfl, rfl⟩⟩).step ⟨k, hk, p, e, .inr ⟨rfl, rfl⟩⟩
theorem Hang.fold : ∀ (l : List Nat) {sd : List (N × Int)}, (∀ k ∈ l, k ∈ ns) → Hang ps ns left start sd → Hang ps ns left start (l.foldl (hop2 left start ps) sd)
  | [], _, _, h => h
  | k :: l, sd, hl, h => Hang.fold l (fun j hj => hl j (List.mem_cons_of_mem _ hj)) (h.step2 (hl k List.mem_cons_self))
theorem Hang.rounds {sd : List (N × Int)} (h : Hang ps ns left start sd) : ∀ m, Hang ps ns left start (roundH left start ps ns m sd)
  | 0 => h
  | m + 1 => Hang.fold ns (fun _ hk => hk) (Hang.rounds h m)
variable {P : Pt N}
end
end MI
namespace MI
open PySem L2
theorem tags_okT {h : Chart} (w : h.Wf) : c__law_tags [h.l] = some (.nd (.lst false) (h.sums.map T.str), []) := by
  refine EvO.eq (EvO_runB rfl ?_)
  have s10 := w.s10
  simp [m__law_tags, Chart.l]
  refine loop_inv (enc := Col.l) (xs := h.cols) (fun pre Ts => ∃ u2 u3 u4 : T, Ts = [.nd (.lst false) [h.kind.t, .nd (.lst false) (h.cols.map Col.l)], .nd (.lst false) ((pre.flatMap Col.sums).map T.str), u2, u3, u4]) ⟨_, _, _, rfl⟩ ?_ ?_
  · rintro pre c post e Ts ⟨u2, u3, u4, rfl⟩
    have hl : h.sums.length = (pre.flatMap Col.sums).length + (c.sums.length + (post.flatMap Col.sums).length) := by
      unfold Chart.sums; rw [e]; simp only [List.flatMap_append, List.flatMap_cons, List.length_append]
    have hpi : immL ((pre.flatMap Col.sums).map T.str) = true := immL_map (fun _ => rfl) _
    have hci : immL (c.sums.map T.str) = true := immL_map (fun _ => rfl) _
    rw [List.flatMap_append, List.flatMap_singleton]
    generalize pre.flatMap Col.sums = ps at *
    simp [Col.l, hpi, hci, fzL_imm _ hpi, fzL_imm _ hci]
    exact ⟨by omega, Inn.mk ⟨.str c.name, .nd (.lst false) (c.sums.map T.str), .nd (.lst false) (c.data.map pairT), by simp⟩⟩
  · rintro Ts ⟨u2, u3, u4, rfl⟩
    have hi : immL ((h.cols.flatMap Col.sums).map T.str) = true := immL_map (fun _ => rfl) _
    have hi : immL (h.sums.map T.str) = true := immL_map (fun _ => rfl) _
    rw [show h.cols.flatMap Col.sums = h.sums from rfl]
    simp [hi]
def Chart.hangN (h : Chart) (lost : List Cell) (wo : Int) : List Nat := (List.range h.data.length).filter fun n => decide (Cell.datum n ∈ lost) && decide ((n : Int) ≠ wo)
def Chart.hangL (h : Chart) (lost : List Cell) (st : Str) : List Str := h.sums.filter fun s => decide (Cell.sum s ∉ lost) || decide (s = st)
def Chart.sides (h : Chart) (lost : List Cell) (st : Str) (wo : Int) : List (Str × Int) := roundH (h.hangL lost st) st h.data (h.hangN lost wo) (h.sums.length + 1) [(st, 0)]
section
variable {h : Chart} {lost : List Cell} {st : Str} {wo : Int}
end
end MI
namespace MI
open PySem L2 TL
def colWords (c : Col) : List (List Str) := ["column", c.name] :: (c.sums.map (fun s => (["sum", s] : List Str)) ++ c.data.map fun p => (["datum", p.1, p.2] : List Str))
def Chart.words (h : Chart) : List (List Str) := (["kind", kindS h.kind] : List Str) :: h.cols.flatMap colWords
theorem join_two (a b : Str) : Txt.join " " [a, b] = a ++ (" " : Str) ++ b := by
  refine ext_tl ?_
  rw [join_eq, tl_join, tl_append, tl_append, List.append_assoc]
  rfl
theorem join_three (a b c : Str) : Txt.join " " [a, b, c] = a ++ (" " : Str) ++ b ++ (" " : Str) ++ c := by
  refine ext_tl ?_
  rw [join_eq, tl_join, tl_append, tl_append, tl_append, tl_append]
  simp only [List.append_assoc]
  rfl
theorem lit_app (a b c : Str) (h : a ++ (" " : Str) = c) : Txt.join " " [a, b] = c ++ b := by rw [join_two, h]
theorem page_words (h : Chart) : h.page = h.words.map (Txt.join " ") := by
  have e1 : ("kind" : Str) ++ (" " : Str) = "kind " := ext_tl (by rw [tl_append]; decide)
  have e2 : ("column" : Str) ++ (" " : Str) = "column " := ext_tl (by rw [tl_append]; decide)
  have e3 : ("sum" : Str) ++ (" " : Str) = "sum " := ext_tl (by rw [tl_append]; decide)
  have e4 : ("datum" : Str) ++ (" " : Str) = "datum " := ext_tl (by rw [tl_append]; decide)
  have hc : ∀ c : Col, colLines c = (colWords c).map (Txt.join " ") := fun c => by
    have a1 : (c.sums.map fun s => ("sum " : Str) ++ s) = (c.sums.map fun s => (["sum", s] : List Str)).map (Txt.join " ") := by
      rw [List.map_map]
      exact List.map_congr_left fun s _ => (lit_app _ _ _ e3).symm
    have a2 : (c.data.map fun p => ("datum " : Str) ++ p.1 ++ (" " : Str) ++ p.2) = (c.data.map fun p => (["datum", p.1, p.2] : List Str)).map (Txt.join " ") := by
      rw [List.map_map]
      refine List.map_congr_left fun p _ => ?_
      show _ = Txt.join " " ["datum", p.1, p.2]
      rw [join_three, e4]
    unfold colLines colWords
    rw [List.map_cons, lit_app _ _ _ e2, List.map_append, a1, a2]
  unfold Chart.page Chart.words
  rw [List.map_cons, lit_app _ _ _ e1, List.map_flatMap]
  exact congrArg (_ :: h.cols.flatMap ·) (funext hc)
theorem name_signs {s : Str} (h : nameB s = true) : ∀ c ∈ tl s, 97 ≤ c ∧ c ≤ 122 := by
  unfold nameB at h
  simp only [Bool.and_eq_true, List.all_eq_true, decide_eq_true_eq] at h
  exact fun c hc => h.2.2 c hc
theorem kind_signs {k : Kind} (hk : k.ok) : ∀ c ∈ tl (kindS k), c ≠ 32 ∧ c ≠ 10 := by
  cases k with
  | bits => decide
  | plain => decide
  | dial m =>
    obtain ⟨n, rfl⟩ : ∃ n : Nat, m = (n : Int) := ⟨m.toNat, by simp [Kind.ok] at hk; omega⟩
    intro c hc
    have hc : c ∈ tl (Str.ofString (toString ((n : Nat) : Int))) := hc
    rw [tl_num] at hc
    constructor
    · intro e; subst e; exact numL_free (Or.inl (by omega)) hc
    · intro e; subst e; exact numL_free (Or.inl (by omega)) hc
theorem word_signs {h : Chart} (w : h.Wf) {ws : List Str} (hw : ws ∈ h.words) : ws ≠ [] ∧ ∀ s ∈ ws, ∀ c ∈ tl s, c ≠ 32 ∧ c ≠ 10 := by
  have nm : ∀ s : Str, nameB s = true → ∀ c ∈ tl s, c ≠ 32 ∧ c ≠ 10 := fun s hs c hc => by
    have := name_signs hs c hc
    omega
  have k1 : ∀ c ∈ tl ("kind" : Str), c ≠ 32 ∧ c ≠ 10 := by decide
  have k2 : ∀ c ∈ tl ("column" : Str), c ≠ 32 ∧ c ≠ 10 := by decide
  have k3 : ∀ c ∈ tl ("sum" : Str), c ≠ 32 ∧ c ≠ 10 := by decide
  have k4 : ∀ c ∈ tl ("datum" : Str), c ≠ 32 ∧ c ≠ 10 := by decide
  have two : ∀ a b : Str, (∀ c ∈ tl a, c ≠ 32 ∧ c ≠ 10) → (∀ c ∈ tl b, c ≠ 32 ∧ c ≠ 10) → ∀ s ∈ [a, b], ∀ c ∈ tl s, c ≠ 32 ∧ c ≠ 10 := fun a b ha hb s hs => by
    rcases List.mem_cons.mp hs with rfl | hs
    · exact ha
    · rw [List.mem_singleton.mp hs]; exact hb
  rcases List.mem_cons.mp hw with rfl | hw
  · exact ⟨by simp, two _ _ k1 (kind_signs w.k)⟩
  · obtain ⟨c, hc, hw⟩ := List.mem_flatMap.mp hw
    rcases List.mem_cons.mp hw with rfl | hw
    · exact ⟨by simp, two _ _ k2 (nm _ (w.nm c.name (List.mem_map_of_mem hc)))⟩
    · rcases List.mem_append.mp hw with hw | hw
      · obtain ⟨t, ht, rfl⟩ := List.mem_map.mp hw
        exact ⟨by simp, two _ _ k3 (nm _ (w.sn t (List.mem_flatMap.mpr ⟨c, hc, ht⟩)))⟩
      · obtain ⟨p, hp, rfl⟩ := List.mem_map.mp hw
        obtain ⟨p1, p2, _⟩ := w.dp p (List.mem_flatMap.mpr ⟨c, hc, hp⟩)
        refine ⟨by simp, fun s hs => ?_⟩
        rcases List.mem_cons.mp hs with rfl | hs
        · exact k4
        · exact two _ _ (nm _ (w.sn _ p1)) (nm _ (w.sn _ p2)) s hs
theorem split_words {h : Chart} (w : h.Wf) {ws : List Str} (hw : ws ∈ h.words) : Txt.split (Txt.join " " ws) " " = ws := by
  obtain ⟨a, b⟩ := word_signs w hw
  exact split_join (y := " ") (s := 32) (S := []) (by decide) (by decide +kernel) a fun p hp c => (b p hp 32 c).1 rfl
theorem split_text {h : Chart} (w : h.Wf) : Txt.split h.text "\n" = h.page := by
  refine split_join (y := "\n") (s := 10) (S := []) (by decide) (by decide +kernel) (by simp [Chart.page]) fun p hp c => ?_
  rw [page_words] at hp
  obtain ⟨ws, hw, rfl⟩ := List.mem_map.mp hp
  obtain ⟨_, b⟩ := word_signs w hw
  rw [join_eq, tl_join] at c
  rcases mem_joinL c with z | ⟨q, hq, z⟩
  · exact absurd z (by decide)
  · obtain ⟨s, hs, rfl⟩ := List.mem_map.mp hq
    exact (b s hs 10 z).2 rfl
end MI
namespace MI
open PySem L2 TL
theorem numL_head : ∀ (n : Nat), 0 < n → ∃ c r, numL n = c :: r ∧ c ≠ 48 := fun n => by
  induction n using Nat.strongRecOn with
  | _ n ih =>
    intro h
    by_cases c : n < 10
    · exact ⟨48 + n, [], numL_lt c, by omega⟩
    · obtain ⟨d, r, e, hd⟩ := ih (n / 10) (by omega) (by omega)
      exact ⟨d, r ++ [48 + n % 10], by rw [numL_step (by omega), e]; rfl, hd⟩
theorem digit_in {c : Nat} (h1 : 48 ≤ c) (h2 : c ≤ 57) : fIn (.str ⟨#[c]⟩) (.str "0123456789") = some (.bl true) := by
  have e : ((List.range 10).map fun k : Nat => fIn (.str ⟨#[48 + k]⟩) (.str "0123456789")) = (List.range 10).map fun _ : Nat => some (T.bl true) := by kernel_rfl
  have := List.map_inj_left.mp e (c - 48) (List.mem_range.mpr (by omega))
  rwa [show 48 + (c - 48) = c by omega] at this
theorem numL_all {n c : Nat} (h : c ∈ numL n) : 48 ≤ c ∧ c ≤ 57 := by
  refine Decidable.byContradiction fun z => ?_
  exact numL_free (n := n) (s := c) (by omega) h
theorem tl_numS (n : Nat) : tl (numS (n : Int)) = numL n := tl_num n
theorem okS_of {s : Str} (h : ∀ c ∈ tl s, c < 1114112) : okS s = true := okT_iff.mpr h
def Kind.numT : Kind → T
  | .dial m => .int m
  | _ => .non
theorem number_kind {k : Kind} (hk : k.ok) : c_number_in [.str (kindS k)] = some (k.numT, []) := by
  cases k with
  | bits => kernel_rfl
  | plain => kernel_rfl
  | dial m =>
    obtain ⟨n, rfl⟩ : ∃ n : Nat, m = (n : Int) := ⟨m.toNat, by simp [Kind.ok] at hk; omega⟩
    simp [Kind.ok] at hk
    have hn : n ≤ 10 ^ 9 := by omega
    have h3 : 3 ≤ n := by omega
    have hlen := numL_len (n := n) (k := 10) (by omega) (by omega)
    have hint := int_num (n := n) (by omega)
    have hl : (numS (n : Int)).length = (numL n).length := by rw [len_tl, tl_numS]
    have hos : okS (numS (n : Int)) = true := okS_of fun c hc => by
      rw [tl_numS] at hc
      have := numL_all hc
      omega
    obtain ⟨c, r, e, hc⟩ := numL_head n (by omega)
    have hsig : signsT (numS (n : Int)) = (numL n).map fun c => T.str ⟨#[c]⟩ := by
      rw [← tl_numS]; rfl
    have hne : fEq (.str (numS (n : Int))) (.str "") = some (.bl false) := by
      rw [fEq_ok (by simpa using hos) (by decide +kernel), eqT_str]
      have : numS (n : Int) ≠ "" := fun z => by
        have := congrArg tl z
        rw [tl_numS, e] at this
        cases this
      simp [this]
    have hix : fIx (.str (numS (n : Int))) (.int 0) = some (.str ⟨#[c]⟩) := by
      have h2 : (numS (n : Int)).cps.toList = c :: r := by rw [← e, ← tl_numS]
      have hle : (numS (n : Int)).length ≤ 16777216 := by omega
      show oe2 fIxS (oe2 fIxT fIxK) _ _ = _
      simp [oe2, fIxS, kids, fIxT, hle, h2]
    have hc0 : fEq (.str ⟨#[c]⟩) (.str "0") = some (.bl false) := by
      have hcr := numL_all (n := n) (c := c) (by rw [e]; simp)
      rw [fEq_ok (by rw [okD_str]; exact okS_of fun d hd => (by have : d = c := (by simpa [tl] using hd); omega)) (by decide +kernel), eqT_str]
      have : (⟨#[c]⟩ : Str) ≠ "0" := fun z => by
        have z := congrArg tl z
        have : tl ("0" : Str) = [48] := by decide
        rw [this] at z
        have : [c] = [48] := z
        injection this with this
        exact hc this
      simp [this]
    have hi : fIntS (.str (numS (n : Int))) = some (.int (n : Int)) := by
      have h640 : (numS (n : Int)).length ≤ 640 := by omega
      have hint : PySem.intText? (numS (n : Int)) = some (n : Int) := hint
      show (if (numS (n : Int)).length ≤ 640 then (PySem.intText? (numS (n : Int))).map T.int else none) = _
      rw [if_pos h640, hint]
      rfl
    refine EvO.eq (EvO_runB rfl ?_)
    simp only [kindS]
    have hle : (numS (n : Int)).length ≤ 16777216 := by omega
    generalize hS : numS (n : Int) = S at *
    simp [m_number_in, hne, hle, hsig]
    refine lc_pure (enc := fun c => T.str ⟨#[c]⟩) (xs := numL n) (fun _ => true) (fun _ => .bl true) (by simp) (by simp; omega) (fun d hd => ?_) ?_
    · obtain ⟨d1, d2⟩ := numL_all hd
      simp [digit_in d1 d2]
    · have f1 := fBools_map (o := true) (fun bs => bs.all id) (fun _ : Nat => true) (numL n)
      have f2 : ((numL n).map fun _ => true).all id = true := by simp
      rw [f2] at f1
      rw [filter_tt]
      simp [f1, hix, hc0, hi]
      rfl
end MI
namespace MI
open PySem L2 TL
def lastC (cs : List Col) : Col := cs.getLast?.getD ⟨Str.empty, [], []⟩
def sumW (cs : List Col) (s : Str) : List Col := cs.dropLast ++ [⟨(lastC cs).name, (lastC cs).sums ++ [s], (lastC cs).data⟩]
def datW (cs : List Col) (p : Str × Str) : List Col := cs.dropLast ++ [⟨(lastC cs).name, (lastC cs).sums, (lastC cs).data ++ [p]⟩]
inductive Line where
  | col (n : Str) | sum (s : Str) | dat (p : Str × Str)
def Line.w : Line → List Str
  | .col n => ["column", n]
  | .sum s => ["sum", s]
  | .dat p => ["datum", p.1, p.2]
def Line.on (cs : List Col) : Line → List Col
  | .col n => cs ++ [⟨n, [], []⟩]
  | .sum s => sumW cs s
  | .dat p => datW cs p
def colL (c : Col) : List Line := .col c.name :: (c.sums.map Line.sum ++ c.data.map Line.dat)
def Chart.lines (h : Chart) : List Line := h.cols.flatMap colL
theorem colL_w (c : Col) : (colL c).map Line.w = colWords c := by
  unfold colL colWords
  rw [List.map_cons, List.map_append, List.map_map, List.map_map]
  rfl
theorem words_lines (h : Chart) : h.words = (["kind", kindS h.kind] : List Str) :: h.lines.map Line.w := by
  unfold Chart.words Chart.lines
  rw [List.map_flatMap]
  exact congrArg (_ :: h.cols.flatMap ·) (funext fun c => (colL_w c).symm)
theorem sums_on (acc : List Col) (n : Str) (d : List (Str × Str)) : ∀ (ss s0 : List Str), (ss.map Line.sum).foldl Line.on (acc ++ [⟨n, s0, d⟩]) = acc ++ [⟨n, s0 ++ ss, d⟩]
  | [], s0 => by simp
  | s :: ss, s0 => by
    have : Line.on (acc ++ [⟨n, s0, d⟩]) (.sum s) = acc ++ [⟨n, s0 ++ [s], d⟩] := by simp [Line.on, sumW, lastC]
    rw [List.map_cons, List.foldl_cons, this, sums_on acc n d ss]
    simp
theorem dats_on (acc : List Col) (n : Str) (s : List Str) : ∀ (ds d0 : List (Str × Str)), (ds.map Line.dat).foldl Line.on (acc ++ [⟨n, s, d0⟩]) = acc ++ [⟨n, s, d0 ++ ds⟩]
  | [], d0 => by simp
  | p :: ds, d0 => by
    have : Line.on (acc ++ [⟨n, s, d0⟩]) (.dat p) = acc ++ [⟨n, s, d0 ++ [p]⟩] := by simp [Line.on, datW, lastC]
    rw [List.map_cons, List.foldl_cons, this, dats_on acc n s ds]
    simp
theorem col_on (acc : List Col) (c : Col) : (colL c).foldl Line.on acc = acc ++ [c] := by
  unfold colL
  rw [List.foldl_cons, List.foldl_append]
  show (c.data.map Line.dat).foldl Line.on ((c.sums.map Line.sum).foldl Line.on (acc ++ [⟨c.name, [], []⟩])) = _
  rw [sums_on, dats_on]
  rfl
theorem cols_on : ∀ (cs acc : List Col), (cs.flatMap colL).foldl Line.on acc = acc ++ cs
  | [], acc => by simp
  | c :: cs, acc => by
    rw [List.flatMap_cons, List.foldl_append, col_on, cols_on cs]
    simp
theorem lines_on (h : Chart) : h.lines.foldl Line.on [] = h.cols := by
  unfold Chart.lines
  rw [cols_on]; rfl
theorem on_ne {cs : List Col} {l : Line} : Line.on cs l ≠ [] := by cases l <;> simp [Line.on, sumW, datW]
theorem first_col {cs : List Col} {l : Line} {post : List Line} (e : cs.flatMap colL = l :: post) : ∃ n, l = .col n := by
  cases cs with
  | nil => cases e
  | cons c cs =>
    rw [List.flatMap_cons] at e
    injection e with e _
    exact ⟨_, e.symm⟩
def Col.okS (c : Col) : Prop := MI.okS c.name = true ∧ (∀ s ∈ c.sums, MI.okS s = true) ∧ ∀ p ∈ c.data, MI.okS p.1 = true ∧ MI.okS p.2 = true
def Line.okS (l : Line) : Prop := ∀ s ∈ l.w, MI.okS s = true
theorem last_mem {cs : List Col} (h : cs ≠ []) : lastC cs ∈ cs := by
  unfold lastC
  rw [List.getLast?_eq_some_getLast h]
  exact List.getLast_mem h
theorem on_ok {cs : List Col} {l : Line} (hc : ∀ c ∈ cs, c.okS) (hl : l.okS) (hn : cs ≠ [] ∨ ∃ n, l = .col n) : ∀ c ∈ Line.on cs l, c.okS := by
  intro c hcm
  cases l with
  | col n =>
    rcases List.mem_append.mp hcm with z | z
    · exact hc c z
    · rw [List.mem_singleton.mp z]
      exact ⟨hl n (by simp [Line.w]), (fun _ z => nomatch z), fun _ z => nomatch z⟩
  | sum s =>
    have hne : cs ≠ [] := hn.resolve_right fun ⟨n, e⟩ => nomatch e
    obtain ⟨a, b, d⟩ := hc _ (last_mem hne)
    rcases List.mem_append.mp hcm with z | z
    · exact hc c (List.dropLast_subset cs z)
    · rw [List.mem_singleton.mp z]
      refine ⟨a, fun t ht => ?_, d⟩
      rcases List.mem_append.mp ht with y | y
      · exact b t y
      · rw [List.mem_singleton.mp y]; exact hl s (by simp [Line.w])
  | dat p =>
    have hne : cs ≠ [] := hn.resolve_right fun ⟨n, e⟩ => nomatch e
    obtain ⟨a, b, d⟩ := hc _ (last_mem hne)
    rcases List.mem_append.mp hcm with z | z
    · exact hc c (List.dropLast_subset cs z)
    · rw [List.mem_singleton.mp z]
      refine ⟨a, b, fun t ht => ?_⟩
      rcases List.mem_append.mp ht with y | y
      · exact d t y
      · rw [List.mem_singleton.mp y]; exact ⟨hl p.1 (by simp [Line.w]), hl p.2 (by simp [Line.w])⟩
theorem okD_colOk {c : Col} (h : c.okS) (n : Nat) : okD (n + 4) c.t = true := by
  obtain ⟨a, b, d⟩ := h
  have e1 : ∀ m, okDL m (c.sums.map T.str) = true := fun m => okDL_strs b
  have e2 : ∀ m, okDL (m + 1) (c.data.map pairT) = true := fun m => okDL_map (f := pairT) (xs := c.data) fun p hp => by
    obtain ⟨p1, p2⟩ := d p hp
    simp [pairT, p1, p2]
  simp [Col.t, a, e1, e2]
theorem fNe_nil_cols {cs : List Col} {o p : Bool} (h : ∀ c ∈ cs, c.okS) : fNe (.nd (.lst o) (cs.map Col.t)) (.nd (.lst p) []) = some (.bl (!cs.isEmpty)) := by
  have e : okDL 59 (cs.map Col.t) = true := okDL_map (f := Col.t) (xs := cs) fun c hc => okD_colOk (h c hc) 55
  rw [fNe_ok (by simp [e]) (by simp)]
  cases cs with
  | nil => simp [eqT, PyData.eqv, PyData.eqvAll]
  | cons t ts => simp [eqT, PyData.eqv, PyData.eqvAll]
theorem drop_last {cs : List Col} (h : cs ≠ []) : cs = cs.dropLast ++ [lastC cs] := by
  unfold lastC
  rw [List.getLast?_eq_some_getLast h]
  exact (List.dropLast_concat_getLast h).symm
end MI
namespace MI
open PySem L2 TL
def ltT (l : Line) : T := .nd (.lst false) (l.w.map T.str)
theorem fPop_cols {cs : List Col} {c : Col} : fPop (.nd (.lst true) ((cs ++ [c]).map Col.t)) [] = some (c.t, .nd (.lst true) (cs.map Col.t)) := by
  have hi : c.t.imm = true := imm_colT
  have e : ((cs ++ [c]).map Col.t)[((cs ++ [c]).map Col.t).length - 1]? = some c.t := by simp
  show (match ((cs ++ [c]).map Col.t)[((cs ++ [c]).map Col.t).length - 1]? with
    | some t => if t.imm then some (t, T.nd (.lst true) ((cs ++ [c]).map Col.t).dropLast) else none
    | none => none) = _
  rw [e]
  simp only [hi, if_true]
  simp
theorem text_len {h : Chart} (w : h.Wf) : h.text.length ≤ 2000 := by
  have hp := page_len w
  have key : ∀ ps : List Str, (∀ p ∈ ps, p.length ≤ 30) → (joinL (tl ("\n" : Str)) (ps.map tl)).length ≤ 31 * ps.length := fun ps => by
    induction ps with
    | nil => intro _; simp [joinL]
    | cons p ps ih =>
      intro hb
      have h1 := hb p List.mem_cons_self
      rw [len_tl] at h1
      have h2 := ih fun q hq => hb q (List.mem_cons_of_mem _ hq)
      have h3 : (tl ("\n" : Str)).length = 1 := by decide
      cases ps with
      | nil => show (tl p).length ≤ 31 * 1; omega
      | cons q ps =>
        simp only [List.map_cons, joinL, List.length_append, List.length_cons, h3] at h2 ⊢
        omega
  have := key h.page fun p hq => line_len w hq
  rw [len_tl]
  unfold Chart.text
  rw [join_eq, tl_join]
  omega
theorem joinL_mem {s : List Nat} {c : Nat} {p : List Nat} : ∀ {ps : List (List Nat)}, p ∈ ps → c ∈ p → c ∈ joinL s ps
  | [q], h, hc => by
    rw [List.mem_singleton.mp h] at hc
    exact hc
  | q :: r :: ps, h, hc => by
    show c ∈ q ++ (s ++ joinL s (r :: ps))
    rcases List.mem_cons.mp h with rfl | h
    · exact List.mem_append_left _ hc
    · exact List.mem_append_right _ (List.mem_append_right _ (joinL_mem h hc))
def m1Read : M Fl := (mIfS (mAnd (asB (m2 fEq (m2 fIx (mRd 5) (mC (.int 0))) (mC (.str "column")))) (asB (m2 fEq (mF (c1 fLen) (mCons (mRd 5) mNil)) (mC (.int 2))))) (mDrop (mMut 4 (mHere 4) isLst (mCons (mFrz (mTup (mCons (mIm (m2 fIx (mRd 5) (mC (.int 1)))) (mCons (mFrz (mTup mNil)) (mCons (mFrz (mTup mNil)) mNil))))) mNil) fAppend)) (mIfS (mAnd (asB (m2 fNe (mRd 4) (mLst mNil))) (mAnd (asB (m2 fEq (m2 fIx (mRd 5) (mC (.int 0))) (mC (.str "sum")))) (asB (m2 fEq (mF (c1 fLen) (mCons (mRd 5) mNil)) (mC (.int 2)))))) (mSeq (mAsg (mFrz (mMut 4 (mHere 4) isLst mNil fPop)) (mUn 3 (mGcons (mPut 6) (mGcons (mPut 7) (mGcons (mPut 8) mGnil))))) (mDrop (mMut 4 (mHere 4) isLst (mCons (mFrz (mTup (mCons (mIm (mRd 6)) (mCons (mFrz (mTup (mStar (mRd 7) (mCons (mIm (m2 fIx (mRd 5) (mC (.int 1)))) mNil)))) (mCons (mIm (mRd 8)) mNil))))) mNil) fAppend))) (mIfS (mAnd (asB (m2 fNe (mRd 4) (mLst mNil))) (mAnd (asB (m2 fEq (m2 fIx (mRd 5) (mC (.int 0))) (mC (.str "datum")))) (asB (m2 fEq (mF (c1 fLen) (mCons (mRd 5) mNil)) (mC (.int 3)))))) (mSeq (mAsg (mFrz (mMut 4 (mHere 4) isLst mNil fPop)) (mUn 3 (mGcons (mPut 6) (mGcons (mPut 7) (mGcons (mPut 8) mGnil))))) (mDrop (mMut 4 (mHere 4) isLst (mCons (mFrz (mTup (mCons (mIm (mRd 6)) (mCons (mIm (mRd 7)) (mCons (mFrz (mTup (mStar (mRd 8) (mCons (mFrz (mTup (mCons (mIm (m2 fIx (mRd 5) (mC (.int 1)))) (mCons (mIm (m2 fIx (mRd 5) (mC (.int 2)))) mNil)))) mNil)))) mNil))))) mNil) fAppend))) (mRet (mC .non)))))
theorem read_ev {t0 t1 t2 t3 t6 t7 t8 : T} {cs : List Col} {l : Line} {Q : Fl → List T → Prop} (hc : ∀ c ∈ cs, c.okS) (hn : cs ≠ [] ∨ ∃ n, l = .col n) (hl : cs.length < 1000) (hz : ∀ c ∈ cs, c.sums.length ≤ 1000 ∧ c.data.length ≤ 1000)
    (q : ∀ t6 t7 t8, Q .nx [t0, t1, t2, t3, .nd (.lst true) ((Line.on cs l).map Col.t), ltT l, t6, t7, t8]) : Ev m1Read [t0, t1, t2, t3, .nd (.lst true) (cs.map Col.t), ltT l, t6, t7, t8] Q := by
  have hne := fNe_nil_cols (o := true) (p := true) hc
  have a1 : fEq (.str "column") (.str "column") = some (.bl true) := by kernel_rfl
  have a2 : fEq (.str "sum") (.str "column") = some (.bl false) := by kernel_rfl
  have a3 : fEq (.str "datum") (.str "column") = some (.bl false) := by kernel_rfl
  have a4 : fEq (.str "sum") (.str "sum") = some (.bl true) := by kernel_rfl
  have a5 : fEq (.str "datum") (.str "sum") = some (.bl false) := by kernel_rfl
  have a6 : fEq (.str "datum") (.str "datum") = some (.bl true) := by kernel_rfl
  unfold m1Read ltT at *
  cases l with
  | col n =>
    simp only [Line.on, Line.w] at q
    simp [Line.w, a1, show cs.length < 16777216 by omega]
    simpa [Col.t] using q t6 t7 t8
  | sum s =>
    obtain ⟨n1, hn⟩ : ∃ _ : Unit, cs ≠ [] := ⟨(), hn.resolve_right fun ⟨n, e⟩ => nomatch e⟩
    have hd := drop_last hn
    have hon : Line.on cs (.sum s) = cs.dropLast ++ [⟨(lastC cs).name, (lastC cs).sums ++ [s], (lastC cs).data⟩] := rfl
    generalize lastC cs = c at *
    generalize cs.dropLast = ini at *
    subst hd
    rw [hon] at q
    simp only [Line.w] at q
    have hpop := fPop_cols (cs := ini) (c := c)
    simp only [List.map_append, List.map_cons, List.map_nil] at hpop hne q
    rw [show (ini ++ [c]).isEmpty = false by simp] at hne
    have hct : c.t = .nd .tup [.str c.name, .nd .tup (c.sums.map T.str), .nd .tup (c.data.map pairT)] := rfl
    have i1 : immL (c.sums.map T.str) = true := immL_map (fun _ => rfl) _
    have i2 : immL (c.data.map pairT) = true := immL_map (fun _ => imm_pairT) _
    have f1 := fzL_imm _ i1
    have f2 := fzL_imm _ i2
    have hil : ini.length < 16777216 := by simp at hl; omega
    simp [Line.w, a2, a4, hne]
    rw [hpop]
    simp
    have hfz : c.t.fz = .nd .tup [.str c.name, .nd .tup (c.sums.map T.str), .nd .tup (c.data.map pairT)] := fz_colT
    refine Ev_un hfz rfl ?_
    simp [f1, f2, i1, i2, hil]
    refine ⟨by have := (hz c (by simp)).1; omega, ?_⟩
    simpa [Col.t] using q _ _ _
  | dat p =>
    obtain ⟨n1, hn⟩ : ∃ _ : Unit, cs ≠ [] := ⟨(), hn.resolve_right fun ⟨n, e⟩ => nomatch e⟩
    have hd := drop_last hn
    have hon : Line.on cs (.dat p) = cs.dropLast ++ [⟨(lastC cs).name, (lastC cs).sums, (lastC cs).data ++ [p]⟩] := rfl
    generalize lastC cs = c at *
    generalize cs.dropLast = ini at *
    subst hd
    rw [hon] at q
    simp only [Line.w] at q
    have hpop := fPop_cols (cs := ini) (c := c)
    simp only [List.map_append, List.map_cons, List.map_nil] at hpop hne q
    rw [show (ini ++ [c]).isEmpty = false by simp] at hne
    have hct : c.t = .nd .tup [.str c.name, .nd .tup (c.sums.map T.str), .nd .tup (c.data.map pairT)] := rfl
    have i1 : immL (c.sums.map T.str) = true := immL_map (fun _ => rfl) _
    have i2 : immL (c.data.map pairT) = true := immL_map (fun _ => imm_pairT) _
    have f1 := fzL_imm _ i1
    have f2 := fzL_imm _ i2
    have hil : ini.length < 16777216 := by simp at hl; omega
    simp [Line.w, a3, a5, a6, hne]
    rw [hpop]
    simp
    have hfz : c.t.fz = .nd .tup [.str c.name, .nd .tup (c.sums.map T.str), .nd .tup (c.data.map pairT)] := fz_colT
    refine Ev_un hfz rfl ?_
    simp [f1, f2, i1, i2, hil]
    refine ⟨by have := (hz c (by simp)).2; omega, ?_⟩
    simpa [Col.t, pairT] using q _ _ _
theorem on_sz {cs : List Col} {l : Line} {k : Nat} (hn : cs ≠ [] ∨ ∃ n, l = .col n) (h : cs.length ≤ k ∧ ∀ c ∈ cs, c.sums.length ≤ k ∧ c.data.length ≤ k) : (Line.on cs l).length ≤ k + 1 ∧ ∀ c ∈ Line.on cs l, c.sums.length ≤ k + 1 ∧ c.data.length ≤ k + 1 := by
  obtain ⟨h1, h2⟩ := h
  cases l with
  | col n =>
    refine ⟨by simp [Line.on]; omega, fun c hc => ?_⟩
    rcases List.mem_append.mp hc with z | z
    · have := h2 c z; omega
    · rw [List.mem_singleton.mp z]; simp
  | sum s =>
    have hne : cs ≠ [] := hn.resolve_right fun ⟨n, e⟩ => nomatch e
    have h3 := h2 _ (last_mem hne)
    refine ⟨by simp [Line.on, sumW]; omega, fun c hc => ?_⟩
    rcases List.mem_append.mp hc with z | z
    · have := h2 c (List.dropLast_subset cs z); omega
    · rw [List.mem_singleton.mp z]
      simp
      omega
  | dat p =>
    have hne : cs ≠ [] := hn.resolve_right fun ⟨n, e⟩ => nomatch e
    have h3 := h2 _ (last_mem hne)
    refine ⟨by simp [Line.on, datW]; omega, fun c hc => ?_⟩
    rcases List.mem_append.mp hc with z | z
    · have := h2 c (List.dropLast_subset cs z); omega
    · rw [List.mem_singleton.mp z]
      simp
      omega
theorem m_parts_in_is : m_parts_in = (mSeq (mSet 2 (mLc (mItA (mMet1 isTx fSplit (mRd 0) (mC (.str "\n")))) (mPut 1) (ret true) (mFrz (mMet1 isTx fSplit (mRd 1) (mC (.str " ")))) [1])) (mSeq (mIfS (mOr (asB (m2 fNe (m2 fIx (m2 fIx (mRd 2) (mC (.int 0))) (mC (.int 0))) (mC (.str "kind")))) (asB (m2 fNe (mF (c1 fLen) (mCons (m2 fIx (mRd 2) (mC (.int 0))) mNil)) (mC (.int 2))))) (mRet (mC .non)) (ret .nx)) (mSeq (mSet 3 (mFrz (mCall c_number_in [none] (mCons (mIm (m2 fIx (m2 fIx (mRd 2) (mC (.int 0))) (mC (.int 1)))) mNil)))) (mSeq (mSet 4 (mLst mNil)) (mSeq (mFor (mItA (mSl fCut (mRd 2) (mPt (mC (.int 1))) mNoP)) (mPut 5) m1Read) (mRet (mTup (mCons (mIf (asB (m2 fIs (mRd 3) (mC .non))) (mIm (m2 fIx (m2 fIx (mRd 2) (mC (.int 0))) (mC (.int 1)))) (mIm (mRd 3))) (mCons (mFrz (mF (c1 fTuple) (mCons (mRd 4) mNil))) mNil))))))))) := rfl
theorem parts_in_ok {h : Chart} (w : h.Wf) : c_parts_in [.str h.text] = some (.nd .tup [h.kind.t, .nd .tup (h.cols.map Col.t)], []) := by
  have htl := text_len w
  have hpl := page_len w
  have hspl : fSplit (.str h.text) (.str "\n") = some (.nd (.lst true) (h.page.map T.str)) := by
    have e1 : ("\n" : Str).length ≠ 0 := by decide
    show (if ("\n" : Str).length ≠ 0 ∧ h.text.length + 2 ≤ 16777216 then some (T.nd (.lst true) ((Txt.split h.text "\n").map T.str)) else none) = _
    rw [if_pos ⟨e1, by omega⟩, split_text w]
  have hpi : immL (h.page.map T.str) = true := immL_map (fun _ => rfl) _
  have hwl : h.words.length = h.page.length := by rw [page_words, List.length_map]
  have hsw : ∀ ws ∈ h.words, fSplit (.str (Txt.join " " ws)) (.str " ") = some (.nd (.lst true) (ws.map T.str)) := fun ws hw => by
    have e1 : (" " : Str).length ≠ 0 := by decide
    have hl : (Txt.join " " ws).length ≤ 30 := line_len w (by rw [page_words]; exact List.mem_map_of_mem hw)
    show (if (" " : Str).length ≠ 0 ∧ (Txt.join " " ws).length + 2 ≤ 16777216 then some (T.nd (.lst true) ((Txt.split (Txt.join " " ws) " ").map T.str)) else none) = _
    rw [if_pos ⟨e1, by omega⟩, split_words w hw]
  have hnum := number_kind w.k
  refine EvO.eq (EvO_runB rfl ?_)
  rw [m_parts_in_is]
  generalize hR : m1Read = R1 at *
  simp [hspl, isTx, hpi]
  rw [page_words, List.map_map]
  refine lc_pure (enc := fun ws => T.str (Txt.join " " ws)) (xs := h.words) (fun _ => true) (fun ws => .nd (.lst false) (ws.map T.str)) (by simp) (by simp; omega) (fun ws hw => ?_) ?_
  · have hwi : fzL (ws.map T.str) = ws.map T.str := fzL_imm _ (immL_map (fun _ => rfl) _)
    simp [isTx, hsw ws hw, hwi]
  · rw [filter_tt, words_lines]
    have hmm : ((["kind", kindS h.kind] : List Str) :: h.lines.map Line.w).map (fun ws => T.nd (.lst false) (ws.map T.str)) = T.nd (.lst false) [.str "kind", .str (kindS h.kind)] :: h.lines.map ltT := by
      rw [List.map_cons, List.map_map]
      rfl
    rw [hmm]
    simp only [rest_cons, rest_nil, wipeT_cons, wipeT_nil]
    have k1 : fNe (.str "kind") (.str "kind") = some (.bl false) := by kernel_rfl
    have hli : immL (h.lines.map ltT) = true := immL_map (fun l => by
      have : immL (l.w.map T.str) = true := immL_map (fun _ => rfl) _
      simp [ltT, this]) _
    have hnf : h.kind.numT.fz = h.kind.numT := by cases h.kind <;> rfl
    have hnl : h.kind.numT.live = true := by cases h.kind <;> rfl
    have hcut : fCut (.nd (.lst true) (T.nd (.lst false) [.str "kind", .str (kindS h.kind)] :: h.lines.map ltT)) (some 1) none = some (.nd (.lst true) (h.lines.map ltT)) := by
      rw [fCut_lst (by simp [hli]), show (1 : Int) = ((1 : Nat) : Int) from rfl, cutT_from (by simp)]
      rfl
    have hrest : ∀ c : T, (h.kind.numT = .non ∧ h.kind.t = .str (kindS h.kind)) ∨ (∃ m, h.kind.numT = .int m ∧ h.kind.t = .int m) := fun _ => by
      cases h.kind with
      | bits => exact .inl ⟨rfl, rfl⟩
      | plain => exact .inl ⟨rfl, rfl⟩
      | dial m => exact .inr ⟨m, rfl, rfl⟩
    generalize hLT : h.lines.map ltT = LT at *
    simp [k1, hnum, hnf, hcut, hli]
    have hlines : h.lines.length ≤ 43 := by
      have := hwl
      rw [words_lines, List.length_cons, List.length_map] at this
      omega
    have hlok : ∀ l ∈ h.lines, l.okS := fun l hl s hs => by
      have hw : l.w ∈ h.words := by
        rw [words_lines]
        exact List.mem_cons_of_mem _ (List.mem_map_of_mem hl)
      have hj : Txt.join " " l.w ∈ h.page := by rw [page_words]; exact List.mem_map_of_mem hw
      have h1 := okS_line w hj
      rw [okT_iff] at h1 ⊢
      intro c hc
      refine h1 c ?_
      rw [join_eq, tl_join]
      exact joinL_mem (List.mem_map_of_mem hs) hc
    rw [← hLT]
    refine loop_inv (enc := ltT) (xs := h.lines) (fun pre Ts => (∃ t5 t6 t7 t8 : T, Ts = [.str h.text, .dead, .nd (.lst true) (T.nd (.lst false) [.str "kind", .str (kindS h.kind)] :: h.lines.map ltT), h.kind.numT, .nd (.lst true) ((pre.foldl Line.on []).map Col.t), t5, t6, t7, t8]) ∧ (∀ c ∈ pre.foldl Line.on [], c.okS) ∧ ((pre.foldl Line.on []).length ≤ pre.length ∧ ∀ c ∈ pre.foldl Line.on [], c.sums.length ≤ pre.length ∧ c.data.length ≤ pre.length) ∧ (pre = [] ∨ pre.foldl Line.on [] ≠ [])) ⟨⟨_, _, _, _, rfl⟩, (fun _ z => nomatch z), ⟨Nat.le_refl 0, (fun _ z => nomatch z)⟩, .inl rfl⟩ ?_ ?_
    · rintro pre l post e Ts ⟨⟨t5, t6, t7, t8, rfl⟩, ho, hz, hp⟩
      have hpl2 : pre.length < 43 := by
        have := congrArg List.length e
        simp at this
        omega
      have hn : pre.foldl Line.on [] ≠ [] ∨ ∃ n, l = .col n := by
        rcases hp with rfl | hp
        · exact .inr (first_col e)
        · exact .inl hp
      simp
      rw [← hR]
      refine read_ev ho hn (by omega) (fun c hc => by have := hz.2 c hc; omega) fun t6 t7 t8 => ?_
      rw [turn_nx]
      refine Inn.mk ⟨⟨ltT l, t6, t7, t8, ?_⟩, ?_, ?_, ?_⟩
      · rw [List.foldl_append]; rfl
      · rw [List.foldl_append]; exact on_ok ho (hlok l (by rw [e]; simp)) hn
      · rw [List.foldl_append, List.length_append]; exact on_sz hn hz
      · rw [List.foldl_append]; exact .inr on_ne
    · rintro Ts ⟨⟨t5, t6, t7, t8, rfl⟩, ho, hz, hp⟩
      rw [lines_on]
      have hci : immL (h.cols.map Col.t) = true := immL_colT
      have hcf := fzL_imm _ hci
      rcases hrest .non with ⟨n1, n2⟩ | ⟨m, n1, n2⟩
      · have e1 : fIs .non .non = some (.bl true) := rfl
        simp [n1, n2, e1, hci, hcf]
      · have e1 : fIs (.int m) .non = some (.bl false) := rfl
        simp [n1, n2, e1, hci, hcf]
theorem table_with_ok16 {h : Chart} (w : h.Wf) : c_table_with [h.kind.t, .nd .tup (h.cols.map Col.t)] = some (h.tabO, []) := by
  have hin := table_init w
  refine EvO.eq (EvO_runB rfl ?_)
  simp [m_table_with, hin]
theorem read_ok {h : Chart} (w : h.Wf) : c_Table_read [.str h.text] = some (h.tab, []) := by
  have e1 := parts_in_ok w
  have e2 := table_with_ok16 w
  have e3 := str_ok w
  have e4 := fNe_text w w
  simp at e4
  have hci : immL (h.cols.map Col.t) = true := immL_colT
  have hcf := fzL_imm _ hci
  have i1 : isB .str (.str h.text) = some (.bl true) := rfl
  have i2 : fIsNot (.nd .tup [h.kind.t, .nd .tup (h.cols.map Col.t)]) .non = some (.bl true) := rfl
  have i3 : fIs h.tab .non = some (.bl false) := rfl
  refine EvO.eq (EvO_runB rfl ?_)
  simp [m_Table_read, i1, e1, hci, hcf, i2, e2, i3, e3, e4]
end MI
namespace MI
open PySem L2
structure Shp (n B : Nat) (t : T) : Prop where
  imm : t.imm = true
  ok : ∀ m, okD (m + n) t = true
  sm : smT t = true
  rw_ : rwT t ≤ B
theorem Shp.mono {n B n' B' : Nat} {t : T} (h : Shp n B t) (hn : n ≤ n') (hB : B ≤ B') : Shp n' B' t :=
  ⟨h.imm, fun m => by
    have := h.ok (m + (n' - n))
    rwa [show m + (n' - n) + n = m + n' by omega] at this, h.sm, Nat.le_trans h.rw_ hB⟩
theorem shp_int {i : Int} (h : i.natAbs < 10 ^ 100) : Shp 0 101 (.int i) := ⟨rfl, fun m => by simp, by simp [h], by simp⟩
theorem shp_str {s : Str} (h : okS s = true) (hl : s.length ≤ 8) : Shp 0 88 (.str s) := ⟨rfl, fun m => by simp [h], by simp, by simp; omega⟩
theorem shp_name {s : Str} (h : nameB s = true) : Shp 0 88 (.str s) := shp_str (okS_name h) (name_len h)
theorem shp_tup {α : Type} {f : α → T} {xs : List α} {n B K : Nat} (h : ∀ x ∈ xs, Shp n B (f x)) (hl : xs.length ≤ K) : Shp (n + 1) ((B + 2) * K + 3) (.nd .tup (xs.map f)) := by
  have e1 : immL (xs.map f) = true := by
    induction xs with
    | nil => rfl
    | cons x xs ih => simp [(h x List.mem_cons_self).imm, ih (fun y hy => h y (List.mem_cons_of_mem _ hy)) (by simp at hl; omega)]
  have e2 : ∀ m, okDL (m + n) (xs.map f) = true := fun m => okDL_map fun x hx => (h x hx).ok m
  have e3 : smL (xs.map f) = true := smL_map fun x hx => (h x hx).sm
  have e4 := rwL_map (f := f) (B := B) (xs := xs) fun x hx => (h x hx).rw_
  have e5 : (B + 2) * xs.length ≤ (B + 2) * K := Nat.mul_le_mul_left _ hl
  refine ⟨by simp [e1], fun m => ?_, by simp [e3], by simp; omega⟩
  rw [show m + (n + 1) = (m + n) + 1 by omega]
  simp [e2]
theorem shp_pair {a b : T} {n B : Nat} (ha : Shp n B a) (hb : Shp n B b) : Shp (n + 1) (2 * B + 7) (.nd .tup [a, b]) := by
  have := shp_tup (f := id) (xs := [a, b]) (n := n) (B := B) (K := 2) (fun x hx => by
    rcases List.mem_cons.mp hx with rfl | hx
    · exact ha
    · rw [List.mem_singleton.mp hx]; exact hb) (by simp)
  simp only [List.map_cons, List.map_nil, id] at this
  exact this.mono (Nat.le_refl _) (by omega)
theorem shp_cell {h : Chart} (w : h.Wf) {c : Cell} (hc : c ∈ h.cells) : Shp 1 300 c.t := ⟨imm_cell, fun m => okD_cell (cell_nm w hc), (cell_reprB w hc).1, (cell_reprB w hc).2⟩
theorem shp_repr {ts : List T} {n B : Nat} (h : ∀ t ∈ ts, Shp n B t) (hn : n ≤ 50) (hl : (B + 2) * ts.length + 3 ≤ 16777216) : ∃ s, fRepr (.nd (.lst true) ts) = some (.str s) ∧ okS s = true := by
  have e2 : okDL 59 ts = true := by
    have := okDL_map (n := 59) (f := id) (xs := ts) fun x hx => by
      have := (h x hx).ok (59 - n)
      rwa [show 59 - n + n = 59 by omega] at this
    simpa using this
  have e3 : smL ts = true := by
    have := smL_map (f := id) (xs := ts) fun x hx => (h x hx).sm
    simpa using this
  have e4 := rwL_map (f := id) (B := B) (xs := ts) fun x hx => (h x hx).rw_
  rw [List.map_id] at e4
  exact ⟨_, fRepr_ok (by simp [e2]) (by simp [e3]) (by simp; omega), okS_reprT (n := 60) (by simp [e2])⟩
section
variable {h : Chart} {lost : List Cell} {c : Cell}
end
end MI
namespace MI
open PySem L2
theorem full_spec {n : Nat} {a b c : Int} {Q : T × List T → Prop} (hj : JarOk n a b c) (hn : n ≤ 1000000)
    (k : ∀ (h : Chart) a' b' c', h.Wf → JarOk (n + 200) a' b' c' → Q (.nd (.lst true) [h.kind.t, .nd (.lst false) (h.cols.map Col.l)], [jarT a' b' c'])) :
    EvO (c__law_full [jarT a b c]) Q := by
  refine EvO_runB rfl ?_
  simp [m__law_full]
  refine labels_spec hj (by omega) fun ls a1 b1 c1 hls hj1 => ?_
  have hll := hls.len
  have hli : immL (ls.map T.str) = true := immL_map (fun _ => rfl) _
  simp
  rw [rng1_int (by omega) (by omega), rangeT_zero]
  simp
  generalize htg : ls.drop 8 = tags
  have htl : tags.length = 10 := by rw [← htg, List.length_drop]; omega
  have htn : tags.Nodup := by rw [← htg]; exact hls.nd.sublist (List.drop_sublist _ _)
  have htm : ∀ s ∈ tags, nameB s = true := fun s hs => hls.nm s (List.mem_of_mem_drop (by rw [htg]; exact hs))
  have hat : ∀ i : Nat, i < 10 → atI (ls.map T.str) ((8 + i : Nat) : Int) = some (.str (tags.getD i Str.empty)) := fun i hi => by
    rw [atI_of (k := 8 + i) rfl (by simp; omega), ← htg]
    simp [List.getD_eq_getElem?_getD, List.getElem?_drop, List.getElem?_eq_getElem (show 8 + i < ls.length by omega)]
  have hget : ∀ i : Nat, i < 10 → tags.getD i Str.empty ∈ tags := fun i hi => by
    rw [List.getD_eq_getElem?_getD, List.getElem?_eq_getElem (by omega)]
    exact List.getElem_mem (by omega)
  have hne : ∀ i : Nat, i < 9 → tags.getD i Str.empty ≠ tags.getD (i + 1) Str.empty := fun i hi e => by
    rw [List.getD_eq_getElem?_getD, List.getD_eq_getElem?_getD, List.getElem?_eq_getElem (by omega), List.getElem?_eq_getElem (by omega)] at e
    have := (List.getElem_inj htn).mp e
    omega
  refine loop_inv (enc := natT) (xs := List.range 8) (fun pre Ts => ∃ u, Ts = [jarT a1 b1 c1, .nd (.lst false) (ls.map T.str), .nd (.lst true) ((pre.map fun k => Col.mk (ls.getD k Str.empty) [] []).map Col.o), u, .dead, .dead, .dead, .dead]) ⟨_, rfl⟩ ?_ ?_
  · rintro pre x post e Ts ⟨u, rfl⟩
    have hx : x < 8 := by
      have : x ∈ List.range 8 := by rw [e]; simp
      simpa using this
    have hlen : pre.length < 16777216 := by
      have := congrArg List.length e
      simp at this; omega
    simp [natT]
    rw [atI_of (k := x) rfl (by simp; omega)]
    simp [hlen]
    refine Inn.mk ⟨.int x, ?_⟩
    simp [Col.o, List.getElem?_eq_getElem (show x < ls.length by omega)]
  rintro Ts ⟨u1, rfl⟩
  have hcut : fCut (.nd (.lst false) (ls.map T.str)) (some 8) none = some (.nd (.lst true) (tags.map T.str)) := by
    rw [fCut_lst hli, show (8 : Int) = ((8 : Nat) : Int) from rfl, cutT_from (by simp; omega), ← htg, List.map_drop]
  have hti : immL (tags.map T.str) = true := immL_map (fun _ => rfl) _
  simp [hcut, hti]
  refine loop_inv (enc := T.str) (xs := tags) (fun pre Ts => ∃ (cols : List Col) (a' b' c' : Int) (u u' : T), Ts = [jarT a' b' c', .nd (.lst false) (ls.map T.str), .nd (.lst true) (cols.map Col.o), u, u', .dead, .dead, .dead] ∧ cols.map Col.name = ls.take 8 ∧ (cols.flatMap Col.sums).Perm pre ∧ cols.flatMap Col.data = [] ∧ JarOk (n + 2 + pre.length) a' b' c') ?_ ?_ ?_
  · refine ⟨(List.range 8).map fun k => Col.mk (ls[k]?.getD Str.empty) [] [], a1, b1, c1, u1, .dead, ?_, ?_, ?_, ?_, hj1⟩
    · rw [List.map_map]
    · rw [List.map_map]
      apply List.ext_getElem?
      intro i
      by_cases hi : i < 8
      · simp [hi]; rw [List.getElem?_eq_getElem (by omega)]; rfl
      · simp [hi]; omega
    · simp [List.flatMap]
    · simp [List.flatMap]
  · rintro pre x post e Ts ⟨cols, a', b', c', u, u', rfl, hnm, hsp, hdt, hjj⟩
    have hpl : pre.length < tags.length := by rw [e]; simp
    simp
    refine dip_spec hjj (by omega) (by omega) (by omega) fun d a5 b5 c5 d0 d1 hj5 => ?_
    have hcl : cols.length = 8 := by
      have := congrArg List.length hnm
      simp at this; omega
    obtain ⟨cc, hcc⟩ : ∃ cc, cols[d.toNat]? = some cc := ⟨_, List.getElem?_eq_getElem (by omega)⟩
    have hsl : cc.sums.length < 16777216 := by
      have h1 := hsp.length_eq
      have h2 : cc.sums.length ≤ (cols.flatMap Col.sums).length := by
        have := List.mem_of_getElem? hcc
        exact (List.sublist_flatten_of_mem (List.mem_map_of_mem (f := Col.sums) this)).length_le
      omega
    simp
    rw [ixN_of d0 (by omega)]
    simp [hcc, Col.o, hsl]
    refine Inn.mk ⟨cols.set d.toNat { cc with sums := cc.sums ++ [x] }, a5, b5, c5, u, T.str x, ?_, ?_, ?_, ?_, ?_⟩
    · simp [List.map_set, Col.o, hcc]
    · exact (map_set_same Col.name { cc with sums := cc.sums ++ [x] } cols _ cc hcc rfl).trans hnm
    · exact (flatMap_set_perm Col.sums x _ cols _ cc hcc rfl).trans (hsp.append_right _)
    · exact (flatMap_set_same Col.data { cc with sums := cc.sums ++ [x] } cols _ cc hcc rfl).trans hdt
    · exact hj5.mono (by simp; omega)
  rintro Ts ⟨cols, a', b', c', u, u', rfl, hnm, hsp, hdt, hjj⟩
  simp
  rw [rng1_int (by omega) (by omega), rangeT_zero]
  simp
  refine loop_inv (enc := natT) (xs := List.range 24) (fun pre Ts => ∃ (cols : List Col) (a' b' c' : Int) (u3 u4 u5 u6 u7 : T), Ts = [jarT a' b' c', .nd (.lst false) (ls.map T.str), .nd (.lst true) (cols.map Col.o), u3, u4, u5, u6, u7] ∧ cols.map Col.name = ls.take 8 ∧ (cols.flatMap Col.sums).Perm tags ∧ (cols.flatMap Col.data).length ≤ pre.length ∧ (∀ p ∈ cols.flatMap Col.data, p.1 ∈ tags ∧ p.2 ∈ tags ∧ ltS p.1 p.2 = true) ∧ JarOk (n + 12 + 2 * pre.length) a' b' c') ⟨cols, a', b', c', u, u', .dead, .dead, .dead, rfl, hnm, hsp, by simp [hdt], by simp [hdt], hjj.mono (by simp; omega)⟩ ?_ ?_
  · rintro pre x post e Ts ⟨cols, a', b', c', u3, u4, u5, u6, u7, rfl, hnm, hsp, hdl, hdp, hjj⟩
    have hpl : pre.length < 24 := by
      have := congrArg List.length e
      simp at this; omega
    have hcl : cols.length = 8 := by
      have := congrArg List.length hnm
      simp at this; omega
    simp
    refine dip_spec hjj (by omega) (by omega) (by omega) fun q a2 b2 c2 q0 q1 hj2 => ?_
    obtain ⟨q, rfl⟩ : ∃ m : Nat, q = (m : Int) := ⟨q.toNat, by omega⟩
    have g1 := hat q (by omega)
    have g2 := hat (q + 1) (by omega)
    rw [show ((8 + q : Nat) : Int) = 8 + (q : Int) by omega] at g1
    rw [show ((8 + (q + 1) : Nat) : Int) = 9 + (q : Int) by omega] at g2
    have m1 := hget q (by omega)
    have m2 := hget (q + 1) (by omega)
    have hn12 := hne q (by omega)
    generalize tags.getD q Str.empty = one at *
    generalize tags.getD (q + 1) Str.empty = two at *
    simp
    rw [g1]
    simp
    rw [g2]
    simp
    refine dip_spec hj2 (by omega) (by omega) (by omega) fun d a5 b5 c5 d0 d1 hj5 => ?_
    obtain ⟨cc, hcc⟩ : ∃ cc, cols[d.toNat]? = some cc := ⟨_, List.getElem?_eq_getElem (by omega)⟩
    have hsl : cc.data.length < 16777216 := by
      have h2 : cc.data.length ≤ (cols.flatMap Col.data).length := by
        have := List.mem_of_getElem? hcc
        exact (List.sublist_flatten_of_mem (List.mem_map_of_mem (f := Col.data) this)).length_le
      omega
    simp
    rw [ixN_of d0 (by omega)]
    simp [hcc, Col.o, hsl, fMin, fMax]
    obtain ⟨p, hp, hp1, hp2, hp3⟩ : ∃ p : Str × Str, pairT p = .nd .tup [.str (if ltS two one = true then two else one), .str (if ltS one two = true then two else one)] ∧ p.1 ∈ tags ∧ p.2 ∈ tags ∧ ltS p.1 p.2 = true := by
      rcases ltS_total hn12 with h | h
      · have h' := ltS_asymm h
        exact ⟨(one, two), by simp [pairT, h, h'], m1, m2, h⟩
      · have h' := ltS_asymm h
        exact ⟨(two, one), by simp [pairT, h, h'], m2, m1, h⟩
    rw [← hp]
    have hperm := flatMap_set_perm Col.data p { cc with data := cc.data ++ [p] } cols _ cc hcc rfl
    refine Inn.mk ⟨cols.set d.toNat { cc with data := cc.data ++ [p] }, a5, b5, c5, .int q, u4, natT x, .str one, .str two, ?_, ?_, ?_, ?_, ?_, hj5.mono (by simp; omega)⟩
    · simp [List.map_set, Col.o, hcc]
    · exact (map_set_same Col.name { cc with data := cc.data ++ [p] } cols _ cc hcc rfl).trans hnm
    · rw [flatMap_set_same Col.sums { cc with data := cc.data ++ [p] } cols _ cc hcc rfl]; exact hsp
    · rw [hperm.length_eq, List.length_append, List.length_append]; exact Nat.add_le_add_right hdl 1
    · intro r hr
      rcases List.mem_append.mp (hperm.mem_iff.mp hr) with hr | hr
      · exact hdp r hr
      · rw [List.mem_singleton.mp hr]; exact ⟨hp1, hp2, hp3⟩
  · rintro Ts ⟨cols, a', b', c', u3, u4, u5, u6, u7, rfl, hnm, hsp, hdl, hdp, hjj⟩
    simp only [List.length_range] at hdl hjj
    simp
    refine some_kind_spec hjj (by omega) fun kd a6 b6 c6 hk hj6 => ?_
    simp
    have hcl : cols.length = 8 := by
      have := congrArg List.length hnm
      simp at this; omega
    refine k ⟨kd, cols⟩ _ _ _ ⟨hk, by show 1 ≤ cols.length; omega, by show cols.length ≤ 8; omega, ?_, ?_, ?_, ?_, ?_, ?_, by show (cols.flatMap Col.data).length ≤ 24; omega, ?_⟩ (hj6.mono (by omega))
    · show (cols.map Col.name).Nodup
      rw [hnm]; exact hls.nd.sublist (List.take_sublist _ _)
    · show ∀ s ∈ cols.map Col.name, _
      rw [hnm]; exact fun s hs => hls.nm s (List.mem_of_mem_take hs)
    · exact hsp.nodup_iff.mpr htn
    · exact fun s hs => htm s (hsp.mem_iff.mp hs)
    · show 1 ≤ (cols.flatMap Col.sums).length
      rw [hsp.length_eq]; omega
    · show (cols.flatMap Col.sums).length ≤ 10
      rw [hsp.length_eq]; omega
    · exact fun p hp => ⟨hsp.mem_iff.mpr (hdp p hp).1, hsp.mem_iff.mpr (hdp p hp).2.1, (hdp p hp).2.2⟩
end MI
namespace MI
open PySem L2
def Chart.line (h : Chart) : Str := ((((((("Table of " : Str) ++ numS (h.cols.length : Int)) ++ (" columns, " : Str)) ++ numS (h.sums.length : Int)) ++ (" sums and " : Str)) ++ numS (h.data.length : Int)) ++ (" data" : Str))
theorem fStr1_nat {m : Nat} (h : m ≤ 100) : fStr1 (.int (m : Int)) = some (.str (numS (m : Int))) := by
  have : (m : Int).natAbs.log2 < 1920 := log2_lt_of (by omega) (by have h2 : (2:Nat) ^ 40 ≤ 2 ^ 1920 := Nat.pow_le_pow_right (by omega) (by omega); omega)
  have this : m.log2 < 1920 := this
  simp [fStr1, this]
theorem fFmt_nat {m : Nat} (h : m ≤ 100) : fFmt (.int (m : Int)) = some (.str (numS (m : Int))) := fStr1_nat h
theorem num_len {m : Nat} (h : m ≤ 100) : (numS (m : Int)).length ≤ 10 := numS_len (by omega) (by omega)
theorem okS_line02 {h : Chart} (w : h.Wf) : okS h.line = true := by
  have n1 : ∀ m : Nat, okS (numS (m : Int)) = true := fun m => okS_num (by omega)
  have e1 : okS ("Table of " : Str) = true := by decide +kernel
  have e2 : okS (" columns, " : Str) = true := by decide +kernel
  have e3 : okS (" sums and " : Str) = true := by decide +kernel
  have e4 : okS (" data" : Str) = true := by decide +kernel
  unfold Chart.line
  exact okT_app (okT_app (okT_app (okT_app (okT_app (okT_app e1 (n1 _)) e2) (n1 _)) e3) (n1 _)) e4
theorem repr_tab {h : Chart} (w : h.Wf) : c_Table___repr__ [h.tab] = some (.str h.line, []) := by
  have c8 := w.c8
  have s10 := w.s10
  have d24 := w.d24
  have l1 : ("Table of " : Str).length = 9 := by decide
  have l2 : (" columns, " : Str).length = 10 := by decide
  have l3 : (" sums and " : Str).length = 10 := by decide
  have l4 : (" data" : Str).length = 5 := by decide
  have n1 := num_len (m := h.cols.length) (by omega)
  have n2 := num_len (m := h.sums.length) (by omega)
  have n3 := num_len (m := h.data.length) (by omega)
  refine EvO.eq (EvO_runB rfl ?_)
  simp [m_Table___repr__, Ev_mJs_cons, Chart.line, table_sums w, table_data w, fFmt_nat (show h.cols.length ≤ 100 by omega), fFmt_nat (show h.sums.length ≤ 100 by omega), fFmt_nat (show h.data.length ≤ 100 by omega), str_nil, str_len, l1, l2, l3, l4]
  omega
theorem eq_text_ok {h : Chart} {s : Str} : c_Table___eq__ [h.tab, .str s] = some (.bl false, []) := by
  refine EvO.eq (EvO_runB rfl ?_)
  have e1 : isC "Table" ["Table"] (.str s) = some (.bl false) := rfl
  simp [m_Table___eq__, e1]
@[simp] theorem Ev_mOwnT {cls : Str} {fa : M T} {Ts : List T} {Q : Bool → List T → Prop} : Ev (mOwnT cls fa) Ts Q ↔ Ev fa Ts fun t Ts => ∃ s, isIns cls Str.empty t = some s ∧ Q true Ts := by
  show Ev (bnd fa _) Ts Q ↔ _
  rw [Ev_bnd]
  refine iff_of_eq (congrArg (fun q => Ev fa Ts q) (funext fun t => funext fun s => propext ?_))
  cases h : isIns cls Str.empty t <;> simp [h, Ev_bnd]
theorem shp_kind {k : Kind} (hk : k.ok) : Shp 0 101 k.t := by
  cases k with
  | bits => exact (shp_str (s := ("bits" : Str)) (by decide +kernel) (by decide)).mono (Nat.le_refl _) (by omega)
  | plain => exact (shp_str (s := ("plain" : Str)) (by decide +kernel) (by decide)).mono (Nat.le_refl _) (by omega)
  | dial m =>
    have hk : 3 ≤ m ∧ m ≤ 1000000000 := hk
    exact shp_int (by omega)
theorem shp_pairs {h : Chart} (w : h.Wf) {ps : List (Str × Str)} (hp : ∀ p ∈ ps, p ∈ h.data) (hl : ps.length ≤ 24) : Shp 2 5000 (.nd .tup (ps.map pairT)) :=
  (shp_tup (f := pairT) (n := 1) (B := 183) (K := 24) (fun p hpp => by
    obtain ⟨p1, p2, _⟩ := w.dp p (hp p hpp)
    exact (shp_pair (shp_name (w.sn _ p1)) (shp_name (w.sn _ p2))).mono (Nat.le_refl _) (by omega)) hl).mono (Nat.le_refl _) (by omega)
theorem shp_strs02 {ss : List Str} (h : ∀ s ∈ ss, nameB s = true) (hl : ss.length ≤ 10) : Shp 1 1000 (.nd .tup (ss.map T.str)) :=
  (shp_tup (f := T.str) (n := 0) (B := 88) (K := 10) (fun s hs => shp_name (h s hs)) hl).mono (Nat.le_refl _) (by omega)
theorem len_flat {α β : Type} {f : α → List β} {xs : List α} {x : α} (h : x ∈ xs) : (f x).length ≤ (xs.flatMap f).length := (List.sublist_flatten_of_mem (List.mem_map_of_mem (f := f) h)).length_le
theorem shp_cols {h : Chart} (w : h.Wf) : Shp 4 200000 (.nd .tup (h.cols.map Col.t)) := by
  have s10 := w.s10
  have d24 := w.d24
  refine (shp_tup (f := Col.t) (n := 3) (B := 16000) (K := 8) (fun c hc => ?_) w.c8).mono (Nat.le_refl _) (by omega)
  have g1 : Shp 2 5000 (.str c.name) := (shp_name (w.nm _ (List.mem_map_of_mem hc))).mono (by omega) (by omega)
  have g2 : Shp 2 5000 (.nd .tup (c.sums.map T.str)) := (shp_strs02 (fun s hs => w.sn s (List.mem_flatMap.mpr ⟨c, hc, hs⟩)) (Nat.le_trans (len_flat (f := Col.sums) hc) s10)).mono (by omega) (by omega)
  have g3 : Shp 2 5000 (.nd .tup (c.data.map pairT)) := shp_pairs w (fun p hp => List.mem_flatMap.mpr ⟨c, hc, hp⟩) (Nat.le_trans (len_flat (f := Col.data) hc) d24)
  have := shp_tup (f := id) (xs := [T.str c.name, .nd .tup (c.sums.map T.str), .nd .tup (c.data.map pairT)]) (n := 2) (B := 5000) (K := 3) (fun x hx => by
    simp at hx
    rcases hx with rfl | rfl | rfl
    · exact g1
    · exact g2
    · exact g3) (by simp)
  simp only [List.map_cons, List.map_nil, id] at this
  exact this.mono (Nat.le_refl _) (by omega)
theorem shp_cells {h : Chart} (w : h.Wf) : Shp 2 100000 (cellsT h.cells) := by
  have hcl := cells_len h
  have s10 := w.s10
  have d24 := w.d24
  exact (shp_tup (f := Cell.t) (n := 1) (B := 300) (K := 34) (fun c hc => shp_cell w hc) (by omega)).mono (Nat.le_refl _) (by omega)
theorem shp_reprO {ts : List T} {n B : Nat} {ob : Bool} (h : ∀ t ∈ ts, Shp n B t) (hn : n ≤ 50) (hl : (B + 2) * ts.length + 3 ≤ 16777216) : fRepr (.nd (.lst ob) ts) = some (.str (reprT (.nd (.lst ob) ts))) ∧ okS (reprT (.nd (.lst ob) ts)) = true := by
  have e2 : okDL 59 ts = true := by
    have := okDL_map (n := 59) (f := id) (xs := ts) fun x hx => by
      have := (h x hx).ok (59 - n)
      rwa [show 59 - n + n = 59 by omega] at this
    simpa using this
  have e3 : smL ts = true := by
    have := smL_map (f := id) (xs := ts) fun x hx => (h x hx).sm
    simpa using this
  have e4 := rwL_map (f := id) (B := B) (xs := ts) fun x hx => (h x hx).rw_
  rw [List.map_id] at e4
  exact ⟨fRepr_ok (by simp [e2]) (by simp [e3]) (by simp; omega), okS_reprT (n := 60) (by simp [e2])⟩
def Chart.tellL (h : Chart) : List T := [.nd .tup (h.names.map T.str), .nd .tup (h.sums.map T.str), .nd .tup (h.data.map pairT), cellsT h.cells]
theorem told_repr {h : Chart} (w : h.Wf) {ob : Bool} : fRepr (.nd (.lst ob) h.tellL) = some (.str (reprT (.nd (.lst ob) h.tellL))) ∧ okS (reprT (.nd (.lst ob) h.tellL)) = true := by
  have c8 := w.c8
  have s10 := w.s10
  have d24 := w.d24
  refine shp_reprO (n := 4) (B := 200000) (fun t ht => ?_) (by omega) (by simp [Chart.tellL])
  simp [Chart.tellL] at ht
  rcases ht with rfl | rfl | rfl | rfl
  · exact (shp_strs02 (fun s hs => w.nm s hs) (by simp [Chart.names]; omega)).mono (by omega) (by omega)
  · exact (shp_strs02 (fun s hs => w.sn s hs) s10).mono (by omega) (by omega)
  · exact (shp_pairs w (fun p hp => hp) d24).mono (by omega) (by omega)
  · exact (shp_cells w).mono (by omega) (by omega)
theorem made_repr {h : Chart} (w : h.Wf) : ∃ s, fRepr (.nd (.lst true) [h.kind.t, .nd .tup (h.cols.map Col.t)]) = some (.str s) ∧ okS s = true := by
  refine shp_repr (n := 4) (B := 200000) (fun t ht => ?_) (by omega) (by simp)
  simp at ht
  rcases ht with rfl | rfl
  · exact (shp_kind w.k).mono (by omega) (by omega)
  · exact shp_cols w
def keep02 : M Fl := (mDrop (mMut 7 (mHere 7) isLst (mCons (mIm (mRd 11)) mNil) fAppend))
def same02 : M Fl := (mIfS (mOr (asB (m1 fNt (mBl (mCall c_Table___eq__ [none, none] (mChk (pEq "Table") (mCons (mFrz (mMake c_Table___init__ "Table" [none, none] (mPick [1, 0] 2 (mCons (mIm (m1 (fFld "Table" "columns") (mRd 11))) (mCons (mIm (m1 (fFld "Table" "kind") (mRd 11))) mNil))))) (mCons (mIm (mRd 11)) mNil))))))) (asB (m1 fNt (mBl (mCall c_Table___eq__ [none, none] (mChk (pEq "Table") (mCons (mFrz (mCall c_Table_read [none] (mCons (mIm (mRd 12)) mNil))) (mCons (mIm (mRd 11)) mNil)))))))) (mRet (mC (.bl false))) (ret .nx))
def line02 : M Fl := (mIfS (mOr (asB (m2 fNe (mTx (mCall c_Table___repr__ [none] (mCons (mIns "Table" Str.empty (mIm (mRd 11))) mNil))) (mRd 17))) (mOr (asB (m1 fNt (mBl (mCall c_Table___eq__ [none, none] (mChk (pEq "Table") (mCons (mFrz (mCall c_Table_read [none] (mCons (mIm (mRd 12)) mNil))) (mCons (mIm (mRd 11)) mNil))))))) (asB (mBl (mCall c_Table___eq__ [none, none] (mChk (pEq "Table") (mCons (mIm (mRd 11)) (mCons (mIm (mRd 12)) mNil)))))))) (mRet (mC (.bl false))) (ret .nx))
def row02 : M Fl := (mSet 17 (mFrz (m2 fAdd (m2 fAdd (m2 fAdd (m2 fAdd (m2 fAdd (m2 fAdd (mC (.str "Table of ")) (mF (c1 fStr1) (mCons (m2 fIx (mRd 16) (mC (.int 0))) mNil))) (mC (.str " columns, "))) (mF (c1 fStr1) (mCons (m2 fIx (mRd 16) (mC (.int 1))) mNil))) (mC (.str " sums and "))) (mF (c1 fStr1) (mCons (m2 fIx (mRd 16) (mC (.int 2))) mNil))) (mC (.str " data")))))
def sizes02 : M Fl := (mSet 16 (mLc (mItA (mRd 15)) (mPut 1) (ret true) (mF (c1 fLen) (mCons (mRd 1) mNil)) [1]))
def told02 : M Fl := (mIfS (asB (m2 fNe (mF (c1 fRepr) (mCons (mRd 14) mNil)) (mF (c1 fRepr) (mCons (m2 fAdd (mRd 15) (mLst (mCons (mFrz (mF (c1 fTuple) (mCons (mCall c__law_places [none] (mCons (mIm (mRd 10)) mNil)) mNil))) mNil))) mNil)))) (mRet (mC (.bl false))) (ret .nx))
def due02 : M Fl := (mSet 15 (mFrz (mLst (mCons (mFrz (mF (c1 fTuple) (mCons (mLc (mItA (m2 fIx (mRd 10) (mC (.int 1)))) (mPut 6) (ret true) (mIm (m2 fIx (mRd 6) (mC (.int 0)))) [6]) mNil))) (mCons (mFrz (mF (c1 fTuple) (mCons (mCall c__law_tags [none] (mCons (mIm (mRd 10)) mNil)) mNil))) (mCons (mFrz (mF (c1 fTuple) (mCons (mCall c__law_pairs [none] (mCons (mIm (mRd 10)) mNil)) mNil))) mNil))))))
def tell02 : M Fl := (mSet 14 (mFrz (mLst (mCons (mFrz (mCall c_Table_names [none] (mCons (mIns "Table" Str.empty (mIm (mRd 11))) mNil))) (mCons (mFrz (mCall c_Table_sums [none] (mCons (mIns "Table" Str.empty (mIm (mRd 11))) mNil))) (mCons (mFrz (mCall c_Table_data [none] (mCons (mIns "Table" Str.empty (mIm (mRd 11))) mNil))) (mCons (mFrz (mCall c_Table_cells [none] (mCons (mIns "Table" Str.empty (mIm (mRd 11))) mNil))) mNil)))))))
def made02 : M Fl := (mIfS (mOr (asB (m2 fNe (mF (c1 fRepr) (mCons (mLst (mCons (mIm (m1 (fFld "Table" "kind") (mRd 11))) (mCons (mIm (m1 (fFld "Table" "columns") (mRd 11))) mNil))) mNil)) (mF (c1 fRepr) (mCons (mLst (mCons (mIm (m2 fIx (mRd 10) (mC (.int 0)))) (mCons (mIm (mRd 13)) mNil))) mNil)))) (mOr (asB (m2 fNe (mTx (mCall c_Table___str__ [none] (mCons (mIns "Table" Str.empty (mIm (mRd 11))) mNil))) (mRd 12))) (mNot (mOwnT "Table" (mIm (mRd 11)))))) (mRet (mC (.bl false))) (ret .nx))
def pass02 : M Fl := (mSet 13 (mFrz (mF (c1 fTuple) (mCons (mLc (mItA (m2 fIx (mRd 10) (mC (.int 1)))) (mUn 3 (mGcons (mPut 2) (mGcons (mPut 3) (mGcons (mPut 4) mGnil)))) (ret true) (mFrz (mTup (mCons (mIm (mRd 2)) (mCons (mFrz (mF (c1 fTuple) (mCons (mRd 3) mNil))) (mCons (mFrz (mF (c1 fTuple) (mCons (mRd 4) mNil))) mNil))))) [2, 3, 4]) mNil))))
def all02 : M Fl := (mFor (mItA (mRd 7)) (mPut 9) (mIfS (asB (m2 fNe (mLc (mItA (mRd 7)) (mPut 5) (ret true) (m2 fEq (mBl (mCall c_Table___eq__ [none, none] (mChk (pEq "Table") (mCons (mIm (mRd 9)) (mCons (mIm (mRd 5)) mNil))))) (m2 fEq (mTx (mCall c_Table___str__ [none] (mCons (mIns "Table" Str.empty (mIm (mRd 9))) mNil))) (mTx (mCall c_Table___str__ [none] (mCons (mIns "Table" Str.empty (mIm (mRd 5))) mNil))))) [5]) (m2 fMul (mLst (mCons (mC (.bl true)) mNil)) (mC (.int 4))))) (mRet (mC (.bl false))) (ret .nx)))
def body02 : M Fl := (mSeq (mSet 10 (mIf (asB (m2 fEq (mCall c__law_dip [(some 0), none] (mCons (mLn 0) (mCons (mC (.int 4)) mNil))) (mC (.int 0)))) (mFrz (mCall c__law_full [(some 0)] (mCons (mLn 0) mNil))) (mFrz (mCall c__law_chart [(some 0), none, none, none] (mCons (mLn 0) (mCons (mC (.int 6)) (mCons (mC (.int 6)) (mCons (mC (.int 10)) mNil)))))))) (mSeq (mPar 11 12 (mCons (mFrz (mCall c__law_made [none] (mCons (mIm (mRd 10)) mNil))) (mCons (mFrz (mCall c__law_page [none] (mCons (mIm (mRd 10)) mNil))) mNil))) (mSeq pass02 (mSeq made02 (mSeq tell02 (mSeq due02 (mSeq told02 (mSeq sizes02 (mSeq row02 (mSeq line02 (mSeq same02 keep02)))))))))))
theorem m__law_right_k02_parts : m__law_right_k02 = (mSeq (mSet 7 (mLst mNil)) (mSeq (mFor (mRng rng1 (mCons (mC (.int 4)) mNil)) (mPut 8) body02) (mSeq all02 (mRet (mC (.bl true)))))) := rfl
theorem wf_imm {h : Chart} : immL (h.cols.map Col.t) = true := immL_colT
theorem pass02_ok {h : Chart} (w : h.Wf) {jar kept t8 t9 t13 t14 t15 t16 t17 : T} {Q : Fl → List T → Prop}
    (q : Q .nx [jar, .dead, .dead, .dead, .dead, .dead, .dead, kept, t8, t9, h.l, h.tab, .str h.text, .nd .tup (h.cols.map Col.t), t14, t15, t16, t17]) :
    Ev pass02 [jar, .dead, .dead, .dead, .dead, .dead, .dead, kept, t8, t9, h.l, h.tab, .str h.text, t13, t14, t15, t16, t17] Q := by
  have c8 := w.c8
  unfold pass02
  simp [Chart.l]
  refine lc_pure (enc := Col.l) (xs := h.cols) (fun _ => true) Col.t (by simp) (by simp; omega) (fun c hc => ?_) ?_
  · simp [Col.l, Col.t]
  · simp [wf_imm]
    exact q
theorem made02_ok {h : Chart} (w : h.Wf) {jar kept t8 t9 t14 t15 t16 t17 : T} {Q : Fl → List T → Prop}
    (q : Q .nx [jar, .dead, .dead, .dead, .dead, .dead, .dead, kept, t8, t9, h.l, h.tab, .str h.text, .nd .tup (h.cols.map Col.t), t14, t15, t16, t17]) :
    Ev made02 [jar, .dead, .dead, .dead, .dead, .dead, .dead, kept, t8, t9, h.l, h.tab, .str h.text, .nd .tup (h.cols.map Col.t), t14, t15, t16, t17] Q := by
  obtain ⟨s, e1, o⟩ := made_repr w
  have n1 := fNe_str_self o
  have n2 := fNe_str_self (okS_text w)
  have e2 := str_ok w
  unfold made02
  simp [Chart.l, wf_imm, e1, n1, e2, n2]
  exact q
def st02 (h : Chart) (jar kept t8 t9 t14 t15 t16 t17 : T) : List T := [jar, .dead, .dead, .dead, .dead, .dead, .dead, kept, t8, t9, h.l, h.tab, .str h.text, .nd .tup (h.cols.map Col.t), t14, t15, t16, t17]
def Chart.dueL (h : Chart) : List T := [.nd .tup (h.names.map T.str), .nd .tup (h.sums.map T.str), .nd .tup (h.data.map pairT)]
theorem due_imm {h : Chart} : immL h.dueL = true := by
  have e1 : immL (h.names.map T.str) = true := immL_map (fun _ => rfl) _
  have e2 : immL (h.sums.map T.str) = true := immL_map (fun _ => rfl) _
  have e3 : immL (h.data.map pairT) = true := immL_map (fun p => by simp [pairT]) _
  unfold Chart.dueL
  simp [e1, e2, e3]
theorem tell02_ok {h : Chart} (w : h.Wf) {jar kept t8 t9 t14 t15 t16 t17 : T} {Q : Fl → List T → Prop}
    (q : Q .nx (st02 h jar kept t8 t9 (.nd (.lst false) h.tellL) t15 t16 t17)) : Ev tell02 (st02 h jar kept t8 t9 t14 t15 t16 t17) Q := by
  have e1 : immL (h.names.map T.str) = true := immL_map (fun _ => rfl) _
  have e2 : immL (h.sums.map T.str) = true := immL_map (fun _ => rfl) _
  have e3 : immL (h.data.map pairT) = true := immL_map (fun p => by simp [pairT]) _
  unfold tell02 st02
  simp [table_names w, table_sums w, table_data w, table_cells w, fzL_imm, e1, e2, e3]
  exact q
theorem due02_ok {h : Chart} (w : h.Wf) {jar kept t8 t9 t14 t15 t16 t17 : T} {Q : Fl → List T → Prop}
    (q : Q .nx (st02 h jar kept t8 t9 t14 (.nd (.lst false) h.dueL) t16 t17)) : Ev due02 (st02 h jar kept t8 t9 t14 t15 t16 t17) Q := by
  have c8 := w.c8
  have e1 : immL (h.names.map T.str) = true := immL_map (fun _ => rfl) _
  have e2 : immL (h.sums.map T.str) = true := immL_map (fun _ => rfl) _
  have e3 : immL (h.data.map pairT) = true := immL_map (fun p => by simp [pairT]) _
  have t1 := tags_okT w
  have t2 := pairs_ok w
  unfold due02 st02
  simp only [Chart.l] at *
  simp
  refine lc_pure (enc := Col.l) (xs := h.cols) (fun _ => true) (fun c => .str c.name) (by simp) (by simp; omega) (fun c hc => ?_) ?_
  · simp [Col.l]
  · rw [filter_tt]
    simp [t1, t2, e2, e3, fzL_imm]
    have en : (h.cols.map fun c => T.str c.name) = h.names.map T.str := by simp [Chart.names]
    rw [en]
    simp [e1, fzL_imm]
    exact q
theorem told02_ok {h : Chart} (w : h.Wf) {jar kept t8 t9 t16 t17 : T} {Q : Fl → List T → Prop}
    (q : Q .nx (st02 h jar kept t8 t9 (.nd (.lst false) h.tellL) (.nd (.lst false) h.dueL) t16 t17)) : Ev told02 (st02 h jar kept t8 t9 (.nd (.lst false) h.tellL) (.nd (.lst false) h.dueL) t16 t17) Q := by
  obtain ⟨e1, o1⟩ := told_repr w (ob := false)
  obtain ⟨e2, o2⟩ := told_repr w (ob := true)
  have es : reprT (.nd (.lst true) h.tellL) = reprT (.nd (.lst false) h.tellL) := by simp [reprT]
  rw [es] at e2
  generalize reprT (.nd (.lst false) h.tellL) = s1 at *
  have n1 := fNe_str_self o1
  have pl := places_ok w
  have ed : h.dueL ++ [cellsT h.cells] = h.tellL := rfl
  have di := due_imm (h := h)
  have e4 : (cellsT h.cells).imm = true := by simp
  have e5 : immL (h.cells.map Cell.t) = true := immL_map (fun _ => imm_cell) _
  unfold told02 st02
  simp [e1, pl, e5, fzL_imm]
  refine ⟨di, by simp [Chart.dueL], ?_⟩
  rw [show h.dueL ++ [T.nd .tup (h.cells.map Cell.t)] = h.tellL from rfl, e2]
  simp [n1]
  exact q
def Chart.szs (h : Chart) : List T := [.int (h.cols.length : Int), .int (h.sums.length : Int), .int (h.data.length : Int)]
theorem sizes02_ok {h : Chart} (w : h.Wf) {jar kept t8 t9 t14 t16 t17 : T} {Q : Fl → List T → Prop}
    (q : Q .nx (st02 h jar kept t8 t9 t14 (.nd (.lst false) h.dueL) (.nd (.lst true) h.szs) t17)) : Ev sizes02 (st02 h jar kept t8 t9 t14 (.nd (.lst false) h.dueL) t16 t17) Q := by
  have c8 := w.c8
  have s10 := w.s10
  have d24 := w.d24
  have nl : h.names.length = h.cols.length := by simp [Chart.names]
  have di := due_imm (h := h)
  unfold sizes02 st02
  simp [di]
  rw [show h.dueL = [(T.nd .tup (h.names.map T.str), h.cols.length), (T.nd .tup (h.sums.map T.str), h.sums.length), (T.nd .tup (h.data.map pairT), h.data.length)].map Prod.fst from rfl]
  refine lc_pure (vs := [1]) (enc := Prod.fst) (xs := [(T.nd .tup (h.names.map T.str), h.cols.length), (T.nd .tup (h.sums.map T.str), h.sums.length), (T.nd .tup (h.data.map pairT), h.data.length)]) (Ts := [jar, .dead, .dead, .dead, .dead, .dead, .dead, kept, t8, t9, h.l, h.tab, .str h.text, .nd .tup (h.cols.map Col.t), t14, .nd (.lst false) h.dueL, t16, t17]) (fun _ => true) (fun p => .int ((p.2 : Nat) : Int)) (by simp) (by simp) (fun p hp => ?_) ?_
  · simp at hp
    rcases hp with rfl | rfl | rfl
    · simp [nl]
    · simp
    · simp
  · rw [filter_tt]
    simp
    exact q
theorem row02_ok {h : Chart} (w : h.Wf) {jar kept t8 t9 t14 t15 t17 : T} {Q : Fl → List T → Prop}
    (q : Q .nx (st02 h jar kept t8 t9 t14 t15 (.nd (.lst true) h.szs) (.str h.line))) : Ev row02 (st02 h jar kept t8 t9 t14 t15 (.nd (.lst true) h.szs) t17) Q := by
  have c8 := w.c8
  have s10 := w.s10
  have d24 := w.d24
  have l1 : ("Table of " : Str).length = 9 := by decide
  have l2 : (" columns, " : Str).length = 10 := by decide
  have l3 : (" sums and " : Str).length = 10 := by decide
  have l4 : (" data" : Str).length = 5 := by decide
  have n1 := num_len (m := h.cols.length) (by omega)
  have n2 := num_len (m := h.sums.length) (by omega)
  have n3 := num_len (m := h.data.length) (by omega)
  unfold row02 st02
  simp [Chart.szs, fStr1_nat (show h.cols.length ≤ 100 by omega), fStr1_nat (show h.sums.length ≤ 100 by omega), fStr1_nat (show h.data.length ≤ 100 by omega), fAdd_strL, str_len, l1, l2, l3, l4, show 9 + (numS (h.cols.length : Int)).length ≤ 16777216 by omega, show 9 + (numS (h.cols.length : Int)).length + 10 ≤ 16777216 by omega, show 9 + (numS (h.cols.length : Int)).length + 10 + (numS (h.sums.length : Int)).length ≤ 16777216 by omega, show 9 + (numS (h.cols.length : Int)).length + 10 + (numS (h.sums.length : Int)).length + 10 ≤ 16777216 by omega, show 9 + (numS (h.cols.length : Int)).length + 10 + (numS (h.sums.length : Int)).length + 10 + (numS (h.data.length : Int)).length ≤ 16777216 by omega, show 9 + (numS (h.cols.length : Int)).length + 10 + (numS (h.sums.length : Int)).length + 10 + (numS (h.data.length : Int)).length + 5 ≤ 16777216 by omega]
  exact q
theorem line02_ok {h : Chart} (w : h.Wf) {jar kept t8 t9 t14 t15 t16 : T} {Q : Fl → List T → Prop}
    (q : Q .nx (st02 h jar kept t8 t9 t14 t15 t16 (.str h.line))) : Ev line02 (st02 h jar kept t8 t9 t14 t15 t16 (.str h.line)) Q := by
  have n1 := fNe_str_self (okS_line02 w)
  have e1 := repr_tab w
  have e2 := read_ok w
  have e3 := eq_ok w w
  have e4 := eq_text_ok (h := h) (s := h.text)
  have pq : pEq "Table" [h.tab, .str h.text] = true := by simp [Chart.tab, pEq]
  simp at e3
  unfold line02 st02
  simp [e1, n1, e2, e3, e4, pq]
  exact q
theorem same02_ok {h : Chart} (w : h.Wf) {jar kept t8 t9 t14 t15 t16 t17 : T} {Q : Fl → List T → Prop}
    (q : Q .nx (st02 h jar kept t8 t9 t14 t15 t16 t17)) : Ev same02 (st02 h jar kept t8 t9 t14 t15 t16 t17) Q := by
  have e2 := read_ok w
  have e3 := eq_ok w w
  have e4 := table_init w
  simp at e3
  unfold same02 st02
  simp [e2, e3, wf_imm, e4, pickO, pick]
  exact q
theorem keep02_ok {h : Chart} {hs : List Chart} (hl : hs.length ≤ 100) {jar t8 t9 t14 t15 t16 t17 : T} {Q : Fl → List T → Prop}
    (q : Q .nx (st02 h jar (.nd (.lst true) ((hs ++ [h]).map Chart.tab)) t8 t9 t14 t15 t16 t17)) : Ev keep02 (st02 h jar (.nd (.lst true) (hs.map Chart.tab)) t8 t9 t14 t15 t16 t17) Q := by
  unfold keep02 st02
  simp [show hs.length < 16777216 by omega]
  rw [List.map_append] at q
  exact q
theorem fMul_four {a : T} (ha : a.imm = true) : fMul (.nd (.lst true) [a]) (.int 4) = some (.nd (.lst true) [a, a, a, a]) := by
  have hc : (4 : Int) ≤ 1000000 ∧ (-1000000 : Int) ≤ 4 ∧ ([a] : List T).length * (4 : Int).toNat ≤ sizeLine := ⟨by omega, by omega, by show 4 ≤ 16777216; omega⟩
  have hk : kLe (.nd (.lst true) [a]) = some [a] := by simp [kLe, ha]
  have e : fMulL (.nd (.lst true) [a]) (.int 4) = some (.nd (.lst true) [a, a, a, a]) := by
    unfold fMulL
    rw [hk]
    show (if (4 : Int) ≤ 1000000 ∧ (-1000000 : Int) ≤ 4 ∧ ([a] : List T).length * (4 : Int).toNat ≤ sizeLine then some (T.nd (Kd.lst true) (List.replicate (4 : Int).toNat [a]).flatten) else none) = _
    rw [if_pos hc]
    rfl
  simp only [fMul, oe2, fII, e]
theorem all02_ok {hs : List Chart} (w : ∀ h ∈ hs, h.Wf) (h4 : hs.length = 4) {jar t8 t9 t10 t11 t12 t13 t14 t15 t16 t17 : T} {Q : Fl → List T → Prop}
    (q : ∀ t9, Q .nx [jar, .dead, .dead, .dead, .dead, .dead, .dead, .nd (.lst true) (hs.map Chart.tab), t8, t9, t10, t11, t12, t13, t14, t15, t16, t17]) :
    Ev all02 [jar, .dead, .dead, .dead, .dead, .dead, .dead, .nd (.lst true) (hs.map Chart.tab), t8, t9, t10, t11, t12, t13, t14, t15, t16, t17] Q := by
  have hi : immL (hs.map Chart.tab) = true := immL_map (fun _ => by simp) _
  unfold all02
  simp [hi]
  refine loop_inv (enc := Chart.tab) (xs := hs) (fun pre Ts => ∃ t9, Ts = [jar, .dead, .dead, .dead, .dead, .dead, .dead, .nd (.lst true) (hs.map Chart.tab), t8, t9, t10, t11, t12, t13, t14, t15, t16, t17]) ⟨t9, rfl⟩ ?_ ?_
  · rintro pre x post e Ts ⟨t9, rfl⟩
    have wx : x.Wf := w x (by rw [e]; simp)
    simp [hi]
    refine lc_pure (enc := Chart.tab) (xs := hs) (fun _ => true) (fun _ => .bl true) (by simp) (by simp; omega) (fun y hy => ?_) ?_
    · have e1 := eq_ok wx (w y hy)
      have e2 := fEq_text wx (w y hy)
      have e3 : ∀ d : Bool, fEq (.bl d) (.bl d) = some (.bl true) := fun d => by
        rw [fEq_ok (by simp) (by simp)]
        exact congrArg (fun b => some (T.bl b)) (eqT_self _ 60 (by simp))
      simp [e1, str_ok wx, str_ok (w y hy), e2, e3]
    · rw [filter_tt]
      have hm : (hs.map fun _ => T.bl true) = [.bl true, .bl true, .bl true, .bl true] := by
        match hs, h4 with
        | [_, _, _, _], _ => rfl
      rw [hm]
      have hf := fMul_four (a := .bl true) rfl
      have hn : fNe (.nd (.lst true) [T.bl true, .bl true, .bl true, .bl true]) (.nd (.lst true) [T.bl true, .bl true, .bl true, .bl true]) = some (.bl false) := by
        have hd : okD 60 (.nd (.lst true) [T.bl true, .bl true, .bl true, .bl true]) = true := by simp
        rw [fNe_ok hd hd]
        exact congrArg (fun b => some (T.bl (!b))) (eqT_self _ 60 hd)
      simp [hf, hn]
      exact Inn.mk ⟨_, rfl⟩
  · rintro Ts ⟨t9, rfl⟩
    exact q t9
theorem body02_ok {n : Nat} {a b c : Int} {hs : List Chart} (hl : hs.length ≤ 100) (hj : JarOk n a b c) (hn : n ≤ 100000) {t8 t9 t10 t11 t12 t13 t14 t15 t16 t17 : T} {Q : Fl → List T → Prop}
    (q : ∀ h a b c t10 t11 t12 t13 t14 t15 t16 t17, h.Wf → JarOk (n + 201) a b c → Q .nx [jarT a b c, .dead, .dead, .dead, .dead, .dead, .dead, .nd (.lst true) ((hs ++ [h]).map Chart.tab), t8, t9, t10, t11, t12, t13, t14, t15, t16, t17]) :
    Ev body02 [jarT a b c, .dead, .dead, .dead, .dead, .dead, .dead, .nd (.lst true) (hs.map Chart.tab), t8, t9, t10, t11, t12, t13, t14, t15, t16, t17] Q := by
  have p1 := fun {h : Chart} (w : h.Wf) {jar kept t8 t9 t13 t14 t15 t16 t17 : T} {Q : Fl → List T → Prop} => pass02_ok w (jar := jar) (kept := kept) (t8 := t8) (t9 := t9) (t13 := t13) (t14 := t14) (t15 := t15) (t16 := t16) (t17 := t17) (Q := Q)
  have p2 := fun {h : Chart} (w : h.Wf) {jar kept t8 t9 t14 t15 t16 t17 : T} {Q : Fl → List T → Prop} => made02_ok w (jar := jar) (kept := kept) (t8 := t8) (t9 := t9) (t14 := t14) (t15 := t15) (t16 := t16) (t17 := t17) (Q := Q)
  have p3 := fun {h : Chart} (w : h.Wf) {jar kept t8 t9 t14 t15 t16 t17 : T} {Q : Fl → List T → Prop} => tell02_ok w (jar := jar) (kept := kept) (t8 := t8) (t9 := t9) (t14 := t14) (t15 := t15) (t16 := t16) (t17 := t17) (Q := Q)
  have p4 := fun {h : Chart} (w : h.Wf) {jar kept t8 t9 t14 t15 t16 t17 : T} {Q : Fl → List T → Prop} => due02_ok w (jar := jar) (kept := kept) (t8 := t8) (t9 := t9) (t14 := t14) (t15 := t15) (t16 := t16) (t17 := t17) (Q := Q)
  have p5 := fun {h : Chart} (w : h.Wf) {jar kept t8 t9 t16 t17 : T} {Q : Fl → List T → Prop} => told02_ok w (jar := jar) (kept := kept) (t8 := t8) (t9 := t9) (t16 := t16) (t17 := t17) (Q := Q)
  have p6 := fun {h : Chart} (w : h.Wf) {jar kept t8 t9 t14 t16 t17 : T} {Q : Fl → List T → Prop} => sizes02_ok w (jar := jar) (kept := kept) (t8 := t8) (t9 := t9) (t14 := t14) (t16 := t16) (t17 := t17) (Q := Q)
  have p7 := fun {h : Chart} (w : h.Wf) {jar kept t8 t9 t14 t15 t17 : T} {Q : Fl → List T → Prop} => row02_ok w (jar := jar) (kept := kept) (t8 := t8) (t9 := t9) (t14 := t14) (t15 := t15) (t17 := t17) (Q := Q)
  have p8 := fun {h : Chart} (w : h.Wf) {jar kept t8 t9 t14 t15 t16 : T} {Q : Fl → List T → Prop} => line02_ok w (jar := jar) (kept := kept) (t8 := t8) (t9 := t9) (t14 := t14) (t15 := t15) (t16 := t16) (Q := Q)
  have p9 := fun {h : Chart} (w : h.Wf) {jar kept t8 t9 t14 t15 t16 t17 : T} {Q : Fl → List T → Prop} => same02_ok w (jar := jar) (kept := kept) (t8 := t8) (t9 := t9) (t14 := t14) (t15 := t15) (t16 := t16) (t17 := t17) (Q := Q)
  have pk := fun {h : Chart} {jar t8 t9 t14 t15 t16 t17 : T} {Q : Fl → List T → Prop} => keep02_ok (h := h) hl (jar := jar) (t8 := t8) (t9 := t9) (t14 := t14) (t15 := t15) (t16 := t16) (t17 := t17) (Q := Q)
  unfold body02
  generalize pass02 = P1 at *
  generalize made02 = P2 at *
  generalize tell02 = P3 at *
  generalize due02 = P4 at *
  generalize told02 = P5 at *
  generalize sizes02 = P6 at *
  generalize row02 = P7 at *
  generalize line02 = P8 at *
  generalize same02 = P9 at *
  generalize keep02 = PK at *
  have hfin : ∀ (h : Chart) (w : h.Wf) (a b c : Int), JarOk (n + 201) a b c → Ev (mSeq (mPar 11 12 (mCons (mFrz (mCall c__law_made [none] (mCons (mIm (mRd 10)) mNil))) (mCons (mFrz (mCall c__law_page [none] (mCons (mIm (mRd 10)) mNil))) mNil))) (mSeq P1 (mSeq P2 (mSeq P3 (mSeq P4 (mSeq P5 (mSeq P6 (mSeq P7 (mSeq P8 (mSeq P9 PK))))))))))
      [jarT a b c, .dead, .dead, .dead, .dead, .dead, .dead, .nd (.lst true) (hs.map Chart.tab), t8, t9, h.l, t11, t12, t13, t14, t15, t16, t17] Q := by
    intro h w a b c hj
    have e1 := law_page_ok w
    have e2 := made_ok w
    have hLi : h.l.imm = true := by simp
    have hLf : h.l.fz = h.l := T.fz_imm _ hLi
    have hLl : h.l.live = true := rfl
    simp only [Ev_mSeq]
    simp [e1, e2, hLi, hLf, hLl]
    refine p1 w ?_
    rw [then_nx, Ev_mSeq]
    refine p2 w ?_
    rw [then_nx, Ev_mSeq]
    refine p3 w ?_
    rw [then_nx, Ev_mSeq]
    refine p4 w ?_
    rw [then_nx, Ev_mSeq]
    refine p5 w ?_
    rw [then_nx, Ev_mSeq]
    refine p6 w ?_
    rw [then_nx, Ev_mSeq]
    refine p7 w ?_
    rw [then_nx, Ev_mSeq]
    refine p8 w ?_
    rw [then_nx, Ev_mSeq]
    refine p9 w ?_
    rw [then_nx]
    exact pk (q h a b c _ _ _ _ _ _ _ _ w hj)
  generalize (mSeq (mPar 11 12 (mCons (mFrz (mCall c__law_made [none] (mCons (mIm (mRd 10)) mNil))) (mCons (mFrz (mCall c__law_page [none] (mCons (mIm (mRd 10)) mNil))) mNil))) (mSeq P1 (mSeq P2 (mSeq P3 (mSeq P4 (mSeq P5 (mSeq P6 (mSeq P7 (mSeq P8 (mSeq P9 PK)))))))))) = REST at *
  simp
  refine dip_spec hj (by omega) (by omega) (by omega) fun d a1 b1 c1 d0 d1 hj1 => ?_
  simp
  split
  · refine full_spec hj1 (by omega) fun h a2 b2 c2 w hj2 => ?_
    have := hfin h w a2 b2 c2 hj2
    simp [Chart.l] at this ⊢
    exact this
  · refine chart_spec (most := 6) (sm := 6) (dm := 10) hj1 (by omega) (by omega) (by omega) (by omega) (by omega) (by omega) fun h a2 b2 c2 w c6 s6 d10 hj2 => ?_
    have := hfin h w a2 b2 c2 hj2
    simp [Chart.l] at this ⊢
    exact this
theorem right02_spec {n : Nat} {a b c : Int} (hj : JarOk n a b c) (hn : n ≤ 1000) : EvO (c__law_right_k02 [jarT a b c]) fun p => p.1 = .bl true := by
  refine EvO_runB rfl ?_
  rw [m__law_right_k02_parts]
  have hb := fun {n : Nat} {a b c : Int} {hs : List Chart} (hl : hs.length ≤ 100) (hj : JarOk n a b c) (hn : n ≤ 100000) {t8 t9 t10 t11 t12 t13 t14 t15 t16 t17 : T} {Q : Fl → List T → Prop} => body02_ok hl hj hn (t8 := t8) (t9 := t9) (t10 := t10) (t11 := t11) (t12 := t12) (t13 := t13) (t14 := t14) (t15 := t15) (t16 := t16) (t17 := t17) (Q := Q)
  have ha := fun {hs : List Chart} (w : ∀ h ∈ hs, h.Wf) (h4 : hs.length = 4) {jar t8 t9 t10 t11 t12 t13 t14 t15 t16 t17 : T} {Q : Fl → List T → Prop} => all02_ok w h4 (jar := jar) (t8 := t8) (t9 := t9) (t10 := t10) (t11 := t11) (t12 := t12) (t13 := t13) (t14 := t14) (t15 := t15) (t16 := t16) (t17 := t17) (Q := Q)
  generalize body02 = BD at *
  generalize all02 = AL at *
  simp
  rw [rng1_int (by omega) (by omega), rangeT_zero]
  simp
  refine loop_inv (enc := natT) (xs := List.range 4) (fun pre Ts => ∃ (hs : List Chart) (a b c : Int) (t8 t9 t10 t11 t12 t13 t14 t15 t16 t17 : T), (∀ h ∈ hs, h.Wf) ∧ hs.length = pre.length ∧ JarOk (n + 201 * pre.length) a b c ∧ Ts = [jarT a b c, .dead, .dead, .dead, .dead, .dead, .dead, .nd (.lst true) (hs.map Chart.tab), t8, t9, t10, t11, t12, t13, t14, t15, t16, t17])
    ⟨[], a, b, c, _, _, _, _, _, _, _, _, _, _, (fun _ z => nomatch z), rfl, hj, rfl⟩ ?_ ?_
  · rintro pre x post e Ts ⟨hs, a, b, c, t8, t9, t10, t11, t12, t13, t14, t15, t16, t17, hw, hl, hj, rfl⟩
    obtain ⟨rfl, hx⟩ := range_pre e
    simp
    refine hb (by omega) hj (by omega) fun h a b c t10 t11 t12 t13 t14 t15 t16 t17 w hj => ?_
    rw [turn_nx]
    exact Inn.mk ⟨hs ++ [h], a, b, c, _, _, _, _, _, _, _, _, _, _, fun y hy => (List.mem_append.mp hy).elim (hw y) fun z => by rw [List.mem_singleton.mp z]; exact w, by simp [hl], hj.mono (by simp; omega), rfl⟩
  · rintro Ts ⟨hs, a, b, c, t8, t9, t10, t11, t12, t13, t14, t15, t16, t17, hw, hl, hj, rfl⟩
    simp at hl
    simp
    refine ha hw hl fun t9 => ?_
    simp
theorem plain02 (ns : List Int) (hl : ns.length ≤ 63) : c_law_k02 [.nd .scr (ns.map T.int)] = some (.bl true, []) := by
  refine EvO.eq (EvO_runB rfl ?_)
  simp [m_law_k02, fMin, fMax]
  rw [rng1_int (by split <;> split <;> omega) (by split <;> split <;> omega), rangeT_zero]
  generalize hN : Int.toNat _ = N
  have hN : N ≤ 6 := by rw [← hN]; split <;> split <;> omega
  simp
  refine lc_pure (enc := natT) (xs := List.range N) (fun _ => true) (fun _ => .bl true) (by simp) (by simp; omega) (fun k hk => ?_) ?_
  · have hk : k < N := List.mem_range.mp hk
    obtain ⟨a, b, e, hj⟩ := jar_spec (ns := ns) (turn := k) (by omega)
    simp [natT]
    rw [e]
    simp
    refine (right02_spec hj (by omega)).mono fun p hp => ?_
    rw [hp]
    simp
  · have f1 := fBools_map (o := true) (fun bs => bs.all id) (fun _ : Nat => true) (List.range N)
    have f2 : ((List.range N).map fun _ => true).all id = true := by simp
    rw [f2] at f1
    rw [filter_tt]
    simp [f1]
end MI
namespace MI
open PySem PySem.Spec PyProof.Rows L2 He
end MI
open PySem PySem.W PySem.Calls PyProof.Rows
set_option maxHeartbeats 0 in
theorem law_holds (plain : ∀ ns : List Int, ns.length ≤ 63 → MI.c_law_k02 [.nd .scr (ns.map MI.T.int)] = some (.bl true, [])) : PySem.Challenge.rw_pairsums_k02_tables_made_and_told.Holds := by
  w_on; o_law
  refine HandSHeadRun.head_any (r := OpenLaw.row PySem.Challenge.rw_pairsums_k02_tables_made_and_told) (q := MI.qv) (H := MI.hk) (ob := MI.ob) (M := 10000) (loose := MI.names) (d := HandSHeadRun.topDef (OpenLaw.row PySem.Challenge.rw_pairsums_k02_tables_made_and_told).prog 48) (kwd := []) MI.ob_eq
    (by kernel_rfl) (fun s => by kernel_rfl) MI.run (by kernel_rfl) (by kernel_rfl) (by kernel_rfl) (by rfl) (by first | assumption | decide +kernel) (by decide +kernel) ⟨rfl, rfl, rfl, rfl, rfl, by decide +kernel⟩ ?hw ?hc
  case hw => w_witness2
  case hc =>
    refine MI.walk_ofG (l := PySem.Challenge.rw_pairsums_k02_tables_made_and_told) (n := 63) (k := 20) (x := "_law_cells") (CX := L2.CX0) rfl (by decide) (by kernel_rfl) ⟨rfl, by decide, by decide⟩ ?F (fun _ _ _ _ z => z)
    intro w mg fa h Y G hmg0
    obtain ⟨K, KX, c⟩ := Y
    have hmg : mg ("law" : PySem.Str) = some (.ref fa) := by
      have e : (HandSHeadRun.topDef (OpenLaw.row PySem.Challenge.rw_pairsums_k02_tables_made_and_told).prog 48).name = ("law" : PySem.Str) := by kernel_rfl
      rw [← e]
      exact hmg0
    have e := hmg.symm.trans (He.glo_ok KX G (c.fact 72))
    cases e
    obtain ⟨fd, F, _, _, FD⟩ := MI.f_law_k02 (w := w) c KX G
    have bA := L2.FunD.bindsA (ps := ["_law_cells"]) FD fun _ _ _ _ _ _ us hl => match us, hl with | [_], _ => rfl
    exact ⟨K, fd, MI.spT (MI.GG K) [] MI.c_law_k02, KX, fun s u => bA s [u] rfl, fun H a ns hl on hS => MI.sp_start (plain ns hl) hS (MI.tbO_only rfl on), fun base _ _ => F base⟩
theorem PySem.Challenge.cw_pairsums_k02_tables_made_and_told_holds : PySem.Challenge.rw_pairsums_k02_tables_made_and_told.Holds := by
  exact law_holds MI.plain02
