import PyProof.Rows.All
import HandS.ForMost
import HandS.TupAny
import HandS.Zip
import HandS.IsInst
import HandS.DictTup
import KE.KDictKeyed
import HandS.Small
import PyProof.CallFns
import HandS.Style
import KE.GoesNew
import HandS.Ends
import HandS.Words
import PyProof.StrLawsRepr
import PySem.Challenge.RW_nocheaper_k19_lengths_of_jumps
set_option Elab.async false
set_option linter.all false
set_option maxRecDepth 100000
/-! Data over the abstract heap: trees of data, some of whose lists are owned (and may be changed), the others frozen. -/
namespace Dm
open PySem PySem.Spec PyProof.Rows L2

inductive D where
  | non | bl (b : Bool) | int (i : Int) | str (x : Str)
  | tup (xs : List D) | lst (o : Bool) (xs : List D) | scr (xs : List D)
  | dic (o : Bool) (ks vs : List D) | fn (x : Str) | ty (n : String) | ins (o : Bool) (c : Str) (fs : List Str) (vs : List D)

mutual
def froz : D → D
  | .tup xs => .tup (frozL xs)
  | .lst _ xs => .lst false (frozL xs)
  | .dic _ ks vs => .dic false ks (frozL vs)
  | .scr xs => .scr xs
  | .non => .non
  | .bl b => .bl b
  | .int i => .int i
  | .str x => .str x
  | .fn x => .fn x
  | .ty n => .ty n
  | .ins _ c fs vs => .ins false c fs (frozL vs)
def frozL : List D → List D
  | [] => []
  | x :: xs => froz x :: frozL xs
end
mutual
def isFz : D → Bool
  | .tup xs => isFzL xs
  | .lst o xs => !o && isFzL xs
  | .dic o ks vs => !o && isFzL vs
  | .ins o _ _ vs => !o && isFzL vs
  | .scr _ => true
  | .non => true
  | .bl _ => true
  | .int _ => true
  | .str _ => true
  | .fn _ => true
  | .ty _ => true
def isFzL : List D → Bool
  | [] => true
  | x :: xs => isFz x && isFzL xs
end
mutual
def toP : D → PyData
  | .non => .none
  | .bl b => .bool b
  | .int i => .int i
  | .str x => .str x
  | .tup xs => .tuple (toPL xs)
  | .lst _ xs => .list (toPL xs)
  | .dic _ _ _ => .none
  | .scr xs => .list (toPL xs)
  | .fn _ => .none
  | .ty _ => .none
  | .ins _ _ _ _ => .none
def toPL : List D → List PyData
  | [] => []
  | x :: xs => toP x :: toPL xs
end
/-! nones, truths, numbers, texts, tuples and lists of these -/
mutual
def isDat : D → Bool
  | .tup xs => isDatL xs
  | .lst _ xs => isDatL xs
  | .dic _ _ _ => false
  | .ins _ _ _ _ => false
  | .scr xs => isDatL xs
  | .fn _ => false
  | .ty _ => false
  | .non => true
  | .bl _ => true
  | .int _ => true
  | .str _ => true
def isDatL : List D → Bool
  | [] => true
  | x :: xs => isDat x && isDatL xs
end
theorem frozL_map : ∀ xs : List D, frozL xs = xs.map froz
  | [] => rfl
  | x :: xs => by rw [frozL, frozL_map xs, List.map_cons]
theorem toPL_map : ∀ xs : List D, toPL xs = xs.map toP
  | [] => rfl
  | x :: xs => by rw [toPL, toPL_map xs, List.map_cons]
theorem isFzL_all : ∀ xs : List D, isFzL xs = xs.all isFz
  | [] => rfl
  | x :: xs => by rw [isFzL, isFzL_all xs, List.all_cons]
theorem isDatL_all : ∀ xs : List D, isDatL xs = xs.all isDat
  | [] => rfl
  | x :: xs => by rw [isDatL, isDatL_all xs, List.all_cons]

/-! ### keys -/
def keyK : D → Option Key
  | .int i => some (.inl i)
  | .str x => some (.inr x)
  | _ => none
def keysK : List D → Option (List Key)
  | [] => some []
  | d :: ds => match keyK d, keysK ds with | some k, some ks => some (k :: ks) | _, _ => none
mutual
def keyN : D → Option NestedKey
  | .non => some .none
  | .bl b => some (.num (if b = true then 1 else 0))
  | .int i => some (.num i)
  | .str x => some (.text x)
  | .tup xs => match keysN xs with | some ks => some (.tup ks) | none => none
  | .lst _ _ => none
  | .scr _ => none
  | .dic _ _ _ => none
  | .fn _ => none
  | .ty _ => none
  | .ins _ _ _ _ => none
def keysN : List D → Option (List NestedKey)
  | [] => some []
  | d :: ds => match keyN d, keysN ds with | some k, some ks => some (k :: ks) | _, _ => none
end
/-! ### the module: what its names are, the program, the world -/
structure Md where
  f : Str → Option Value
  P : Program
  w : World
instance : CoeFun Md (fun _ => Str → Option Value) := ⟨Md.f⟩
instance : Coe Md (Str → Option Value) := ⟨Md.f⟩
/-- the kind of key of a dict whose keys are tuples -/
abbrev Md.nk (mg : Md) := nestedKind mg.P mg.w
def dtAll (xs : List (NestedKey × Addr × V)) (ys : List (NestedKey × Addr × Value)) : Prop :=
  Paired (fun (x : NestedKey × Addr × V) (y : NestedKey × Addr × Value) => x.1 = y.1 ∧ x.2.1 = y.2.1 ∧ RelV x.2.2 y.2.2) xs ys
def dtRaw (mg : Md) (a : Addr) (xs : List (NestedKey × Addr × V)) (h : Heap) : Prop :=
  ∃ ys, dtAll xs ys ∧ ∃ o es ep, h.get? a = some o ∧ o.ExactDict ∧ o.data = .dict es ep ∧ es.toList = ys.map (entryOfKey mg.nk)
/-- a dict whose keys are tuples (nested), as a thing of the abstract heap -/
def DtO (mg : Md) (a : Addr) (xs : List (NestedKey × Addr × V)) : HO := .ext (dtRaw mg a xs)
def dtOk (a : Addr) (xs : List (NestedKey × Addr × V)) : Prop := xs.length ≤ sizeLine ∧ (a == sysModules) = false ∧ (xs.map (·.1)).Nodup ∧ (∀ x ∈ xs, x.1.depth ≤ 8) ∧ xs ≠ []

/-! ### what a heap bears -/
section
variable (K : PySem.W.Frag) (mg : Md)
mutual
inductive Rp (F H : Hp) : V → D → List Addr → Prop
  | non : Rp F H .non .non []
  | bl (b : Bool) : Rp F H (.bl b) (.bl b) []
  | int (i : Int) : Rp F H (.int i) (.int i) []
  | str (x : Str) : Rp F H (.str x) (.str x) []
  | tup {a : Addr} {vs : List V} {ds : List D} {O : List Addr} : SqT K F a vs → vs.length ≤ sizeLine → RpL F H vs ds O → Rp F H (.ref a) (.tup ds) O
  | scr {a : Addr} {vs : List V} {ds : List D} : SqL K F a vs → vs.length ≤ sizeLine → RpL F H vs ds [] → Rp F H (.ref a) (.scr ds) []
  | lstF {a : Addr} {vs : List V} {ds : List D} : F a = some (.lst vs) → vs.length ≤ sizeLine → RpL F H vs ds [] → Rp F H (.ref a) (.lst false ds) []
  | lstO {a : Addr} {vs : List V} {ds : List D} {O : List Addr} : H a = some (.lst vs) → F a = none → vs.length ≤ sizeLine → RpL F H vs ds O → Rp F H (.ref a) (.lst true ds) (a :: O)
  | fn {a : Addr} {x : Str} : mg x = some (.ref a) → Rp F H (.ref a) (.fn x) []
  | ty (n : String) : Rp F H (.ty n) (.ty n) []
  | dKF {a : Addr} {kvs : List (Key × V)} {ks ds : List D} : F a = some (.dK kvs) → keysK ks = some (kvs.map (·.1)) ∧ (kvs.map (·.1)).Nodup → RpL F H (kvs.map (·.2)) ds [] → Rp F H (.ref a) (.dic false ks ds) []
  | dKO {a : Addr} {kvs : List (Key × V)} {ks ds : List D} {O : List Addr} : H a = some (.dK kvs) → F a = none → keysK ks = some (kvs.map (·.1)) ∧ (kvs.map (·.1)).Nodup → RpL F H (kvs.map (·.2)) ds O → Rp F H (.ref a) (.dic true ks ds) (a :: O)
  | dTF {a : Addr} {xs : List (NestedKey × Addr × V)} {ks ds : List D} : F a = some (DtO mg a xs) → dtOk a xs → keysN ks = some (xs.map (·.1)) → RpL F H (xs.map fun x => .ref x.2.1) ks [] → RpL F H (xs.map (·.2.2)) ds [] → Rp F H (.ref a) (.dic false ks ds) []
  | dTO {a : Addr} {xs : List (NestedKey × Addr × V)} {ks ds : List D} {O : List Addr} : H a = some (DtO mg a xs) → F a = none → dtOk a xs → keysN ks = some (xs.map (·.1)) → RpL F H (xs.map fun x => .ref x.2.1) ks [] → RpL F H (xs.map (·.2.2)) ds O → Rp F H (.ref a) (.dic true ks ds) (a :: O)
  | insF {a C dx : Addr} {c : Str} {kvs : List (Str × V)} {vs : List D} : mg c = some (.ref C) → F a = some (.ins C dx kvs) → F dx = some (.own a) → RpL F H (kvs.map (·.2)) vs [] → Rp F H (.ref a) (.ins false c (kvs.map (·.1)) vs) []
  | insO {a C dx : Addr} {c : Str} {kvs : List (Str × V)} {vs : List D} {O : List Addr} : mg c = some (.ref C) → H a = some (.ins C dx kvs) → H dx = some (.own a) → F a = none → F dx = none → RpL F H (kvs.map (·.2)) vs O → Rp F H (.ref a) (.ins true c (kvs.map (·.1)) vs) (a :: dx :: O)
inductive RpL (F H : Hp) : List V → List D → List Addr → Prop
  | nil : RpL F H [] [] []
  | cons {v : V} {vs : List V} {d : D} {ds : List D} {O1 O2 : List Addr} : Rp F H v d O1 → RpL F H vs ds O2 → RpL F H (v :: vs) (d :: ds) (O1 ++ O2)
end
end

structure Own (F H : Hp) (O : List Addr) : Prop where
  le : ∀ a o, F a = some o → H a = some o
  nd : O.Nodup
  out : ∀ a ∈ O, F a = none
  alive : ∀ a ∈ O, H a ≠ none
structure Ext (F H : Hp) (O : List Addr) (F' H' : Hp) (O' : List Addr) : Prop where
  fle : ∀ a o, F a = some o → F' a = some o
  hle : ∀ a o, H a = some o → a ∉ O → H' a = some o
  dom : ∀ a, H a ≠ none → H' a ≠ none
  fdom : ∀ a, F' a ≠ none → F a ≠ none ∨ a ∈ O ∨ H a = none
  odom : ∀ a ∈ O', a ∈ O ∨ H a = none

section
variable {K : PySem.W.Frag} {mg : Md} {F H F' H' F2 H2 : Hp} {O O' O1 O2 A B : List Addr} {v : V} {d : D} {vs : List V} {ds : List D} {a : Addr}
theorem Ext.refl : Ext F H O F H O := ⟨fun _ _ e => e, fun _ _ e _ => e, fun _ e => e, fun _ e => .inl e, fun _ e => .inl e⟩
theorem Ext.trans (x : Ext F H O F' H' O') (y : Ext F' H' O' F2 H2 O2) : Ext F H O F2 H2 O2 where
  fle := fun b o e => y.fle b o (x.fle b o e)
  hle := fun b o e n => y.hle b o (x.hle b o e n) fun m => by
    rcases x.odom b m with q | q
    · exact n q
    · rw [e] at q; cases q
  dom := fun b e => y.dom b (x.dom b e)
  fdom := fun b e => by
    rcases y.fdom b e with q | q | q
    · exact x.fdom b q
    · exact .inr (x.odom b q)
    · exact .inr (.inr (Classical.byContradiction fun n => x.dom b n q))
  odom := fun b m => by
    rcases y.odom b m with q | q
    · exact x.odom b q
    · exact .inr (Classical.byContradiction fun n => x.dom b n q)
theorem Ext.sub (x : Ext F H O F' H' O') (h1 : ∀ b ∈ O, b ∈ A) (h2 : ∀ b ∈ B, b ∈ O' ∨ b ∈ A) : Ext F H A F' H' B where
  fle := x.fle
  hle := fun b o e n => x.hle b o e fun m => n (h1 b m)
  dom := x.dom
  fdom := fun b e => by
    rcases x.fdom b e with q | q | q
    · exact .inl q
    · exact .inr (.inl (h1 b q))
    · exact .inr (.inr q)
  odom := fun b m => by
    rcases h2 b m with q | q
    · rcases x.odom b q with r | r
      · exact .inl (h1 b r)
      · exact .inr r
    · exact .inl q
theorem Own.sub (w : Own F H A) (hd : B.Nodup) (hs : ∀ b ∈ B, b ∈ A) : Own F H B := ⟨w.le, hd, fun b m => w.out b (hs b m), fun b m => w.alive b (hs b m)⟩

/-! owned addresses are alive and not frozen -/
mutual
theorem Rp.alive : ∀ {d : D} {v : V} {O : List Addr}, Rp K mg F H v d O → ∀ a ∈ O, H a ≠ none ∧ F a = none
  | .non, _, _, .non, _, m => by cases m
  | .bl _, _, _, .bl _, _, m => by cases m
  | .int _, _, _, .int _, _, m => by cases m
  | .str _, _, _, .str _, _, m => by cases m
  | .fn _, _, _, .fn _, _, m => by cases m
  | .ty _, _, _, .ty _, _, m => by cases m
  | .tup ds, _, _, .tup _ _ h, a, m => RpL.alive h a m
  | .scr ds, _, _, .scr _ _ h, a, m => RpL.alive h a m
  | .lst _ ds, _, _, .lstF _ _ h, a, m => RpL.alive h a m
  | .lst _ ds, _, _, .lstO h1 h2 _ h, a, m => by
    rcases List.mem_cons.mp m with e | m
    · subst e; exact ⟨by rw [h1]; simp, h2⟩
    · exact RpL.alive h a m
  | .dic _ _ ds, _, _, .dKF _ _ h, a, m => by cases m
  | .dic _ _ ds, _, _, .dTF _ _ _ _ h, a, m => by cases m
  | .ins _ _ _ ds, _, _, .insF _ _ _ h, a, m => by cases m
  | .dic _ _ ds, _, _, .dKO h1 h2 _ h, a, m => by
    rcases List.mem_cons.mp m with e | m
    · subst e; exact ⟨by rw [h1]; simp, h2⟩
    · exact RpL.alive h a m
  | .dic _ _ ds, _, _, .dTO h1 h2 _ _ _ h, a, m => by
    rcases List.mem_cons.mp m with e | m
    · subst e; exact ⟨by rw [h1]; simp, h2⟩
    · exact RpL.alive h a m
  | .ins _ _ _ ds, _, _, .insO _ h1 h2 h3 h4 h, a, m => by
    rcases List.mem_cons.mp m with e | m
    · subst e; exact ⟨by rw [h1]; simp, h3⟩
    · rcases List.mem_cons.mp m with e | m
      · subst e; exact ⟨by rw [h2]; simp, h4⟩
      · exact RpL.alive h a m
theorem RpL.alive : ∀ {ds : List D} {vs : List V} {O : List Addr}, RpL K mg F H vs ds O → ∀ a ∈ O, H a ≠ none ∧ F a = none
  | [], _, _, .nil, _, m => by cases m
  | d :: ds, _, _, .cons h1 h2, a, m => by
    rcases List.mem_append.mp m with m | m
    · exact Rp.alive h1 a m
    · exact RpL.alive h2 a m
end
theorem Rd.up {a : Addr} {u : HO} (f : ∀ a o, F a = some o → F' a = some o) : Rd F a u → Rd F' a u
  | .inl e => .inl (f _ _ e)
  | .inr ⟨o, e⟩ => .inr ⟨o, f _ _ e⟩
theorem SqL.up {a : Addr} {xs : List V} (f : ∀ a o, F a = some o → F' a = some o) : SqL K F a xs → SqL K F' a xs
  | .inl e => .inl (Rd.up f e)
  | .inr e => .inr e
theorem SqT.up {a : Addr} {xs : List V} (f : ∀ a o, F a = some o → F' a = some o) : SqT K F a xs → SqT K F' a xs
  | .inl e => .inl (Rd.up f e)
  | .inr e => .inr e
theorem Ext.unf (x : Ext F H O F' H' O') {o : HO} (e1 : H a = some o) (e2 : F a = none) (n : a ∉ O) : F' a = none := Classical.byContradiction fun q => by
  rcases x.fdom a q with r | r | r
  · exact r e2
  · exact n r
  · rw [e1] at r; cases r
/-! what is owned elsewhere is left as it is -/
mutual
theorem Rp.ext (x : Ext F H O F' H' O') : ∀ {d : D} {v : V} {A : List Addr}, Rp K mg F H v d A → (∀ a ∈ A, a ∉ O) → Rp K mg F' H' v d A
  | .non, _, _, .non, _ => .non
  | .bl _, _, _, .bl b, _ => .bl b
  | .int _, _, _, .int b, _ => .int b
  | .str _, _, _, .str b, _ => .str b
  | .fn _, _, _, .fn e, _ => .fn e
  | .ty _, _, _, .ty e, _ => .ty e
  | .tup ds, _, _, .tup e z h, n => .tup (SqT.up x.fle e) z (RpL.ext x h n)
  | .scr ds, _, _, .scr e z h, n => .scr (SqL.up x.fle e) z (RpL.ext x h n)
  | .lst _ ds, _, _, .lstF e z h, n => .lstF (x.fle _ _ e) z (RpL.ext x h n)
  | .lst _ ds, _, _, .lstO (a := a) e1 e2 z h, n => by
    refine .lstO (x.hle _ _ e1 (n a List.mem_cons_self)) ?_ z (RpL.ext x h fun b m => n b (List.mem_cons_of_mem _ m))
    refine Classical.byContradiction fun q => ?_
    rcases x.fdom a q with r | r | r
    · exact r e2
    · exact n a List.mem_cons_self r
    · rw [e1] at r; cases r
  | .dic _ ks ds, _, _, .dKF e z h, n => .dKF (x.fle _ _ e) z (RpL.ext x h n)
  | .dic _ ks ds, _, _, .dTF e z w hk h, n => .dTF (x.fle _ _ e) z w (RpL.ext x hk fun _ m => by cases m) (RpL.ext x h n)
  | .ins _ _ _ ds, _, _, .insF e0 e e2 h, n => .insF e0 (x.fle _ _ e) (x.fle _ _ e2) (RpL.ext x h n)
  | .dic _ ks ds, _, _, .dKO (a := a) e1 e2 z h, n => .dKO (x.hle _ _ e1 (n a List.mem_cons_self)) (x.unf e1 e2 (n a List.mem_cons_self)) z (RpL.ext x h fun b m => n b (List.mem_cons_of_mem _ m))
  | .dic _ ks ds, _, _, .dTO (a := a) e1 e2 z w hk h, n => .dTO (x.hle _ _ e1 (n a List.mem_cons_self)) (x.unf e1 e2 (n a List.mem_cons_self)) z w (RpL.ext x hk fun _ m => by cases m) (RpL.ext x h fun b m => n b (List.mem_cons_of_mem _ m))
  | .ins _ _ _ ds, _, _, .insO (a := a) (dx := dx) e0 e1 e3 e2 e4 h, n =>
    have n1 := n a List.mem_cons_self
    have n2 := n dx (List.mem_cons_of_mem _ List.mem_cons_self)
    .insO e0 (x.hle _ _ e1 n1) (x.hle _ _ e3 n2) (x.unf e1 e2 n1) (x.unf e3 e4 n2) (RpL.ext x h fun b m => n b (List.mem_cons_of_mem _ (List.mem_cons_of_mem _ m)))
theorem RpL.ext (x : Ext F H O F' H' O') : ∀ {ds : List D} {vs : List V} {A : List Addr}, RpL K mg F H vs ds A → (∀ a ∈ A, a ∉ O) → RpL K mg F' H' vs ds A
  | [], _, _, .nil, _ => .nil
  | d :: ds, _, _, .cons h1 h2, n => .cons (Rp.ext x h1 fun b m => n b (List.mem_append_left _ m)) (RpL.ext x h2 fun b m => n b (List.mem_append_right _ m))
end
/-- what is held while others change: it stays held, and apart -/
theorem Own.frame (w : Own F H (A ++ O)) (x : Ext F H O F' H' O') (w' : Own F' H' O') : Own F' H' (A ++ O') := by
  have nd := List.nodup_append.mp w.nd
  refine ⟨w'.le, List.nodup_append.mpr ⟨nd.1, w'.nd, fun b hb c hc e => ?_⟩, fun b m => ?_, fun b m => ?_⟩
  · subst e
    rcases x.odom b hc with q | q
    · exact nd.2.2 b hb b q rfl
    · exact w.alive b (List.mem_append_left _ hb) q
  · rcases List.mem_append.mp m with m | m
    · refine Classical.byContradiction fun q => ?_
      rcases x.fdom b q with r | r | r
      · exact r (w.out b (List.mem_append_left _ m))
      · exact nd.2.2 b m b r rfl
      · exact w.alive b (List.mem_append_left _ m) r
    · exact w'.out b m
  · rcases List.mem_append.mp m with m | m
    · exact x.dom b (w.alive b (List.mem_append_left _ m))
    · exact w'.alive b m
theorem Own.apart (w : Own F H (A ++ O)) : ∀ a ∈ A, a ∉ O := fun a m n => (List.nodup_append.mp w.nd).2.2 a m a n rfl
theorem Own.right (w : Own F H (A ++ O)) : Own F H O := w.sub (List.nodup_append.mp w.nd).2.1 fun _ m => List.mem_append_right _ m
theorem Own.left (w : Own F H (A ++ O)) : Own F H A := w.sub (List.nodup_append.mp w.nd).1 fun _ m => List.mem_append_left _ m
theorem Own.swap (w : Own F H (A ++ O)) : Own F H (O ++ A) := by
  have nd := List.nodup_append.mp w.nd
  refine w.sub (List.nodup_append.mpr ⟨nd.2.1, nd.1, fun a x b y e => nd.2.2 b y a x e.symm⟩) fun b m => ?_
  rcases List.mem_append.mp m with m | m
  · exact List.mem_append_right _ m
  · exact List.mem_append_left _ m
theorem Ext.frame (w : Own F H (A ++ O)) (x : Ext F H O F' H' O') : Ext F H (A ++ O) F' H' (A ++ O') :=
  x.sub (fun b m => List.mem_append_right _ m) fun b m => by
    rcases List.mem_append.mp m with m | m
    · exact .inr (List.mem_append_left _ m)
    · exact .inl m

/-! as data of the library -/
mutual
theorem Rp.dp (f : ∀ a o, F a = some o → H a = some o) : ∀ {d : D} {v : V} {A : List Addr}, isDat d = true → Rp K mg F H v d A → Dp K H v (toP d)
  | .non, _, _, _, .non => .non
  | .bl _, _, _, _, .bl b => .bl b
  | .int _, _, _, _, .int b => .int b
  | .str _, _, _, _, .str b => .str b
  | .tup ds, _, _, p, .tup e z h => .tup (SqT.up f e) (RpL.dp f (by simpa only [isDat] using p) h)
  | .scr ds, _, _, p, .scr e z h => .lst (SqL.up f e) (RpL.dp f (by simpa only [isDat] using p) h)
  | .lst _ ds, _, _, p, .lstF e z h => .lst (SqL.of (f _ _ e)) (RpL.dp f (by simpa only [isDat] using p) h)
  | .lst _ ds, _, _, p, .lstO e1 e2 z h => .lst (SqL.of e1) (RpL.dp f (by simpa only [isDat] using p) h)
theorem RpL.dp (f : ∀ a o, F a = some o → H a = some o) : ∀ {ds : List D} {vs : List V} {A : List Addr}, isDatL ds = true → RpL K mg F H vs ds A → DpAll K H vs (toPL ds)
  | [], _, _, _, .nil => .nil
  | d :: ds, _, _, p, .cons h1 h2 => by
    simp only [isDatL, Bool.and_eq_true] at p
    exact .cons (Rp.dp f p.1 h1) (RpL.dp f p.2 h2)
end
end
end Dm

namespace Dm
open PySem PySem.Spec PyProof.Rows L2
abbrev Ev := List (Option D)

section
variable {K : PySem.W.Frag} {mg : Md} {F H F' H' F2 H2 : Hp} {O O' O1 O2 A B : List Addr} {v : V} {d : D} {vs : List V} {ds : List D} {a : Addr}
theorem Own.perm (w : Own F H A) (p : A.Perm B) : Own F H B := w.sub (p.nodup_iff.mp w.nd) fun b m => p.mem_iff.mpr m
theorem Ext.perm (x : Ext F H O F' H' O') (p : O.Perm A) (q : O'.Perm B) : Ext F H A F' H' B :=
  x.sub (fun b m => p.mem_iff.mp m) fun b m => .inl (q.mem_iff.mpr m)

/-- quiet: nothing that stood is changed -/
structure Qx (F H F' H' : Hp) : Prop where
  ext : Ext F H [] F' H' []
  le : ∀ a o, F' a = some o → H' a = some o
theorem Qx.refl (f : ∀ a o, F a = some o → H a = some o) : Qx F H F H := ⟨Ext.refl, f⟩
theorem Qx.trans (x : Qx F H F' H') (y : Qx F' H' F2 H2) : Qx F H F2 H2 := ⟨x.ext.trans y.ext, y.le⟩
theorem Own.nil (f : ∀ a o, F a = some o → H a = some o) : Own F H [] := ⟨f, List.nodup_nil, fun _ m => (by cases m), fun _ m => (by cases m)⟩
theorem Qx.own (x : Qx F H F' H') (w : Own F H O) : Own F' H' O := by
  have w1 : Own F H (O ++ []) := by rw [List.append_nil]; exact w
  have q := w1.frame x.ext (Own.nil x.le)
  rw [List.append_nil] at q
  exact q
theorem Qx.extO (x : Qx F H F' H') : Ext F H O F' H' O := x.ext.sub (fun _ m => (by cases m)) fun b m => .inr m
theorem Qx.hle (x : Qx F H F' H') : ∀ a o, H a = some o → H' a = some o := fun a o e => x.ext.hle a o e (fun m => by cases m)
theorem Qx.rp (x : Qx F H F' H') (r : Rp K mg F H v d A) : Rp K mg F' H' v d A := r.ext x.ext fun _ _ m => by cases m
theorem Qx.rpl (x : Qx F H F' H') (r : RpL K mg F H vs ds A) : RpL K mg F' H' vs ds A := r.ext x.ext fun _ _ m => by cases m

/-! frozen data own nothing -/
mutual
theorem Rp.fz : ∀ {d : D} {v : V} {A : List Addr}, isFz d = true → Rp K mg F H v d A → A = []
  | .non, _, _, _, .non => rfl
  | .bl _, _, _, _, .bl _ => rfl
  | .int _, _, _, _, .int _ => rfl
  | .str _, _, _, _, .str _ => rfl
  | .fn _, _, _, _, .fn _ => rfl
  | .ty _, _, _, _, .ty _ => rfl
  | .tup ds, _, _, p, .tup _ _ h => RpL.fz (by simpa only [isFz] using p) h
  | .scr ds, _, _, p, .scr _ _ h => rfl
  | .lst false ds, _, _, p, .lstF _ _ h => rfl
  | .lst true ds, _, _, p, .lstO _ _ _ h => by simp [isFz] at p
  | .dic false _ ds, _, _, p, .dKF _ _ _ => rfl
  | .dic false _ ds, _, _, p, .dTF _ _ _ _ _ => rfl
  | .dic true _ ds, _, _, p, .dKO _ _ _ _ => by simp [isFz] at p
  | .dic true _ ds, _, _, p, .dTO _ _ _ _ _ _ => by simp [isFz] at p
  | .ins false _ _ ds, _, _, p, .insF _ _ _ _ => rfl
  | .ins true _ _ ds, _, _, p, .insO _ _ _ _ _ _ => by simp [isFz] at p
theorem RpL.fz : ∀ {ds : List D} {vs : List V} {A : List Addr}, isFzL ds = true → RpL K mg F H vs ds A → A = []
  | [], _, _, _, .nil => rfl
  | d :: ds, _, _, p, .cons h1 h2 => by
    simp only [isFzL, Bool.and_eq_true] at p
    rw [Rp.fz p.1 h1, RpL.fz p.2 h2] <;> rfl
end
/-! frozen data over more frozen things -/
mutual
theorem Rp.up (f : ∀ a o, F a = some o → F' a = some o) : ∀ {d : D} {v : V}, Rp K mg F H v d [] → Rp K mg F' H' v d []
  | .non, _, .non => .non
  | .bl _, _, .bl b => .bl b
  | .int _, _, .int b => .int b
  | .str _, _, .str b => .str b
  | .fn _, _, .fn e => .fn e
  | .ty _, _, .ty e => .ty e
  | .tup ds, _, .tup e z h => .tup (SqT.up f e) z (RpL.up f h)
  | .scr ds, _, .scr e z h => .scr (SqL.up f e) z (RpL.up f h)
  | .lst false ds, _, .lstF e z h => .lstF (f _ _ e) z (RpL.up f h)
  | .dic false _ ds, _, .dKF e z h => .dKF (f _ _ e) z (RpL.up f h)
  | .dic false _ ds, _, .dTF e z w hk h => .dTF (f _ _ e) z w (RpL.up f hk) (RpL.up f h)
  | .ins false _ _ ds, _, .insF e0 e e2 h => .insF e0 (f _ _ e) (f _ _ e2) (RpL.up f h)
theorem RpL.up (f : ∀ a o, F a = some o → F' a = some o) : ∀ {ds : List D} {vs : List V}, RpL K mg F H vs ds [] → RpL K mg F' H' vs ds []
  | [], _, .nil => .nil
  | d :: ds, _, h => by
    generalize e : ([] : List Addr) = A at h
    cases h with
    | @cons v vs _ _ O1 O2 h1 h2 =>
      have e' := List.append_eq_nil_iff.mp e.symm
      obtain ⟨e1, e2⟩ := e'
      subst e1 e2
      exact .cons (Rp.up f h1) (RpL.up f h2)
end
/-! freezing -/
mutual
theorem Rp.froz (f : ∀ a o, F a = some o → F' a = some o) (g : ∀ a ∈ B, F' a = H a) : ∀ {d : D} {v : V} {A : List Addr}, Rp K mg F H v d A → (∀ a ∈ A, a ∈ B) → Rp K mg F' H v (Dm.froz d) []
  | .non, _, _, .non, _ => .non
  | .bl _, _, _, .bl b, _ => .bl b
  | .int _, _, _, .int b, _ => .int b
  | .str _, _, _, .str b, _ => .str b
  | .fn _, _, _, .fn e, _ => .fn e
  | .ty _, _, _, .ty e, _ => .ty e
  | .tup ds, _, _, .tup e z h, s => .tup (SqT.up f e) z (RpL.froz f g h s)
  | .scr ds, _, _, .scr e z h, s => by
    exact .scr (SqL.up f e) z (RpL.up (H' := H) f h)
  | .lst _ ds, _, _, .lstF e z h, s => .lstF (f _ _ e) z (RpL.froz f g h (fun _ m => by cases m))
  | .lst _ ds, _, _, .lstO (a := a) e1 e2 z h, s => .lstF ((g a (s a List.mem_cons_self)).trans e1) z (RpL.froz f g h (fun b m => s b (List.mem_cons_of_mem _ m)))
  | .dic _ _ ds, _, _, .dKF e z h, s => .dKF (f _ _ e) z (RpL.froz f g h (fun _ m => by cases m))
  | .dic _ _ ds, _, _, .dTF e z w hk h, s => .dTF (f _ _ e) z w (RpL.up (H' := H) f hk) (RpL.froz f g h (fun _ m => by cases m))
  | .ins _ _ _ ds, _, _, .insF e0 e e2 h, s => .insF e0 (f _ _ e) (f _ _ e2) (RpL.froz f g h (fun _ m => by cases m))
  | .dic _ _ ds, _, _, .dKO (a := a) e1 e2 z h, s => .dKF ((g a (s a List.mem_cons_self)).trans e1) z (RpL.froz f g h (fun b m => s b (List.mem_cons_of_mem _ m)))
  | .dic _ _ ds, _, _, .dTO (a := a) e1 e2 z w hk h, s => .dTF ((g a (s a List.mem_cons_self)).trans e1) z w (RpL.up (H' := H) f hk) (RpL.froz f g h (fun b m => s b (List.mem_cons_of_mem _ m)))
  | .ins _ _ _ ds, _, _, .insO (a := a) (dx := dx) e0 e1 e3 e2 e4 h, s => .insF e0 ((g a (s a List.mem_cons_self)).trans e1) ((g dx (s dx (List.mem_cons_of_mem _ List.mem_cons_self))).trans e3) (RpL.froz f g h (fun b m => s b (List.mem_cons_of_mem _ (List.mem_cons_of_mem _ m))))
theorem RpL.froz (f : ∀ a o, F a = some o → F' a = some o) (g : ∀ a ∈ B, F' a = H a) : ∀ {ds : List D} {vs : List V} {A : List Addr}, RpL K mg F H vs ds A → (∀ a ∈ A, a ∈ B) → RpL K mg F' H vs (frozL ds) []
  | [], _, _, .nil, _ => .nil
  | d :: ds, _, _, .cons h1 h2, s => .cons (Rp.froz f g h1 (fun b m => s b (List.mem_append_left _ m))) (RpL.froz f g h2 (fun b m => s b (List.mem_append_right _ m)))
end
def frz (F H : Hp) (A : List Addr) : Hp := fun b => if b ∈ A then H b else F b
theorem frz_ext (w : Own F H A) : Ext F H A (frz F H A) H [] where
  fle := fun b o e => by
    unfold frz
    split
    · rename_i m
      rw [w.out b m] at e; cases e
    · exact e
  hle := fun _ _ e _ => e
  dom := fun _ e => e
  fdom := fun b e => by
    unfold frz at e
    split at e
    · rename_i m; exact .inr (.inl m)
    · exact .inl e
  odom := fun _ m => by cases m
theorem frz_le (w : Own F H A) : ∀ a o, frz F H A a = some o → H a = some o := fun b o e => by
  unfold frz at e
  split at e
  · exact e
  · exact w.le b o e
theorem Rp.freeze (w : Own F H A) (r : Rp K mg F H v d A) : Rp K mg (frz F H A) H v (Dm.froz d) [] :=
  Rp.froz (B := A) (frz_ext w).fle (fun b m => if_pos m) r fun _ m => m
theorem RpL.freeze (w : Own F H A) (r : RpL K mg F H vs ds A) : RpL K mg (frz F H A) H vs (frozL ds) [] :=
  RpL.froz (B := A) (frz_ext w).fle (fun b m => if_pos m) r fun _ m => m
end

/-! ### slots -/
section
variable (K : PySem.W.Frag) (mg : Md)
inductive RpO (F H : Hp) : Option V → Option D → List Addr → Prop
  | none {x : Option V} : RpO F H x Option.none []
  | some {v : V} {d : D} {O : List Addr} : Rp K mg F H v d O → RpO F H (Option.some v) (Option.some d) O
inductive RpS (F H : Hp) : List (Option V) → Ev → List Addr → Prop
  | nil : RpS F H [] [] []
  | cons {x : Option V} {y : Option D} {σ : List (Option V)} {E : Ev} {O1 O2 : List Addr} : RpO K mg F H x y O1 → RpS F H σ E O2 → RpS F H (x :: σ) (y :: E) (O1 ++ O2)
end
section
variable {K : PySem.W.Frag} {mg : Md} {F H F' H' F2 H2 : Hp} {O O' O1 O2 A B : List Addr} {v : V} {d : D} {vs : List V} {ds : List D} {a : Addr} {σ : List (Option V)} {E : Ev} {i : Nat}
theorem RpO.ext (x : Ext F H O F' H' O') {u : Option V} {y : Option D} : RpO K mg F H u y A → (∀ a ∈ A, a ∉ O) → RpO K mg F' H' u y A
  | .none, _ => .none
  | .some r, n => .some (r.ext x n)
theorem RpS.ext (x : Ext F H O F' H' O') : ∀ {E : Ev} {σ : List (Option V)} {A : List Addr}, RpS K mg F H σ E A → (∀ a ∈ A, a ∉ O) → RpS K mg F' H' σ E A
  | _, _, _, .nil, _ => .nil
  | _, _, _, .cons h1 h2, n => .cons (h1.ext x fun b m => n b (List.mem_append_left _ m)) (RpS.ext x h2 fun b m => n b (List.mem_append_right _ m))
theorem Qx.rps (x : Qx F H F' H') (r : RpS K mg F H σ E A) : RpS K mg F' H' σ E A := r.ext x.ext fun _ _ m => by cases m
theorem RpS.length : ∀ {E : Ev} {σ : List (Option V)} {A : List Addr}, RpS K mg F H σ E A → σ.length = E.length
  | _, _, _, .nil => rfl
  | _, _, _, .cons _ h2 => by rw [List.length_cons, List.length_cons, RpS.length h2]
/-- a slot by itself: the others stay while it changes -/
theorem RpS.focus : ∀ {E : Ev} {σ : List (Option V)} {O : List Addr} {i : Nat} {d : D}, RpS K mg F H σ E O → E[i]? = some (some d) →
    ∃ v O1 A O2, O = O1 ++ (A ++ O2) ∧ σ[i]? = some (some v) ∧ Rp K mg F H v d A ∧
      ∀ (F' H' : Hp) (v' : V) (d' : D) (A' : List Addr), (∀ {x y B}, RpO K mg F H x y B → (∀ b ∈ B, b ∈ O1 ++ O2) → RpO K mg F' H' x y B) → Rp K mg F' H' v' d' A' →
        RpS K mg F' H' (σ.set i (some v')) (E.set i (some d')) (O1 ++ (A' ++ O2))
  | _, _, _, i, d, .nil, e => by simp at e
  | _, _, _, 0, d, .cons (O1 := P1) (O2 := P2) h1 h2, e => by
    simp at e
    subst e
    cases h1 with
    | @some v _ _ r =>
      refine ⟨v, [], P1, P2, rfl, rfl, r, fun F' H' v' d' A' st r' => ?_⟩
      have rest : ∀ {E : Ev} {σ : List (Option V)} {A : List Addr}, RpS K mg F H σ E A → (∀ b ∈ A, b ∈ P2) → RpS K mg F' H' σ E A := by
        intro E σ A h
        induction h with
        | nil => intro _; exact .nil
        | cons k1 k2 ih => intro m; exact .cons (st k1 fun b q => m b (List.mem_append_left _ q)) (ih fun b q => m b (List.mem_append_right _ q))
      show RpS K mg F' H' _ _ (A' ++ P2)
      exact .cons (.some r') (rest h2 fun _ m => m)
  | _, _, _, i + 1, d, .cons (O1 := P1) (O2 := P2) h1 h2, e => by
    obtain ⟨v, Q1, A, Q2, eq, es, r, go⟩ := RpS.focus (i := i) h2 (by simpa using e)
    subst eq
    refine ⟨v, P1 ++ Q1, A, Q2, by rw [List.append_assoc], by simpa using es, r, fun F' H' v' d' A' st r' => ?_⟩
    rw [List.append_assoc]
    refine .cons (st h1 fun b m => List.mem_append_left _ (List.mem_append_left _ m)) (go F' H' v' d' A' (fun k m => st k fun b q => ?_) r')
    rw [List.append_assoc]
    exact List.mem_append_right _ (m b q)
theorem set_same {α : Type} : ∀ {l : List α} {i : Nat} {x : α}, l[i]? = some x → l.set i x = l
  | [], _, _, e => by simp at e
  | _ :: _, 0, _, e => by simp at e; subst e; rfl
  | y :: l, i + 1, x, e => by
    rw [List.set_cons_succ, set_same (i := i) (by simpa using e)]
theorem RpS.change (w : Own F H O) (h : RpS K mg F H σ E O) (e : E[i]? = some (some d)) : ∃ v A, σ[i]? = some (some v) ∧ Rp K mg F H v d A ∧ Own F H A ∧ (∀ a ∈ A, a ∈ O) ∧
    ∀ (F' H' : Hp) (d' : D) (A' : List Addr), Ext F H A F' H' A' → Own F' H' A' → Rp K mg F' H' v d' A' →
      ∃ O', RpS K mg F' H' σ (E.set i (some d')) O' ∧ Own F' H' O' ∧ Ext F H O F' H' O' := by
  obtain ⟨v, O1, A, O2, eq, es, r, go⟩ := h.focus e
  subst eq
  have p : (O1 ++ (A ++ O2)).Perm ((O1 ++ O2) ++ A) := by
    refine (List.Perm.append_left O1 List.perm_append_comm).trans ?_
    rw [List.append_assoc]
  have w1 := w.perm p
  refine ⟨v, A, es, r, w1.right, fun b m => List.mem_append_right _ (List.mem_append_left _ m), fun F' H' d' A' x w' r' => ?_⟩
  have q := go F' H' v d' A' (fun k m => k.ext x fun b hb => w1.apart b (m b hb)) r'
  rw [set_same es] at q
  have p' : ((O1 ++ O2) ++ A').Perm (O1 ++ (A' ++ O2)) := by
    rw [List.append_assoc]
    exact List.Perm.append_left O1 List.perm_append_comm
  exact ⟨_, q, (w1.frame x w').perm p', (x.frame w1).perm p.symm p'⟩
theorem RpS.get (w : Own F H O) (h : RpS K mg F H σ E O) (e : E[i]? = some (some d)) : ∃ v A, σ[i]? = some (some v) ∧ Rp K mg F H v d A :=
  let ⟨v, A, e1, r, _⟩ := h.change w e
  ⟨v, A, e1, r⟩
theorem RpS.put : ∀ {E : Ev} {σ : List (Option V)} {O : List Addr} {i : Nat} {y : Option D} {x : Option V}, RpS K mg F H σ E O → RpO K mg F H x y B →
    ∃ O1 A O2, O = O1 ++ (A ++ O2) ∧ ((RpS K mg F H (σ.set i x) (E.set i y) (O1 ++ (B ++ O2)) ∧ i < E.length) ∨ (A = [] ∧ RpS K mg F H (σ.set i x) (E.set i y) (O1 ++ O2)))
  | _, _, _, i, y, x, .nil, r => ⟨[], [], [], rfl, .inr ⟨rfl, .nil⟩⟩
  | _, _, _, 0, y, x, .cons (O1 := P1) (O2 := P2) h1 h2, r => ⟨[], P1, P2, rfl, .inl ⟨(show RpS K mg F H _ _ (B ++ P2) from .cons r h2), Nat.succ_pos _⟩⟩
  | _, _, _, i + 1, y, x, .cons (O1 := P1) (O2 := P2) h1 h2, r => by
    obtain ⟨Q1, A, Q2, eq, go⟩ := RpS.put (i := i) h2 r
    subst eq
    refine ⟨P1 ++ Q1, A, Q2, by rw [List.append_assoc], ?_⟩
    rw [List.append_assoc, List.append_assoc]
    rcases go with ⟨g, l⟩ | ⟨z, g⟩
    · exact .inl ⟨.cons h1 g, Nat.succ_lt_succ l⟩
    · exact .inr ⟨z, .cons h1 g⟩
theorem RpS.assign (w : Own F H (B ++ O)) (h : RpS K mg F H σ E O) (r : Rp K mg F H v d B) : ∃ O', RpS K mg F H (σ.set i (some v)) (E.set i (some d)) O' ∧ Own F H O' ∧ ∀ a ∈ O', a ∈ B ++ O := by
  obtain ⟨O1, A, O2, eq, go⟩ := h.put (i := i) (RpO.some r)
  subst eq
  have nd := List.nodup_append.mp w.nd
  have nd2 := List.nodup_append.mp nd.2.1
  have nd3 := List.nodup_append.mp nd2.2.1
  have wl := w.left
  rcases go with ⟨g, _⟩ | ⟨_, g⟩
  · refine ⟨_, g, w.sub ?_ ?_, ?_⟩
    · refine List.nodup_append.mpr ⟨nd2.1, List.nodup_append.mpr ⟨nd.1, nd3.2.1, fun a x b y e => nd.2.2 a x b (List.mem_append_right _ (List.mem_append_right _ y)) e⟩, fun a x b y e => ?_⟩
      rcases List.mem_append.mp y with y | y
      · exact nd.2.2 b y a (List.mem_append_left _ x) e.symm
      · exact nd2.2.2 a x b (List.mem_append_right _ y) e
    all_goals
      intro b m
      rcases List.mem_append.mp m with m | m
      · exact List.mem_append_right _ (List.mem_append_left _ m)
      · rcases List.mem_append.mp m with m | m
        · exact List.mem_append_left _ m
        · exact List.mem_append_right _ (List.mem_append_right _ (List.mem_append_right _ m))
  · refine ⟨_, g, w.sub ?_ ?_, ?_⟩
    · exact List.nodup_append.mpr ⟨nd2.1, nd3.2.1, fun a x b y e => nd2.2.2 a x b (List.mem_append_right _ y) e⟩
    all_goals
      intro b m
      rcases List.mem_append.mp m with m | m
      · exact List.mem_append_right _ (List.mem_append_left _ m)
      · exact List.mem_append_right _ (List.mem_append_right _ (List.mem_append_right _ m))
end
end Dm

namespace Dm
open PySem PySem.Spec L2
open PyProof.Rows hiding St
/-! judgements: what an expression's reading computes of the slots. q: quietly (nothing that stood changes, the value may share with slots); e: owned or frozen value, slots may change -/
section
variable (K : PySem.W.Frag) (mg : Md)
def Qt (t : TE) (f : Ev → Option D) : Prop := ∀ (F H : Hp) (O : List Addr) (σ : L2.St) (E : Ev) (d : D), f E = some d → Own F H O → RpS K mg F H σ E O →
  ∀ Q : VK, (∀ v F' H' A, Qx F H F' H' → Rp K mg F' H' v d A → Q v H') → t σ H Q
def De (t : TE) (f : Ev → Option (D × Ev)) : Prop := ∀ (F H : Hp) (O : List Addr) (σ : L2.St) (E : Ev) (d : D) (E' : Ev), f E = some (d, E') → Own F H O → RpS K mg F H σ E O →
  ∀ Q : VK, (∀ v F' H' A O', Ext F H O F' H' (A ++ O') → Own F' H' (A ++ O') → Rp K mg F' H' v d A → RpS K mg F' H' σ E' O' → Q v H') → t σ H Q
def Qa (t : TA) (f : Ev → Option (List D)) : Prop := ∀ (F H : Hp) (O : List Addr) (σ : L2.St) (E : Ev) (ds : List D), f E = some ds → Own F H O → RpS K mg F H σ E O →
  ∀ Q : List V → Hp → Prop, (∀ vs F' H' A, Qx F H F' H' → RpL K mg F' H' vs ds A → Q vs H') → t σ H Q
def Da (t : TA) (f : Ev → Option (List D × Ev)) : Prop := ∀ (F H : Hp) (O : List Addr) (σ : L2.St) (E : Ev) (ds : List D) (E' : Ev), f E = some (ds, E') → Own F H O → RpS K mg F H σ E O →
  ∀ Q : List V → Hp → Prop, (∀ vs F' H' A O', Ext F H O F' H' (A ++ O') → Own F' H' (A ++ O') → RpL K mg F' H' vs ds A → RpS K mg F' H' σ E' O' → Q vs H') → t σ H Q
def Tq (t : TT) (f : Ev → Option Bool) : Prop := ∀ (F H : Hp) (O : List Addr) (σ : L2.St) (E : Ev) (b : Bool), f E = some b → Own F H O → RpS K mg F H σ E O →
  ∀ Q : Bool → Hp → Prop, (∀ F' H', Qx F H F' H' → Q b H') → t σ H Q
def Td (t : TT) (f : Ev → Option (Bool × Ev)) : Prop := ∀ (F H : Hp) (O : List Addr) (σ : L2.St) (E : Ev) (b : Bool) (E' : Ev), f E = some (b, E') → Own F H O → RpS K mg F H σ E O →
  ∀ Q : Bool → Hp → Prop, (∀ F' H' O', Ext F H O F' H' O' → Own F' H' O' → RpS K mg F' H' σ E' O' → Q b H') → t σ H Q
/-- what an operation makes of values: something new, or frozen -/
def R2ok (r : R2) (op : D → D → Option D) : Prop := ∀ (F H : Hp) (x y : V) (dx dy d : D) (A B : List Addr), op dx dy = some d → (∀ a o, F a = some o → H a = some o) → Rp K mg F H x dx A → Rp K mg F H y dy B →
  ∀ Q : VK, (∀ v F' H' C, Qx F H F' H' → C.Nodup → (∀ c ∈ C, H c = none) → Rp K mg F' H' v d C → Q v H') → r x y H Q
def R1ok (r : V → Hp → VK → Prop) (op : D → Option D) : Prop := ∀ (F H : Hp) (x : V) (dx d : D) (A : List Addr), op dx = some d → (∀ a o, F a = some o → H a = some o) → Rp K mg F H x dx A →
  ∀ Q : VK, (∀ v F' H' C, Qx F H F' H' → C.Nodup → (∀ c ∈ C, H c = none) → Rp K mg F' H' v d C → Q v H') → r x H Q
def RLok (r : List V → Hp → VK → Prop) (op : List D → Option D) : Prop := ∀ (F H : Hp) (vs : List V) (ds : List D) (d : D) (A : List Addr), op ds = some d → (∀ a o, F a = some o → H a = some o) → RpL K mg F H vs ds A →
  ∀ Q : VK, (∀ v F' H' C, Qx F H F' H' → C.Nodup → (∀ c ∈ C, H c = none) → Rp K mg F' H' v d C → Q v H') → r vs H Q
end
/-- a family of contexts: what does not hang on where the code stands -/
structure Fm where
  prog : Program
  w : World
  K : PySem.W.Frag
  mgf : Str → Option Value
  base : Heap
  N : List Str
  sc : Scope
  fn : Str → Bool
  k : Nat
abbrev Fm.mg (Y : Fm) : Md := ⟨Y.mgf, Y.prog, Y.w⟩
structure Fm.Is (Y : Fm) (X : Cx) : Prop where
  prog : X.prog = Y.prog
  w : X.w = Y.w
  K : X.K = Y.K
  mg : X.mg = Y.mgf
  base : X.base = Y.base
  N : X.N = Y.N
  sc : X.env.scope = Y.sc
  fn : X.fn = Y.fn
  calm : X.calm = true
  room : Room Y.k X.A
  guards : X.A.guards = some []
  xe : X.xe = fun _ _ => False
def PQ (Y : Fm) (e : Expr) (f : Ev → Option D) : Prop := ∃ t, (∀ X, Y.Is X → PE X e t) ∧ Qt Y.K Y.mg t f
def PD (Y : Fm) (e : Expr) (f : Ev → Option (D × Ev)) : Prop := ∃ t, (∀ X, Y.Is X → PE X e t) ∧ De Y.K Y.mg t f
def PQa (Y : Fm) (es : List Expr) (f : Ev → Option (List D)) : Prop := ∃ t, (∀ X, Y.Is X → PA X es t) ∧ Qa Y.K Y.mg t f
def PDa (Y : Fm) (es : List Expr) (f : Ev → Option (List D × Ev)) : Prop := ∃ t, (∀ X, Y.Is X → PA X es t) ∧ Da Y.K Y.mg t f
def TQ (Y : Fm) (e : Expr) (f : Ev → Option Bool) : Prop := ∃ t, (∀ X, Y.Is X → PT X e t) ∧ Tq Y.K Y.mg t f
def TD (Y : Fm) (e : Expr) (f : Ev → Option (Bool × Ev)) : Prop := ∃ t, (∀ X, Y.Is X → PT X e t) ∧ Td Y.K Y.mg t f
def WQ (Y : Fm) (e : Expr) (f : Ev → Option Bool) : Prop := ∃ t, (∀ X, Y.Is X → PW X e t) ∧ Tq Y.K Y.mg t f
def WD (Y : Fm) (e : Expr) (f : Ev → Option (Bool × Ev)) : Prop := ∃ t, (∀ X, Y.Is X → PW X e t) ∧ Td Y.K Y.mg t f
/-- operators, calls, for all contexts of a family -/
def OpY (Y : Fm) (f : Value → Value → Sem Value) (r : R2) : Prop := ∀ X, Y.Is X → OpR X f r
def UnY (Y : Fm) (f : Value → Sem Value) (r : V → Hp → VK → Prop) : Prop := ∀ X, Y.Is X → UnR X f r
def CallY (Y : Fm) (f : Value) (r : List V → Hp → VK → Prop) : Prop := ∀ X, Y.Is X → CallR X f r
abbrev GlY (Y : Fm) (x : Str) : Prop := Y.sc.names.lookup x = some .globalImplicit
theorem Fm.Is.gl {Y : Fm} {X : Cx} (h : Y.Is X) {x : Str} (g : GlY Y x) : Gl X x := by
  show X.env.scope.names.lookup x = some .globalImplicit
  rw [h.sc]; exact g
theorem Fm.Is.vis {Y : Fm} {X : Cx} (h : Y.Is X) {x : Str} (g : Vis Y.sc x) : Vis X.env.scope x := by rw [h.sc]; exact g
theorem Fm.Is.loc {Y : Fm} {X : Cx} (h : Y.Is X) {x : Str} (g : Loc Y.sc x) : Loc X.env.scope x := by rw [h.sc]; exact g
theorem Fm.Is.nm {Y : Fm} {X : Cx} (h : Y.Is X) {i : Nat} {x : Str} (g : Y.N[i]? = some x) : X.N[i]? = some x := by rw [h.N]; exact g
theorem Fm.Is.nd {Y : Fm} {X : Cx} (h : Y.Is X) (g : Y.N.Nodup) : X.N.Nodup := by rw [h.N]; exact g
theorem Fm.Is.mgN {Y : Fm} {X : Cx} (h : Y.Is X) {x : Str} {v : Option Value} (g : Y.mg x = v) : X.mg x = v := by rw [h.mg]; exact g
theorem Fm.Is.st {Y : Fm} {X : Cx} (h : Y.Is X) {x : Str} (g : Y.fn x = true ∨ Y.sc.names.lookup x = some .local) : X.fn x = true ∨ X.env.scope.names.lookup x = some .local := by rw [h.fn, h.sc]; exact g
theorem Fm.Is.own {Y : Fm} {X : Cx} (h : Y.Is X) : PassesOwn (model X.prog X.w) X.A X.env X.xe := by rw [h.xe]; exact PassesOwn.never

section
variable {K : PySem.W.Frag} {mg : Md} {F H F' H' F2 H2 : Hp} {O O' O1 O2 A B C : List Addr} {v : V} {d : D} {vs : List V} {ds : List D} {a : Addr} {σ : L2.St} {E E' : Ev} {i : Nat}
theorem Own.fresh (w : Own F H O) (x : Qx F H F' H') (nd : C.Nodup) (hf : ∀ c ∈ C, H c = none) (hl : ∀ c ∈ C, H' c ≠ none ∧ F' c = none) : Own F' H' (C ++ O) := by
  have w' := x.own w
  refine ⟨x.le, List.nodup_append.mpr ⟨nd, w'.nd, fun a m b n e => ?_⟩, fun b m => ?_, fun b m => ?_⟩
  · subst e
    exact w.alive a n (hf a m)
  · rcases List.mem_append.mp m with m | m
    · exact (hl b m).2
    · exact w'.out b m
  · rcases List.mem_append.mp m with m | m
    · exact (hl b m).1
    · exact w'.alive b m
theorem Ext.fresh (x : Qx F H F' H') (hf : ∀ c ∈ C, H c = none) : Ext F H O F' H' (C ++ O) where
  fle := x.ext.fle
  hle := fun b o e _ => x.hle b o e
  dom := x.ext.dom
  fdom := fun b e => by
    rcases x.ext.fdom b e with q | q | q
    · exact .inl q
    · cases q
    · exact .inr (.inr q)
  odom := fun b m => by
    rcases List.mem_append.mp m with m | m
    · exact .inr (hf b m)
    · exact .inl m
theorem Qx.new {p : Addr} {o : HO} (f : ∀ a o, F a = some o → H a = some o) (hp : H p = none) : Qx F H F (upd H p o) where
  ext := ⟨fun _ _ e => e, fun b u e _ => by rw [upd_ne (ne_of_none e hp)]; exact e, fun b e => by
    by_cases hb : b = p
    · subst hb; rw [upd_same]; simp
    · rw [upd_ne hb]; exact e, fun _ e => .inl e, fun _ m => by cases m⟩
  le := fun b u e => by
    have q := f b u e
    rw [upd_ne (ne_of_none q hp)]; exact q
theorem none_of_le {p : Addr} (f : ∀ a o, F a = some o → H a = some o) (hp : H p = none) : F p = none := by
  cases e : F p with
  | none => rfl
  | some o => rw [f p o e] at hp; cases hp
theorem Qx.newF {p : Addr} {o : HO} (f : ∀ a o, F a = some o → H a = some o) (hp : H p = none) : Qx F H (upd F p o) (upd H p o) where
  ext := ⟨fun b u e => by rw [upd_ne (ne_of_none e (none_of_le f hp))]; exact e, fun b u e _ => by rw [upd_ne (ne_of_none e hp)]; exact e, fun b e => by
    by_cases hb : b = p
    · subst hb; rw [upd_same]; simp
    · rw [upd_ne hb]; exact e, fun b e => by
    by_cases hb : b = p
    · subst hb; exact .inr (.inr hp)
    · rw [upd_ne hb] at e; exact .inl e, fun _ m => by cases m⟩
  le := fun b u e => by
    by_cases hb : b = p
    · subst hb; rw [upd_same] at e ⊢; exact e
    · rw [upd_ne hb] at e ⊢; exact f b u e
/-- two operands, quietly -/
theorem q2 {ta tb : TE} {fa fb : Ev → Option D} {dx dy : D} (ha : Qt K mg ta fa) (hb : Qt K mg tb fb) (ea : fa E = some dx) (eb : fb E = some dy) (w : Own F H O) (r : RpS K mg F H σ E O) (R : V → V → Hp → Prop)
    (h : ∀ x y F' H' A B, Qx F H F' H' → Rp K mg F' H' x dx A → Rp K mg F' H' y dy B → R x y H') : ta σ H fun x H1 => tb σ H1 fun y H2 => R x y H2 :=
  ha F H O σ E dx ea w r _ fun x F1 H1 A q1 r1 => hb F1 H1 O σ E dy eb (q1.own w) (q1.rps r) _ fun y F2 H2 B q2 r2 => h x y F2 H2 A B (q1.trans q2) (q2.rp r1) r2
theorem app_assoc3 : (A ++ B) ++ C = A ++ (B ++ C) := List.append_assoc A B C
/-- two operands that may change the slots -/
theorem d2 {ta tb : TE} {fa fb : Ev → Option (D × Ev)} {dx dy : D} {E1 E2 : Ev} (ha : De K mg ta fa) (hb : De K mg tb fb) (ea : fa E = some (dx, E1)) (eb : fb E1 = some (dy, E2)) (w : Own F H O) (r : RpS K mg F H σ E O) (R : V → V → Hp → Prop)
    (h : ∀ x y F' H' A B O', Ext F H O F' H' (A ++ (B ++ O')) → Own F' H' (A ++ (B ++ O')) → Rp K mg F' H' x dx A → Rp K mg F' H' y dy B → RpS K mg F' H' σ E2 O' → R x y H') : ta σ H fun x H1 => tb σ H1 fun y H2 => R x y H2 :=
  ha F H O σ E dx E1 ea w r _ fun x F1 H1 A O1 x1 w1 r1 s1 => hb F1 H1 O1 σ E1 dy E2 eb w1.right s1 _ fun y F2 H2 B O2 x2 w2 r2 s2 =>
    h x y F2 H2 A B O2 (x1.trans (x2.frame w1)) (w1.frame x2 w2) (r1.ext x2 w1.apart) r2 s2
end

/-! ### names, constants -/
def qVar (i : Nat) : Ev → Option D := fun E => match E[i]? with | some (some d) => some d | _ => none
def eVar (i : Nat) : Ev → Option (D × Ev) := fun E => match E[i]? with | some (some d) => (if isFz d = true then some (d, E) else some (froz d, E.set i (some (froz d)))) | _ => none
def qC (d : D) : Ev → Option D := fun _ => some d
/-- a quiet frozen value -/
def eOf (f : Ev → Option D) : Ev → Option (D × Ev) := fun E => match f E with | some d => (if isFz d = true then some (d, E) else none) | none => none
section
variable {Y : Fm}
theorem qt_var (K : PySem.W.Frag) (mg : Md) (i : Nat) : Qt K mg (tVar i) (qVar i) := by
  intro F H O σ E d e w r Q h
  unfold qVar at e
  split at e
  · rename_i d' e'
    cases e
    obtain ⟨v, A, es, rv⟩ := r.get w e'
    exact ⟨v, es, h v F H A (Qx.refl w.le) rv⟩
  · cases e
theorem pq_var {i : Nat} {x : Str} {pos : Pos} (hN : Y.N[i]? = some x) (hv : Vis Y.sc x) (hd : (x == ("__debug__" : Str)) = false := by decide) (hcd : (x == ("__classdict__" : Str)) = false := by decide) : PQ Y (.Name x pos) (qVar i) :=
  ⟨_, fun X h => pe_var (h.nm hN) (h.vis hv) hd hcd, qt_var _ _ i⟩
theorem pd_var {i : Nat} {x : Str} {pos : Pos} (hN : Y.N[i]? = some x) (hv : Vis Y.sc x) (hd : (x == ("__debug__" : Str)) = false := by decide) (hcd : (x == ("__classdict__" : Str)) = false := by decide) : PD Y (.Name x pos) (eVar i) := by
  refine ⟨_, fun X h => pe_var (h.nm hN) (h.vis hv) hd hcd, fun F H O σ E d E' e w r Q h => ?_⟩
  unfold eVar at e
  split at e
  · rename_i d' e'
    obtain ⟨v, A, es, rv, wA, sA, go⟩ := r.change w e'
    refine ⟨v, es, ?_⟩
    split at e
    · rename_i z
      cases e
      have z' := rv.fz z
      subst z'
      exact h v F H [] O Ext.refl w rv r
    · cases e
      have rz := rv.freeze wA
      obtain ⟨O', s', w', x'⟩ := go _ _ _ _ (frz_ext wA) (Own.nil (frz_le wA)) rz
      exact h v _ _ [] O' x' w' rz s'
  · cases e
theorem qt_c {K : PySem.W.Frag} {mg : Md} {v : V} {d : D} (h : ∀ F H, Rp K mg F H v d []) : Qt K mg (tC v) (qC d) := by
  intro F H O σ E d' e w r Q hq
  cases e
  exact hq v F H [] (Qx.refl w.le) (h F H)
theorem pq_int {i : Int} {j pos} : PQ Y (.Constant (.int i) j pos) (qC (.int i)) := ⟨_, fun _ _ => pe_int, qt_c fun _ _ => .int i⟩
theorem pq_bl {b : Bool} {j pos} : PQ Y (.Constant (.bool b) j pos) (qC (.bl b)) := ⟨_, fun _ _ => pe_bl, qt_c fun _ _ => .bl b⟩
theorem pq_non {j pos} : PQ Y (.Constant .none j pos) (qC .non) := ⟨_, fun _ _ => pe_non, qt_c fun _ _ => .non⟩
theorem pq_str {x : Str} {j pos} : PQ Y (.Constant (.str x) j pos) (qC (.str x)) := ⟨_, fun _ _ => pe_str, qt_c fun _ _ => .str x⟩
theorem pd_of {e : Expr} {f : Ev → Option D} (h : PQ Y e f) : PD Y e (eOf f) := by
  obtain ⟨t, p, q⟩ := h
  refine ⟨t, p, fun F H O σ E d E' e w r Q hQ => ?_⟩
  unfold eOf at e
  split at e
  · rename_i d' e'
    split at e
    · rename_i z
      cases e
      refine q F H O σ E d e' w r Q fun v F' H' A x rv => ?_
      have z' := rv.fz z
      subst z'
      exact hQ v F' H' [] O x.extO (x.own w) rv (x.rps r)
    · cases e
  · cases e
/-- a module's function as a value -/
theorem pq_fn {x : Str} {a : Addr} {pos : Pos} (hg : GlY Y x) (hm : Y.mg x = some (.ref a)) (hd : (x == ("__debug__" : Str)) = false := by decide) : PQ Y (.Name x pos) (qC (.fn x)) :=
  ⟨_, fun X h => pe_glob (h.gl hg) (h.mgN hm) (v := .ref a) rfl hd, qt_c fun _ _ => .fn hm⟩
end

/-! ### operators -/
def q2f (op : D → D → Option D) (fa fb : Ev → Option D) : Ev → Option D := fun E => match fa E with | some x => (match fb E with | some y => op x y | none => none) | none => none
def e2f (op : D → D → Option D) (fa fb : Ev → Option (D × Ev)) : Ev → Option (D × Ev) := fun E => match fa E with | some (x, E1) => (match fb E1 with | some (y, E2) => (match op x y with | some d => some (d, E2) | none => none) | none => none) | none => none
/-- quiet operands, a new value -/
def n2f (op : D → D → Option D) (fa fb : Ev → Option D) : Ev → Option (D × Ev) := fun E => match fa E with | some x => (match fb E with | some y => (match op x y with | some d => some (d, E) | none => none) | none => none) | none => none
section
variable {Y : Fm} {a b : Expr} {pos : Pos}
theorem qt_op {K : PySem.W.Frag} {mg : Md} {ta tb : TE} {fa fb : Ev → Option D} {r : R2} {op : D → D → Option D} (hr : R2ok K mg r op) (ha : Qt K mg ta fa) (hb : Qt K mg tb fb) : Qt K mg (tOp r ta tb) (q2f op fa fb) := by
  intro F H O σ E d e w s Q hQ
  unfold q2f at e
  split at e
  · rename_i dx ea
    split at e
    · rename_i dy eb
      exact q2 ha hb ea eb w s _ fun x y F' H' A B q rx ry => hr F' H' x y dx dy d A B e q.le rx ry Q fun v F2 H2 C q' _ _ rv => hQ v F2 H2 C (q.trans q') rv
    · cases e
  · cases e
theorem de_op {K : PySem.W.Frag} {mg : Md} {ta tb : TE} {fa fb : Ev → Option (D × Ev)} {r : R2} {op : D → D → Option D} (hr : R2ok K mg r op) (ha : De K mg ta fa) (hb : De K mg tb fb) : De K mg (tOp r ta tb) (e2f op fa fb) := by
  intro F H O σ E d E' e w s Q hQ
  unfold e2f at e
  split at e
  · rename_i dx E1 ea
    split at e
    · rename_i dy E2 eb
      split at e
      · rename_i d' eo
        cases e
        refine d2 ha hb ea eb w s _ fun x y F' H' A B O' x' w' rx ry s' => hr F' H' x y dx dy d A B eo w'.le rx ry Q fun v F2 H2 C q' nd hf rv => ?_
        have wO := w'.right.right
        exact hQ v F2 H2 C O' ((x'.sub (fun _ m => m) fun b m => .inl (List.mem_append_right _ (List.mem_append_right _ m))).trans (Ext.fresh (O := O') q' hf)) (wO.fresh q' nd hf rv.alive) rv (q'.rps s')
      · cases e
    · cases e
  · cases e
theorem de_opN {K : PySem.W.Frag} {mg : Md} {ta tb : TE} {fa fb : Ev → Option D} {r : R2} {op : D → D → Option D} (hr : R2ok K mg r op) (ha : Qt K mg ta fa) (hb : Qt K mg tb fb) : De K mg (tOp r ta tb) (n2f op fa fb) := by
  intro F H O σ E d E' e w s Q hQ
  unfold n2f at e
  split at e
  · rename_i dx ea
    split at e
    · rename_i dy eb
      split at e
      · rename_i d' eo
        cases e
        refine q2 ha hb ea eb w s _ fun x y F' H' A B q rx ry => hr F' H' x y dx dy d A B eo q.le rx ry Q fun v F2 H2 C q' nd hf rv => ?_
        have hf' : ∀ c ∈ C, H c = none := fun c m => Classical.byContradiction fun n => q.ext.dom c n (hf c m)
        exact hQ v F2 H2 C O (Ext.fresh (q.trans q') hf') (w.fresh (q.trans q') nd hf' rv.alive) rv ((q.trans q').rps s)
      · cases e
    · cases e
  · cases e
theorem pq_bin {op : Operator} {r : R2} {f : D → D → Option D} {fa fb} (ho : OpY Y (binaryOp op) r) (hr : R2ok Y.K Y.mg r f) (ha : PQ Y a fa) (hb : PQ Y b fb) : PQ Y (.BinOp a op b pos) (q2f f fa fb) :=
  let ⟨_, p1, q1⟩ := ha; let ⟨_, p2, q2⟩ := hb; ⟨_, fun X h => pe_op (ho X h) (p1 X h) (p2 X h), qt_op hr q1 q2⟩
theorem pd_bin {op : Operator} {r : R2} {f : D → D → Option D} {fa fb} (ho : OpY Y (binaryOp op) r) (hr : R2ok Y.K Y.mg r f) (ha : PD Y a fa) (hb : PD Y b fb) : PD Y (.BinOp a op b pos) (e2f f fa fb) :=
  let ⟨_, p1, q1⟩ := ha; let ⟨_, p2, q2⟩ := hb; ⟨_, fun X h => pe_op (ho X h) (p1 X h) (p2 X h), de_op hr q1 q2⟩
theorem pn_bin {op : Operator} {r : R2} {f : D → D → Option D} {fa fb} (ho : OpY Y (binaryOp op) r) (hr : R2ok Y.K Y.mg r f) (ha : PQ Y a fa) (hb : PQ Y b fb) : PD Y (.BinOp a op b pos) (n2f f fa fb) :=
  let ⟨_, p1, q1⟩ := ha; let ⟨_, p2, q2⟩ := hb; ⟨_, fun X h => pe_op (ho X h) (p1 X h) (p2 X h), de_opN hr q1 q2⟩
theorem pq_cmp {op : CmpOp} {r : R2} {f : D → D → Option D} {fa fb} (ho : OpY Y (compareOp op) r) (hr : R2ok Y.K Y.mg r f) (ha : PQ Y a fa) (hb : PQ Y b fb) (hm : behindInMarks op b = false) : PQ Y (.Compare a [op] [b] pos) (q2f f fa fb) :=
  let ⟨_, p1, q1⟩ := ha; let ⟨_, p2, q2⟩ := hb; ⟨_, fun X h => pe_cmpR (ho X h) (p1 X h) (p2 X h) hm, qt_op hr q1 q2⟩
theorem pd_cmp {op : CmpOp} {r : R2} {f : D → D → Option D} {fa fb} (ho : OpY Y (compareOp op) r) (hr : R2ok Y.K Y.mg r f) (ha : PD Y a fa) (hb : PD Y b fb) (hm : behindInMarks op b = false) : PD Y (.Compare a [op] [b] pos) (e2f f fa fb) :=
  let ⟨_, p1, q1⟩ := ha; let ⟨_, p2, q2⟩ := hb; ⟨_, fun X h => pe_cmpR (ho X h) (p1 X h) (p2 X h) hm, de_op hr q1 q2⟩
end

/-! ### tests -/
def asB : D → Option Bool
  | .bl b => some b
  | _ => none
def tqf (f : Ev → Option D) : Ev → Option Bool := fun E => match f E with | some d => asB d | none => none
def tdf (f : Ev → Option (D × Ev)) : Ev → Option (Bool × Ev) := fun E => match f E with | some (d, E1) => (match asB d with | some b => some (b, E1) | none => none) | none => none
theorem asB_some {d : D} {b : Bool} (h : asB d = some b) : d = .bl b := by
  cases d <;> simp [asB] at h
  subst h; rfl
section
variable {Y : Fm} {a b : Expr} {pos : Pos} {K : PySem.W.Frag} {mg : Md}
theorem Rp.isBl {F H : Hp} {v : V} {b : Bool} {A : List Addr} (r : Rp K mg F H v (.bl b) A) : v = .bl b ∧ A = [] := by cases r; exact ⟨rfl, rfl⟩
theorem tq_b {t : TE} {f : Ev → Option D} (h : Qt K mg t f) : Tq K mg (tB t) (tqf f) := by
  intro F H O σ E b e w s Q hQ
  unfold tqf at e
  split at e
  · rename_i d ed
    have e' := asB_some e
    subst e'
    exact h F H O σ E _ ed w s _ fun v F' H' A q r => ⟨b, r.isBl.1, hQ F' H' q⟩
  · cases e
theorem td_b {t : TE} {f : Ev → Option (D × Ev)} (h : De K mg t f) : Td K mg (tB t) (tdf f) := by
  intro F H O σ E b E' e w s Q hQ
  unfold tdf at e
  split at e
  · rename_i d E1 ed
    split at e
    · rename_i b' eb
      cases e
      have e' := asB_some eb
      subst e'
      refine h F H O σ E _ _ ed w s _ fun v F' H' A O' x w' r s' => ⟨b, r.isBl.1, ?_⟩
      obtain ⟨_, z⟩ := r.isBl
      subst z
      exact hQ F' H' O' x w' s'
    · cases e
  · cases e
theorem tq_val {e : Expr} {f} (h : PQ Y e f) (he : ∀ X : Cx, ∀ whole, isTrue e X.env whole = (do let v ← whole; standAt e.pos; holding [v] (truthy v)) := by intro _ _; rfl) : TQ Y e (tqf f) :=
  let ⟨_, p, q⟩ := h; ⟨_, fun X h => pt_val (p X h) (he X), tq_b q⟩
theorem td_val {e : Expr} {f} (h : PD Y e f) (he : ∀ X : Cx, ∀ whole, isTrue e X.env whole = (do let v ← whole; standAt e.pos; holding [v] (truthy v)) := by intro _ _; rfl) : TD Y e (tdf f) :=
  let ⟨_, p, q⟩ := h; ⟨_, fun X h => pt_val (p X h) (he X), td_b q⟩
theorem tq_cmp {op : CmpOp} {r : R2} {f : D → D → Option D} {fa fb} (ho : OpY Y (compareOp op) r) (hr : R2ok Y.K Y.mg r f) (ha : PQ Y a fa) (hb : PQ Y b fb) (hm : behindInMarks op b = false) : TQ Y (.Compare a [op] [b] pos) (tqf (q2f f fa fb)) :=
  let ⟨_, p1, q1⟩ := ha; let ⟨_, p2, q2⟩ := hb; ⟨_, fun X h => pt_cmpR (ho X h) (p1 X h) (p2 X h) hm, tq_b (qt_op hr q1 q2)⟩
theorem td_cmp {op : CmpOp} {r : R2} {f : D → D → Option D} {fa fb} (ho : OpY Y (compareOp op) r) (hr : R2ok Y.K Y.mg r f) (ha : PD Y a fa) (hb : PD Y b fb) (hm : behindInMarks op b = false) : TD Y (.Compare a [op] [b] pos) (tdf (e2f f fa fb)) :=
  let ⟨_, p1, q1⟩ := ha; let ⟨_, p2, q2⟩ := hb; ⟨_, fun X h => pt_cmpR (ho X h) (p1 X h) (p2 X h) hm, td_b (de_op hr q1 q2)⟩
/-- a quiet test where slots may change -/
def tOfQ (f : Ev → Option Bool) : Ev → Option (Bool × Ev) := fun E => match f E with | some b => some (b, E) | none => none
theorem td_ofQ {t : TT} {f : Ev → Option Bool} (h : Tq K mg t f) : Td K mg t (tOfQ f) := by
  intro F H O σ E b E' e w s Q hQ
  unfold tOfQ at e
  split at e
  · rename_i b' eb
    cases e
    exact h F H O σ E b eb w s Q fun F' H' q => hQ F' H' O q.extO (q.own w) (q.rps s)
  · cases e
theorem td_of {e : Expr} {f} (h : TQ Y e f) : TD Y e (tOfQ f) := let ⟨_, p, q⟩ := h; ⟨_, p, td_ofQ q⟩
theorem wd_of {e : Expr} {f} (h : WQ Y e f) : WD Y e (tOfQ f) := let ⟨_, p, q⟩ := h; ⟨_, p, td_ofQ q⟩
theorem tq_w {e : Expr} {f} (h : WQ Y e f) : TQ Y e f := let ⟨_, p, q⟩ := h; ⟨_, fun X h => (p X h).pt, q⟩
theorem td_w {e : Expr} {f} (h : WD Y e f) : TD Y e f := let ⟨_, p, q⟩ := h; ⟨_, fun X h => (p X h).pt, q⟩
def qAnd (f g : Ev → Option Bool) : Ev → Option Bool := fun E => match f E with | some true => g E | some false => some false | none => none
def qOr (f g : Ev → Option Bool) : Ev → Option Bool := fun E => match f E with | some true => some true | some false => g E | none => none
def qNot (f : Ev → Option Bool) : Ev → Option Bool := fun E => match f E with | some b => some (!b) | none => none
def dAnd (f g : Ev → Option (Bool × Ev)) : Ev → Option (Bool × Ev) := fun E => match f E with | some (true, E1) => g E1 | some (false, E1) => some (false, E1) | none => none
def dOr (f g : Ev → Option (Bool × Ev)) : Ev → Option (Bool × Ev) := fun E => match f E with | some (true, E1) => some (true, E1) | some (false, E1) => g E1 | none => none
def dNot (f : Ev → Option (Bool × Ev)) : Ev → Option (Bool × Ev) := fun E => match f E with | some (b, E1) => some (!b, E1) | none => none
theorem tq_and {t u : TT} {f g} (h : Tq K mg t f) (h' : Tq K mg u g) : Tq K mg (tAnd t u) (qAnd f g) := by
  intro F H O σ E b e w s Q hQ
  unfold qAnd at e
  split at e
  · rename_i ef
    exact h F H O σ E true ef w s _ fun F' H' q => h' F' H' O σ E b e (q.own w) (q.rps s) Q fun F2 H2 q2 => hQ F2 H2 (q.trans q2)
  · rename_i ef
    cases e
    exact h F H O σ E false ef w s _ fun F' H' q => hQ F' H' q
  · cases e
theorem tq_or {t u : TT} {f g} (h : Tq K mg t f) (h' : Tq K mg u g) : Tq K mg (tOr t u) (qOr f g) := by
  intro F H O σ E b e w s Q hQ
  unfold qOr at e
  split at e
  · rename_i ef
    cases e
    exact h F H O σ E true ef w s _ fun F' H' q => hQ F' H' q
  · rename_i ef
    exact h F H O σ E false ef w s _ fun F' H' q => h' F' H' O σ E b e (q.own w) (q.rps s) Q fun F2 H2 q2 => hQ F2 H2 (q.trans q2)
  · cases e
theorem tq_not' {t : TT} {f} (h : Tq K mg t f) : Tq K mg (tNot t) (qNot f) := by
  intro F H O σ E b e w s Q hQ
  unfold qNot at e
  split at e
  · rename_i c ef
    cases e
    exact h F H O σ E c ef w s _ fun F' H' q => hQ F' H' q
  · cases e
theorem td_and {t u : TT} {f g} (h : Td K mg t f) (h' : Td K mg u g) : Td K mg (tAnd t u) (dAnd f g) := by
  intro F H O σ E b E' e w s Q hQ
  unfold dAnd at e
  split at e
  · rename_i E1 ef
    exact h F H O σ E true E1 ef w s _ fun F' H' O' x w' s' => h' F' H' O' σ E1 b E' e w' s' Q fun F2 H2 O2 x2 w2 s2 => hQ F2 H2 O2 (x.trans x2) w2 s2
  · rename_i E1 ef
    cases e
    exact h F H O σ E false _ ef w s _ fun F' H' O' x w' s' => hQ F' H' O' x w' s'
  · cases e
theorem td_or {t u : TT} {f g} (h : Td K mg t f) (h' : Td K mg u g) : Td K mg (tOr t u) (dOr f g) := by
  intro F H O σ E b E' e w s Q hQ
  unfold dOr at e
  split at e
  · rename_i E1 ef
    cases e
    exact h F H O σ E true _ ef w s _ fun F' H' O' x w' s' => hQ F' H' O' x w' s'
  · rename_i E1 ef
    exact h F H O σ E false E1 ef w s _ fun F' H' O' x w' s' => h' F' H' O' σ E1 b E' e w' s' Q fun F2 H2 O2 x2 w2 s2 => hQ F2 H2 O2 (x.trans x2) w2 s2
  · cases e
theorem td_not' {t : TT} {f} (h : Td K mg t f) : Td K mg (tNot t) (dNot f) := by
  intro F H O σ E b E' e w s Q hQ
  unfold dNot at e
  split at e
  · rename_i c E1 ef
    cases e
    exact h F H O σ E c _ ef w s _ fun F' H' O' x w' s' => hQ F' H' O' x w' s'
  · cases e
theorem wq_and1 {f} (h : TQ Y a f) : WQ Y (.BoolOp .And [a] pos) f := let ⟨_, p, q⟩ := h; ⟨_, fun X h => pw_and1 (p X h), q⟩
theorem wq_or1 {f} (h : TQ Y a f) : WQ Y (.BoolOp .Or [a] pos) f := let ⟨_, p, q⟩ := h; ⟨_, fun X h => pw_or1 (p X h), q⟩
theorem wq_and {rest : List Expr} {f g} (h : TQ Y a f) (h' : WQ Y (.BoolOp .And (b :: rest) pos) g) : WQ Y (.BoolOp .And (a :: b :: rest) pos) (qAnd f g) := let ⟨_, p, q⟩ := h; let ⟨_, p', q'⟩ := h'; ⟨_, fun X h => pw_and (p X h) (p' X h), tq_and q q'⟩
theorem wq_or {rest : List Expr} {f g} (h : TQ Y a f) (h' : WQ Y (.BoolOp .Or (b :: rest) pos) g) : WQ Y (.BoolOp .Or (a :: b :: rest) pos) (qOr f g) := let ⟨_, p, q⟩ := h; let ⟨_, p', q'⟩ := h'; ⟨_, fun X h => pw_or (p X h) (p' X h), tq_or q q'⟩
theorem tq_not {f} (h : TQ Y a f) : TQ Y (.UnaryOp .Not a pos) (qNot f) := let ⟨_, p, q⟩ := h; ⟨_, fun X h => pt_not (p X h), tq_not' q⟩
theorem wd_and1 {f} (h : TD Y a f) : WD Y (.BoolOp .And [a] pos) f := let ⟨_, p, q⟩ := h; ⟨_, fun X h => pw_and1 (p X h), q⟩
theorem wd_or1 {f} (h : TD Y a f) : WD Y (.BoolOp .Or [a] pos) f := let ⟨_, p, q⟩ := h; ⟨_, fun X h => pw_or1 (p X h), q⟩
theorem wd_and {rest : List Expr} {f g} (h : TD Y a f) (h' : WD Y (.BoolOp .And (b :: rest) pos) g) : WD Y (.BoolOp .And (a :: b :: rest) pos) (dAnd f g) := let ⟨_, p, q⟩ := h; let ⟨_, p', q'⟩ := h'; ⟨_, fun X h => pw_and (p X h) (p' X h), td_and q q'⟩
theorem wd_or {rest : List Expr} {f g} (h : TD Y a f) (h' : WD Y (.BoolOp .Or (b :: rest) pos) g) : WD Y (.BoolOp .Or (a :: b :: rest) pos) (dOr f g) := let ⟨_, p, q⟩ := h; let ⟨_, p', q'⟩ := h'; ⟨_, fun X h => pw_or (p X h) (p' X h), td_or q q'⟩
theorem td_not {f} (h : TD Y a f) : TD Y (.UnaryOp .Not a pos) (dNot f) := let ⟨_, p, q⟩ := h; ⟨_, fun X h => pt_not (p X h), td_not' q⟩
end
end Dm

/-! dicts whose keys are tuples: the machine's operations over the abstract heap -/
namespace Dm
open PySem PySem.Spec L2
open PyProof.Rows hiding St
mutual
inductive Ky (K : PySem.W.Frag) (H : Hp) : V → NestedKey → Prop
  | non : Ky K H .non .none
  | bl (b : Bool) : Ky K H (.bl b) (.num (if b = true then 1 else 0))
  | int (i : Int) : Ky K H (.int i) (.num i)
  | str (x : Str) : Ky K H (.str x) (.text x)
  | tup {a : Addr} {vs : List V} {ks : List NestedKey} : SqT K H a vs → KyL K H vs ks → Ky K H (.ref a) (.tup ks)
inductive KyL (K : PySem.W.Frag) (H : Hp) : List V → List NestedKey → Prop
  | nil : KyL K H [] []
  | cons {v : V} {vs : List V} {k : NestedKey} {ks : List NestedKey} : Ky K H v k → KyL K H vs ks → KyL K H (v :: vs) (k :: ks)
end
section
variable {K : PySem.W.Frag} {mg : Md} {F H F' H' : Hp} {A : List Addr} {v : V} {d : D} {vs : List V} {ds : List D} {a : Addr}
mutual
theorem Rp.ky (f : ∀ a o, F a = some o → H' a = some o) : ∀ {d : D} {v : V} {A : List Addr} {k : NestedKey}, keyN d = some k → Rp K mg F H v d A → Ky K H' v k
  | .non, _, _, _, e, .non => by cases e; exact .non
  | .bl b, _, _, _, e, .bl _ => by cases e; exact .bl b
  | .int i, _, _, _, e, .int _ => by cases e; exact .int i
  | .str x, _, _, _, e, .str _ => by cases e; exact .str x
  | .tup xs, _, _, k, e, .tup h z r => by
    unfold keyN at e
    cases q : keysN xs with
    | none => rw [q] at e; cases e
    | some ks =>
      rw [q] at e
      cases e
      exact .tup (SqT.up f h) (RpL.kyl f q r)
  | .lst _ _, _, _, _, e, _ => by cases e
  | .scr _, _, _, _, e, _ => by cases e
  | .dic _ _ _, _, _, _, e, _ => by cases e
  | .fn _, _, _, _, e, _ => by cases e
  | .ty _, _, _, _, e, _ => by cases e
  | .ins _ _ _ _, _, _, _, e, _ => by cases e
theorem RpL.kyl (f : ∀ a o, F a = some o → H' a = some o) : ∀ {ds : List D} {vs : List V} {A : List Addr} {ks : List NestedKey}, keysN ds = some ks → RpL K mg F H vs ds A → KyL K H' vs ks
  | [], _, _, _, e, .nil => by cases e; exact .nil
  | d :: ds, _, _, ks, e, .cons r1 r2 => by
    unfold keysN at e
    cases q1 : keyN d with
    | none => rw [q1] at e; cases e
    | some k =>
      cases q2 : keysN ds with
      | none => rw [q1, q2] at e; cases e
      | some ks' =>
        rw [q1, q2] at e
        cases e
        exact .cons (Rp.ky f q1 r1) (RpL.kyl f q2 r2)
end
end
section
variable {X : Cx} {pins : List (Addr × Obj)} {σ : L2.St} {H : Hp} {s : Shared} {A : Around} {E : Value → Shared → Prop} {a b : Addr} {y v : V} {u r : Value} {f : Str → Option Value}
mutual
theorem Ky.is (I : Inv X pins σ H s) : ∀ {k : NestedKey} {v : V} {u : Value}, Ky X.K H v k → RelV v u → NestedIs s.heap k u
  | .none, _, _, .non, r => by cases r; exact .none
  | .num _, _, _, .bl b, r => by cases r; exact .bool rfl
  | .num i, _, _, .int _, r => by obtain ⟨t, rfl⟩ := r; exact .int i t
  | .text x, _, _, .str _, r => by obtain ⟨t, rfl⟩ := r; exact .text x t
  | .tup ks, _, _, .tup h hl, r => by
    cases (show _ = Value.ref _ from r)
    obtain ⟨its, rv, ⟨o, ho, hc, n, hd⟩, _⟩ := I.tuple h
    refine .tup ho hc hd ?_
    rw [List.toList_toArray]
    exact KyL.is I hl rv
theorem KyL.is (I : Inv X pins σ H s) : ∀ {ks : List NestedKey} {vs : List V} {us : List Value}, KyL X.K H vs ks → Vals vs us → NestedAll s.heap ks us
  | [], _, _, .nil, .nil => .nil
  | k :: ks, _, _, .cons h hl, .cons r rs => .cons (Ky.is I h r) (KyL.is I hl rs)
end
def dtKeys (K : PySem.W.Frag) (H : Hp) (xs : List (NestedKey × Addr × V)) : Prop := ∀ x ∈ xs, Ky K H (.ref x.2.1) x.1
theorem Paired.memR {α β : Type} {F : α → β → Prop} : ∀ {l₁ : List α} {l₂ : List β} {b : β}, PySem.Paired F l₁ l₂ → b ∈ l₂ → ∃ a ∈ l₁, F a b
  | _, _, _, .nil, m => by cases m
  | a :: l₁, b' :: l₂, b, .cons h t, m => by
    rcases List.mem_cons.mp m with e | m
    · subst e; exact ⟨a, List.mem_cons_self, h⟩
    · obtain ⟨a', m', h'⟩ := Paired.memR t m
      exact ⟨a', List.mem_cons_of_mem _ m', h'⟩
theorem dtAll.keys : ∀ {xs : List (NestedKey × Addr × V)} {ys : List (NestedKey × Addr × Value)}, dtAll xs ys → ys.map (·.1) = xs.map (·.1)
  | _, _, .nil => rfl
  | _, _, .cons h t => by rw [List.map_cons, List.map_cons, dtAll.keys t, h.1]
/-- at a stands a dict with tuples as keys (the empty one is one, too) -/
inductive DtIs (K : PySem.W.Frag) (mg : Md) (H : Hp) (a : Addr) : List (NestedKey × Addr × V) → Prop
  | o {xs : List (NestedKey × Addr × V)} : H a = some (DtO mg a xs) → dtOk a xs → dtKeys K H xs → DtIs K mg H a xs
  | e : H a = some (.dK []) → DtIs K mg H a []
/-- what the dict's object is -/
theorem dt_at {xs : List (NestedKey × Addr × V)} (I : Inv X pins σ H s) (D : DtIs X.K ⟨f, X.prog, X.w⟩ H a xs) : ∃ ys, dtAll xs ys ∧ s.heap.DictOfH (nestedKind X.prog X.w) a ys ∧ xs.length ≤ sizeLine ∧ (a == sysModules) = false ∧ Mut (H a) := by
  cases D with
  | o e ok hk =>
    obtain ⟨⟨ys, hall, o, es, ep, h1, h2, h3, h4⟩, _, _⟩ := I.hok a _ e
    refine ⟨ys, hall, ⟨o, es, ep, h1, h2, h3, h4, fun y hy => ?_, by rw [hall.keys]; exact ok.2.2.1⟩, ok.1, ok.2.1, by rw [e]; exact True.intro⟩
    obtain ⟨x, hx, q1, q2, _⟩ := Paired.memR hall hy
    rw [← q1, ← q2]
    exact ⟨(hk x hx).is I rfl, ok.2.2.2.1 x hx⟩
  | e e =>
    obtain ⟨_, hda, vs, rel, o, es, ep, h1, h2, h3, _, h4, _⟩ := dk_of I.hok e
    have ev : vs = [] := List.eq_nil_of_length_eq_zero rel.length.symm
    subst ev
    have h5 : es.toList = [] := List.eq_nil_of_length_eq_zero (PySem.Pairs.length h4)
    exact ⟨[], .nil, ⟨o, es, ep, h1, h2, h3, h5, fun _ hx => (by cases hx), List.nodup_nil⟩, Nat.zero_le _, hda, by rw [e]; exact True.intro⟩
def valX (xs : List (NestedKey × Addr × V)) (k : NestedKey) : Option V := (xs.find? fun x => decide (x.1 = k)).map (·.2.2)
def putX (xs : List (NestedKey × Addr × V)) (k : NestedKey) (b : Addr) (v : V) : List (NestedKey × Addr × V) :=
  if (valX xs k).isSome then xs.map (fun x => if x.1 = k then (x.1, x.2.1, v) else x) else xs ++ [(k, b, v)]
theorem dtAll.val : ∀ {xs : List (NestedKey × Addr × V)} {ys : List (NestedKey × Addr × Value)}, dtAll xs ys → ∀ k, RelO (valX xs k) ((atKey ys k).map (·.2))
  | _, _, .nil, _ => True.intro
  | x :: xs, y :: ys, .cons h t, k => by
    have ih := dtAll.val t k
    unfold valX atKey at ih ⊢
    rw [List.find?_cons, List.find?_cons, ← h.1]
    by_cases e : x.1 = k
    · rw [decide_eq_true e]
      exact h.2.2
    · rw [decide_eq_false e]
      exact ih
theorem dtAll.put {xs : List (NestedKey × Addr × V)} {ys : List (NestedKey × Addr × Value)} (h : dtAll xs ys) (k : NestedKey) (b : Addr) {v : V} {u : Value} (rv : RelV v u) : dtAll (putX xs k b v) (storedH ys k b u) := by
  have e : (valX xs k).isSome = (atKey ys k).isSome := by
    have q := (h.val k).isSome_eq
    rw [Option.isSome_map] at q
    exact q
  unfold putX storedH
  rw [e]
  split
  · have go : ∀ {xs : List (NestedKey × Addr × V)} {ys : List (NestedKey × Addr × Value)}, dtAll xs ys → dtAll (xs.map fun x => if x.1 = k then (x.1, x.2.1, v) else x) (ys.map (putAt k u)) := by
      intro xs ys h
      induction h with
      | nil => exact .nil
      | @cons x y _ _ h t ih =>
        rw [List.map_cons, List.map_cons]
        refine .cons ?_ ih
        unfold putAt
        by_cases q : x.1 = k
        · rw [if_pos q, if_pos (h.1 ▸ q)]
          exact ⟨h.1, h.2.1, rv⟩
        · rw [if_neg q, if_neg (h.1 ▸ q)]
          exact h
    exact go h
  · exact Paired.snoc h ⟨rfl, rfl, rv⟩
theorem putX_length (xs : List (NestedKey × Addr × V)) (k : NestedKey) (b : Addr) (v : V) : (putX xs k b v).length ≤ xs.length + 1 := by
  unfold putX
  split
  · rw [List.length_map]; omega
  · rw [List.length_append]; exact Nat.le_refl _
/-- the room of nested keys -/
theorem nk_room {k : Nat} {P : Program} {w : World} (hr : Room k A) : (nestedKind P w).room A.in1 := by
  have := hr.un
  show A.units + 1 + 8 < cLine
  omega
theorem y_getItem {k : Nat} {nk : NestedKey} {Q : Value → Shared → Prop} (hr : Room k A) (I : Inv X pins σ H s) {xs : List (NestedKey × Addr × V)} (D : DtIs X.K ⟨f, X.prog, X.w⟩ H a xs) (hy : Ky X.K H (.ref b) nk) (hd : nk.depth ≤ 8) (hv : valX xs nk = some v)
    (h : ∀ w' s', Inv X pins σ H s' → RelV v w' → Q w' s') : wpAny (model X.prog X.w) A (getItem (.ref a) (.ref b)) Q E s := by
  obtain ⟨ys, hall, dd, hz0, hda, mu⟩ := dt_at I D
  obtain ⟨w', hw, rw'⟩ := RelO.some_of (v := v) (o := (atKey ys nk).map (·.2)) (by rw [← hv]; exact hall.val nk)
  obtain ⟨p, hp, hp2⟩ := Option.map_eq_some_iff.mp hw
  refine wpAny_getItem_heap (nk_room hr) ⟨hy.is I rfl, hd⟩ dd hp ?_
  rw [hp2]
  exact h w' _ (I.tok _) rw'
theorem y_in {k : Nat} {nk : NestedKey} {Q : Value → Shared → Prop} (hr : Room k A) (I : Inv X pins σ H s) {xs : List (NestedKey × Addr × V)} (D : DtIs X.K ⟨f, X.prog, X.w⟩ H a xs) (hy : Ky X.K H (.ref b) nk) (hd : nk.depth ≤ 8)
    (h : ∀ s', Inv X pins σ H s' → Q (.bool (valX xs nk).isSome) s') : wpAny (model X.prog X.w) A (compareOp .In (.ref b) (.ref a)) Q E s := by
  obtain ⟨ys, hall, dd, hz0, hda, mu⟩ := dt_at I D
  refine wpAny_in_heap (nk_room hr) ⟨hy.is I rfl, hd⟩ hda dd ?_
  have q := (hall.val nk).isSome_eq
  rw [Option.isSome_map] at q
  rw [← q]
  exact h _ (I.tok _)
theorem y_notIn {k : Nat} {nk : NestedKey} {Q : Value → Shared → Prop} (hr : Room k A) (I : Inv X pins σ H s) {xs : List (NestedKey × Addr × V)} (D : DtIs X.K ⟨f, X.prog, X.w⟩ H a xs) (hy : Ky X.K H (.ref b) nk) (hd : nk.depth ≤ 8)
    (h : ∀ s', Inv X pins σ H s' → Q (.bool (!(valX xs nk).isSome)) s') : wpAny (model X.prog X.w) A (compareOp .NotIn (.ref b) (.ref a)) Q E s := by
  obtain ⟨ys, hall, dd, hz0, hda, mu⟩ := dt_at I D
  refine wpAny_notIn_heap (nk_room hr) ⟨hy.is I rfl, hd⟩ hda dd ?_
  have q := (hall.val nk).isSome_eq
  rw [Option.isSome_map] at q
  rw [← q]
  exact h _ (I.tok _)
theorem y_get1 {k : Nat} {nk : NestedKey} {Q : Value → Shared → Prop} (hr : Room k A) (I : Inv X pins σ H s) {xs : List (NestedKey × Addr × V)} (D : DtIs X.K ⟨f, X.prog, X.w⟩ H a xs) (hy : Ky X.K H (.ref b) nk) (hd : nk.depth ≤ 8)
    (h : ∀ w' s', Inv X pins σ H s' → RelV ((valX xs nk).getD .non) w' → Q w' s') : wpAny (model X.prog X.w) A (call (.builtin "dict.get") [.ref a, .ref b]) Q E s := by
  obtain ⟨ys, hall, dd, hz0, hda, mu⟩ := dt_at I D
  exact call_meetsIn PySem.F.slot_dict_get dd.typeIs PySem.F.entry_dict_get (PySem.F.args_dict_get_2 _ _) (meetsH_dict_get (nestedKind X.prog X.w) a b hda) ⟨nk_room hr, nk, ys, ⟨hy.is I rfl, hd⟩, dd, h _ _ (I.tok _) ((hall.val nk).getD rfl)⟩
theorem y_get2 {k : Nat} {nk : NestedKey} {x : V} {Q : Value → Shared → Prop} (hr : Room k A) (I : Inv X pins σ H s) {xs : List (NestedKey × Addr × V)} (D : DtIs X.K ⟨f, X.prog, X.w⟩ H a xs) (hy : Ky X.K H (.ref b) nk) (hd : nk.depth ≤ 8) (rx : RelV x r)
    (h : ∀ w' s', Inv X pins σ H s' → RelV ((valX xs nk).getD x) w' → Q w' s') : wpAny (model X.prog X.w) A (call (.builtin "dict.get") [.ref a, .ref b, r]) Q E s := by
  obtain ⟨ys, hall, dd, hz0, hda, mu⟩ := dt_at I D
  exact call_meetsIn PySem.F.slot_dict_get dd.typeIs PySem.F.entry_dict_get (PySem.F.args_dict_get_3 _ _ _) (meetsH_dict_get_default (nestedKind X.prog X.w) a b hda r) ⟨nk_room hr, nk, ys, ⟨hy.is I rfl, hd⟩, dd, h _ _ (I.tok _) ((hall.val nk).getD rx)⟩
theorem dtO_ok {mg : Md} {h' : Heap} {H' : Hp} {ys : List (NestedKey × Addr × Value)} (hall : dtAll xs ys) (dd : h'.DictOfH mg.nk a ys) : ObjOk mg.P mg.w H' h' a (DtO mg a xs) := by
  obtain ⟨o, es, ep, h1, h2, h3, h4, _, _⟩ := dd
  refine ⟨⟨ys, hall, o, es, ep, h1, h2, h3, h4⟩, ⟨o, h1⟩, fun k1 k2 ⟨ys', q0, o', es', ep', q1, q⟩ k => ⟨ys', q0, o', es', ep', k _ q1, q⟩⟩
theorem y_setItem {k : Nat} {nk : NestedKey} {Q : Unit → Shared → Prop} (hr : Room k A) (I : Inv X pins σ H s) {xs : List (NestedKey × Addr × V)} (D : DtIs X.K ⟨f, X.prog, X.w⟩ H a xs) (hy : Ky X.K H (.ref b) nk) (hd : nk.depth ≤ 8) (rv : RelV v r)
    (h : ∀ s', Inv X pins σ (upd H a (DtO ⟨f, X.prog, X.w⟩ a (putX xs nk b v))) s' → Q () s') : wpAny (model X.prog X.w) A (setItem (.ref a) (.ref b) r) Q E s := by
  obtain ⟨ys, hall, dd, hz0, hda, mu⟩ := dt_at I D
  have hz : ys.length ≤ sizeLine := by rw [← PySem.Paired.length hall]; exact hz0
  refine wpAny_setItem_heap (hsz := hz) (nk_room hr) ⟨hy.is I rfl, hd⟩ dd fun h' dd' hs => h _ ?_
  have he : ∃ q, h'.get? a = some q := let ⟨q, _, _, hq, _⟩ := dd'; ⟨q, hq⟩
  exact d_write I mu hs he (dtO_ok (hall.put nk b rv) dd')
end
end Dm

/-! dicts as data: get, in; what the machine does is that -/
namespace Dm
open PySem PySem.Spec L2
open PyProof.Rows hiding St
def keyT (d : D) : Option NestedKey := match d with
  | .tup xs => (match keyN (.tup xs) with | some k => (if k.depth ≤ 8 then some k else none) | none => none)
  | _ => none
def keysT : List D → Option (List NestedKey)
  | [] => some []
  | d :: ds => match keyT d, keysT ds with | some k, some ks => some (k :: ks) | _, _ => none
def lookK {κ : Type} [DecidableEq κ] : List κ → List D → κ → Option D
  | x :: xs, d :: ds, k => if x = k then some d else lookK xs ds k
  | _, _, _ => none
/-- what a dict with these keys and values has at k (none: no such key is served) -/
def dGet (ks ds : List D) (k : D) : Option (Option D) := match keyK k with
  | some x => (match keysK ks with | some xs => some (lookK xs ds x) | none => none)
  | none => (match keyT k with | some x => (match keysT ks with | some xs => some (lookK xs ds x) | none => none) | none => none)
/-- .. the machine's: the dict at a has o at y -/
def YGet (K : PySem.W.Frag) (mg : Md) (H : Hp) (a : Addr) (y : V) (o : Option V) : Prop :=
  DGet H a y o ∨ ∃ xs nk b, DtIs K mg H a xs ∧ y = .ref b ∧ Ky K H y nk ∧ nk.depth ≤ 8 ∧ o = valX xs nk
section
variable {K : PySem.W.Frag} {mg : Md} {F H F' H' : Hp} {A B O : List Addr} {v y : V} {d k : D} {vs : List V} {ds ks : List D} {a : Addr}
theorem keyT_some {nk : NestedKey} (e : keyT k = some nk) : keyN k = some nk ∧ nk.depth ≤ 8 ∧ ∃ xs, k = .tup xs := by
  unfold keyT at e
  split at e
  · split at e
    · split at e
      · cases e
        rename_i q1 q2
        exact ⟨q1, q2, _, rfl⟩
      · cases e
    · cases e
  · cases e
theorem keyK_kV {x : Key} (e : keyK k = some x) (r : Rp K mg F H y k A) : y = kV x := by
  cases k <;> simp only [keyK] at e <;> try (cases e; done)
  · cases e; cases r; rfl
  · cases e; cases r; rfl
theorem Rp.tup_ref {xs : List D} (r : Rp K mg F H y (.tup xs) A) : ∃ b, y = .ref b := by cases r; exact ⟨_, rfl⟩
theorem lookK_rpl {κ : Type} [DecidableEq κ] : ∀ {kvs : List (κ × V)} {ds : List D} {A : List Addr} (x : κ), RpL K mg F H (kvs.map (·.2)) ds A →
    (∀ d, lookK (kvs.map (·.1)) ds x = some d → ∃ u C, valV kvs x = some u ∧ Rp K mg F H u d C) ∧ (lookK (kvs.map (·.1)) ds x = none → valV kvs x = none)
  | [], _, _, x, r => ⟨fun d q => (by simp [lookK] at q), fun _ => rfl⟩
  | p :: kvs, ds, A, x, r => by
    rw [List.map_cons] at r
    cases r with
    | @cons _ _ d ds _ _ r1 r2 =>
      have ih := lookK_rpl x r2
      rw [List.map_cons]
      unfold lookK
      by_cases e : p.1 = x
      · rw [if_pos e, valV_pos e]
        exact ⟨fun d' q => (by cases q; exact ⟨_, _, rfl, r1⟩), fun q => (by cases q)⟩
      · rw [if_neg e, valV_neg e]
        exact ih
theorem valX_valV (xs : List (NestedKey × Addr × V)) (k : NestedKey) : valX xs k = valV (xs.map fun x => (x.1, x.2.2)) k := by
  induction xs with
  | nil => rfl
  | cons x xs ih =>
    rw [List.map_cons]
    by_cases e : x.1 = k
    · rw [valV_pos (p := (x.1, x.2.2)) e]
      unfold valX
      rw [List.find?_cons, decide_eq_true e]
      rfl
    · rw [valV_neg (p := (x.1, x.2.2)) e, ← ih]
      unfold valX
      rw [List.find?_cons, decide_eq_false e]
/-- the two forms of a dict -/
inductive DcV (K : PySem.W.Frag) (mg : Md) (F H : Hp) (a : Addr) (ks : List D) : List V → Prop
  | k {kvs : List (Key × V)} : H a = some (.dK kvs) → keysK ks = some (kvs.map (·.1)) → (kvs.map (·.1)).Nodup → DcV K mg F H a ks (kvs.map (·.2))
  | t {xs : List (NestedKey × Addr × V)} : H a = some (DtO mg a xs) → dtOk a xs → keysN ks = some (xs.map (·.1)) → RpL K mg F H (xs.map fun x => .ref x.2.1) ks [] → DcV K mg F H a ks (xs.map (·.2.2))
theorem Rp.dic_inv {o : Bool} (f : ∀ a o, F a = some o → H a = some o) (r : Rp K mg F H v (.dic o ks ds) A) : ∃ a vs As, v = .ref a ∧ DcV K mg F H a ks vs ∧ RpL K mg F H vs ds As ∧ (o = true → A = a :: As ∧ F a = none) ∧ (o = false → A = [] ∧ As = []) := by
  cases r with
  | dKF e z h => exact ⟨_, _, [], rfl, .k (f _ _ e) z.1 z.2, h, fun q => (by cases q), fun _ => ⟨rfl, rfl⟩⟩
  | dKO e e2 z h => exact ⟨_, _, _, rfl, .k e z.1 z.2, h, fun _ => ⟨rfl, e2⟩, fun q => (by cases q)⟩
  | dTF e ok z hk h => exact ⟨_, _, [], rfl, .t (f _ _ e) ok z hk, h, fun q => (by cases q), fun _ => ⟨rfl, rfl⟩⟩
  | dTO e e2 ok z hk h => exact ⟨_, _, _, rfl, .t e ok z hk, h, fun _ => ⟨rfl, e2⟩, fun q => (by cases q)⟩
theorem keysN_keys (f : ∀ a o, F a = some o → H a = some o) : ∀ {xs : List (NestedKey × Addr × V)} {ks : List D} {A : List Addr}, keysN ks = some (xs.map (·.1)) → RpL K mg F H (xs.map fun x => .ref x.2.1) ks A → dtKeys K H xs
  | [], _, _, _, _ => fun _ m => by cases m
  | x :: xs, ks, _, e, r => by
    rw [List.map_cons] at r
    cases r with
    | @cons _ _ d ds _ _ r1 r2 =>
      unfold keysN at e
      cases q1 : keyN d with
      | none => rw [q1] at e; cases e
      | some k1 =>
        cases q2 : keysN ds with
        | none => rw [q1, q2] at e; cases e
        | some ks' =>
          rw [q1, q2] at e
          have e' : k1 :: ks' = x.1 :: xs.map (·.1) := Option.some.inj e
          injection e' with e1 e2
          intro y m
          rcases List.mem_cons.mp m with q | m
          · subst q
            rw [← e1]
            exact Rp.ky f q1 r1
          · exact keysN_keys f (q2.trans (by rw [e2])) r2 y m
theorem keysK_nil (e : keysK ks = some []) : ks = [] := by
  cases ks with
  | nil => rfl
  | cons d ds =>
    unfold keysK at e
    split at e
    · cases e
    · cases e
theorem keysTN : ∀ {ks : List D} {xs : List NestedKey}, keysT ks = some xs → keysN ks = some xs ∧ ∀ x ∈ xs, x.depth ≤ 8
  | [], _, e => by cases e; exact ⟨rfl, fun _ m => by cases m⟩
  | d :: ds, _, e => by
    unfold keysT at e
    split at e
    · rename_i k ks q1 q2
      cases e
      obtain ⟨h1, h2, _⟩ := keyT_some q1
      obtain ⟨h3, h4⟩ := keysTN q2
      refine ⟨by unfold keysN; rw [h1, h3], fun x m => ?_⟩
      rcases List.mem_cons.mp m with z | m
      · subst z; exact h2
      · exact h4 x m
    · cases e
theorem keysKT {xs : List Key} {ys : List NestedKey} (e1 : keysK ks = some xs) (e2 : keysT ks = some ys) : ks = [] := by
  cases ks with
  | nil => rfl
  | cons d ds =>
    unfold keysT at e2
    split at e2
    · rename_i k _ q1 _
      obtain ⟨_, _, _, z⟩ := keyT_some q1
      subst z
      unfold keysK at e1
      split at e1
      · rename_i q _; cases q
      · cases e1
    · cases e2
theorem keysK_refs : ∀ {xs : List (NestedKey × Addr × V)} {ys : List Key} {ks : List D} {A : List Addr}, keysK ks = some ys → RpL K mg F H (xs.map fun x => .ref x.2.1) ks A → xs = []
  | [], _, _, _, _, _ => rfl
  | x :: xs, ys, ks, A, e, r => by
    rw [List.map_cons] at r
    cases r with
    | @cons _ _ d ds _ _ r1 r2 =>
      exfalso
      unfold keysK at e
      split at e
      · rename_i k _ q _
        have := keyK_kV q r1
        cases k <;> cases this
      · cases e
theorem dGet_some {o : Option D} (e : dGet ks ds k = some o) : (∃ x xs, keyK k = some x ∧ keysK ks = some xs ∧ o = lookK xs ds x) ∨ (∃ x xs, keyT k = some x ∧ keysT ks = some xs ∧ o = lookK xs ds x) := by
  unfold dGet at e
  split at e
  · rename_i x ex
    split at e
    · rename_i xs exs; cases e; exact .inl ⟨x, xs, ex, exs, rfl⟩
    · cases e
  · split at e
    · rename_i x ex
      split at e
      · rename_i xs exs; cases e; exact .inr ⟨x, xs, ex, exs, rfl⟩
      · cases e
    · cases e
/-- a dict's look-up -/
theorem dic_get {o : Option D} (f : ∀ a o, F a = some o → H a = some o) (D : DcV K mg F H a ks vs) (r : RpL K mg F H vs ds A) (ry : Rp K mg F H y k B) (e : dGet ks ds k = some o) :
    ∃ ov, YGet K mg H a y ov ∧ (o = none → ov = none) ∧ ∀ d, o = some d → ∃ u C, ov = some u ∧ Rp K mg F H u d C := by
  rcases dGet_some e with ⟨x, xs, ex, exs, eo⟩ | ⟨x, xs, ex, exs, eo⟩
  · subst eo
    have ey := keyK_kV ex ry
    cases D with
    | @k kvs hd hk _ =>
      rw [hk] at exs
      cases exs
      obtain ⟨h1, h2⟩ := lookK_rpl x r
      exact ⟨valV kvs x, .inl (.inl ⟨kvs, x, .inl hd, ey, rfl⟩), h2, h1⟩
    | @t ys hd ok hk hr => exact absurd (keysK_refs exs hr) ok.2.2.2.2
  · subst eo
    obtain ⟨ek, ed, zs, ez⟩ := keyT_some ex
    subst ez
    obtain ⟨b, eb⟩ := ry.tup_ref
    have ky := Rp.ky f ek ry
    cases D with
    | @k kvs hd hk _ =>
      have q := keysKT hk exs
      subst q
      cases exs
      cases kvs with
      | cons p kvs => cases hk
      | nil => exact ⟨none, .inr ⟨[], x, b, .e hd, eb, ky, ed, rfl⟩, fun _ => rfl, fun d q => (by simp [lookK] at q)⟩
    | @t ys hd ok hk hr =>
      have z := (keysTN exs).1
      rw [hk] at z
      cases z
      have r' : RpL K mg F H ((ys.map fun x => (x.1, x.2.2)).map (·.2)) ds A := by rw [List.map_map]; exact r
      have hh := lookK_rpl x r'
      rw [List.map_map] at hh
      refine ⟨valX ys x, .inr ⟨ys, x, b, .o hd ok (keysN_keys f hk hr), eb, ky, ed, rfl⟩, fun q => ?_, fun d q => ?_⟩
      · rw [valX_valV]; exact hh.2 q
      · rw [valX_valV]; exact hh.1 d q
end
/-! ### the operators' rules -/
section
variable {X : Cx} {mg : Md} {k : Nat}
theorem y_at {pins : List (Addr × Obj)} {σ : L2.St} {H : Hp} {s : Shared} {a : Addr} {y : V} {o : Option V} (hp : mg.P = X.prog) (hw : mg.w = X.w) (I : Inv X pins σ H s) (g : YGet X.K mg H a y o) :
    s.TypeIs (.ref a) "dict" ∧ (∀ b, Value.ref a = .ref b → ∃ ob, s.heap.get? b = some ob ∧ ob.dict = none) ∧ (a == sysModules) = false := by
  obtain ⟨f, P, w⟩ := mg
  cases hp
  cases hw
  rcases g with g | ⟨xs, nk, b, D, _⟩
  · refine isD_at I ?_
    rcases g with ⟨kvs, k, e, _⟩ | ⟨kvs, k, b, e, _⟩
    · exact .inl ⟨kvs, e⟩
    · exact .inr ⟨kvs, e⟩
  · obtain ⟨ys, hall, dd, _, hda, _⟩ := dt_at I D
    refine ⟨dd.typeIs, fun b q => ?_, hda⟩
    cases q
    obtain ⟨ob, _, _, h1, h2, _⟩ := dd
    exact ⟨ob, h1, h2.2.1⟩
def rIxD (K : PySem.W.Frag) (mg : Md) : R2 := fun x y H Q => ∃ a v, x = .ref a ∧ YGet K mg H a y (some v) ∧ Q v H
theorem ix_dic (hr : Room k X.A) (hp : mg.P = X.prog) (hw : mg.w = X.w) : IxR X (rIxD X.K mg) := by
  intro value slice pins s σ H x y v u Q I rx ry h hs
  obtain ⟨a, z, rfl, g, q⟩ := h
  obtain rfl : v = Value.ref a := rx
  have ty := (y_at hp hw I g).1
  refine tail_any ty slot_dict_getitem.lookup ?_ hs
  obtain ⟨f, P, w⟩ := mg
  cases hp
  cases hw
  rcases g with g | ⟨xs, nk, b, D, rfl, ky, hd, e⟩
  · exact d_getItem (hu_of hr) I g ry fun w' s' I' rw' => ⟨_, H, I', rw', q⟩
  · obtain rfl : u = Value.ref b := ry
    exact y_getItem hr I D ky hd e.symm fun w' s' I' rw' => ⟨_, H, I', rw', q⟩
def rInD (K : PySem.W.Frag) (mg : Md) : R2 := fun x y H Q => ∃ a o, y = .ref a ∧ YGet K mg H a x o ∧ Q (.bl o.isSome) H
theorem op_inD (hr : Room k X.A) (hp : mg.P = X.prog) (hw : mg.w = X.w) : OpR X (compareOp .In) (rInD X.K mg) := by
  intro pins s σ H x y v u Q I rx ry h
  obtain ⟨a, o, rfl, g, q⟩ := h
  obtain rfl : u = Value.ref a := ry
  obtain ⟨f, P, w⟩ := mg
  cases hp
  cases hw
  rcases g with g | ⟨xs, nk, b, D, rfl, ky, hd, e⟩
  · exact d_in (hu_of hr) I g rx fun s' I' => ⟨.bl _, H, I', rfl, q⟩
  · obtain rfl : v = Value.ref b := rx
    subst e
    exact y_in hr I D ky hd fun s' I' => ⟨.bl _, H, I', rfl, q⟩
def rNotInD (K : PySem.W.Frag) (mg : Md) : R2 := fun x y H Q => ∃ a o, y = .ref a ∧ YGet K mg H a x o ∧ Q (.bl (!o.isSome)) H
theorem op_notInD (hr : Room k X.A) (hp : mg.P = X.prog) (hw : mg.w = X.w) : OpR X (compareOp .NotIn) (rNotInD X.K mg) := by
  intro pins s σ H x y v u Q I rx ry h
  obtain ⟨a, o, rfl, g, q⟩ := h
  obtain rfl : u = Value.ref a := ry
  obtain ⟨f, P, w⟩ := mg
  cases hp
  cases hw
  rcases g with g | ⟨xs, nk, b, D, rfl, ky, hd, e⟩
  · exact d_notIn (hu_of hr) I g rx fun s' I' => ⟨.bl _, H, I', rfl, q⟩
  · obtain rfl : v = Value.ref b := rx
    subst e
    exact y_notIn hr I D ky hd fun s' I' => ⟨.bl _, H, I', rfl, q⟩
def rGet1 (K : PySem.W.Frag) (mg : Md) : V → List V → Hp → VK → Prop := fun x xs H Q => ∃ a y o, x = .ref a ∧ xs = [y] ∧ YGet K mg H a y o ∧ Q (o.getD .non) H
theorem mt_get1 (hr : Room k X.A) (hp : mg.P = X.prog) (hw : mg.w = X.w) : MtR X "dict.get" (rGet1 X.K mg) := by
  intro pins s σ H x xs v us Q I rx rs h
  obtain ⟨a, y, o, rfl, rfl, g, q⟩ := h
  obtain rfl : v = Value.ref a := rx
  obtain ⟨u, rfl, ru⟩ := vals1 rs
  obtain ⟨f, P, w⟩ := mg
  cases hp
  cases hw
  rcases g with g | ⟨xs, nk, b, D, rfl, ky, hd, e⟩
  · exact d_get1 (hu_of hr) I g ru fun w' s' I' rw' => ⟨_, H, I', rw', q⟩
  · obtain rfl : u = Value.ref b := ru
    subst e
    exact y_get1 hr I D ky hd fun w' s' I' rw' => ⟨_, H, I', rw', q⟩
def rGet2 (K : PySem.W.Frag) (mg : Md) : V → List V → Hp → VK → Prop := fun x xs H Q => ∃ a y z o, x = .ref a ∧ xs = [y, z] ∧ YGet K mg H a y o ∧ Q (o.getD z) H
theorem mt_get2 (hr : Room k X.A) (hp : mg.P = X.prog) (hw : mg.w = X.w) : MtR X "dict.get" (rGet2 X.K mg) := by
  intro pins s σ H x xs v us Q I rx rs h
  obtain ⟨a, y, z, o, rfl, rfl, g, q⟩ := h
  obtain rfl : v = Value.ref a := rx
  obtain ⟨u, u2, rfl, ru, ru2⟩ := vals2 rs
  obtain ⟨f, P, w⟩ := mg
  cases hp
  cases hw
  rcases g with g | ⟨xs, nk, b, D, rfl, ky, hd, e⟩
  · exact d_get2 (hu_of hr) I g ru ru2 fun w' s' I' rw' => ⟨_, H, I', rw', q⟩
  · obtain rfl : u = Value.ref b := ru
    subst e
    exact y_get2 hr I D ky hd ru2 fun w' s' I' rw' => ⟨_, H, I', rw', q⟩
end
end Dm

namespace Dm
open PySem PySem.Spec L2
open PyProof.Rows hiding St
/-! operations on data, and that the operators keep to them -/
section
variable {K : PySem.W.Frag} {mg : Md} {F H F' H' : Hp} {O A B C : List Addr} {v : V} {d : D} {vs ws : List V} {ds es : List D} {a : Addr} {b : Bool} {i : Nat}
theorem RpL.length : ∀ {ds : List D} {vs : List V} {A : List Addr}, RpL K mg F H vs ds A → vs.length = ds.length
  | _, _, _, .nil => rfl
  | _, _, _, .cons _ h => by rw [List.length_cons, List.length_cons, RpL.length h]
theorem RpL.append : ∀ {ds : List D} {vs : List V} {A : List Addr}, RpL K mg F H vs ds A → RpL K mg F H ws es B → RpL K mg F H (vs ++ ws) (ds ++ es) (A ++ B)
  | _, _, _, .nil, h => h
  | _, _, _, .cons h1 h2, h => by rw [List.append_assoc]; exact .cons h1 (RpL.append h2 h)
theorem RpL.get : ∀ {ds : List D} {vs : List V} {A : List Addr} {i : Nat} {d : D}, RpL K mg F H vs ds A → ds[i]? = some d → ∃ v B, vs[i]? = some v ∧ Rp K mg F H v d B ∧ ∀ b ∈ B, b ∈ A
  | _, _, _, _, _, .nil, e => by simp at e
  | _, _, _, 0, _, .cons h1 h2, e => by
    simp at e; subst e
    exact ⟨_, _, rfl, h1, fun b m => List.mem_append_left _ m⟩
  | _, _, _, i + 1, _, .cons h1 h2, e => by
    obtain ⟨v, B, e1, r, m⟩ := RpL.get (i := i) h2 (by simpa using e)
    exact ⟨v, B, by simpa using e1, r, fun b q => List.mem_append_right _ (m b q)⟩
theorem RpL.nilOf (h : RpL K mg F H vs ds A) (p : isFzL ds = true) : RpL K mg F H vs ds [] := by
  have q := h.fz p
  subst q
  exact h
theorem RpL.cons_nil (r : Rp K mg F H v d []) (h : RpL K mg F H vs ds []) : RpL K mg F H (v :: vs) (d :: ds) [] := .cons r h
theorem RpL.split {v : V} {d : D} (h : RpL K mg F H (v :: vs) (d :: ds) []) : Rp K mg F H v d [] ∧ RpL K mg F H vs ds [] := by
  generalize e : ([] : List Addr) = A at h
  cases h with
  | @cons _ _ _ _ O1 O2 h1 h2 =>
    obtain ⟨e1, e2⟩ := List.append_eq_nil_iff.mp e.symm
    subst e1 e2
    exact ⟨h1, h2⟩
theorem RpL.take : ∀ (n : Nat) {ds : List D} {vs : List V}, RpL K mg F H vs ds [] → RpL K mg F H (vs.take n) (ds.take n) []
  | 0, _, _, _ => by rw [List.take_zero, List.take_zero]; exact .nil
  | n + 1, [], [], h => h
  | n + 1, d :: ds, v :: vs, h => .cons_nil h.split.1 (RpL.take n h.split.2)
  | n + 1, [], _ :: _, h => by have := h.length; simp at this
  | n + 1, _ :: _, [], h => by have := h.length; simp at this
theorem RpL.drop : ∀ (n : Nat) {ds : List D} {vs : List V}, RpL K mg F H vs ds [] → RpL K mg F H (vs.drop n) (ds.drop n) []
  | 0, _, _, h => h
  | n + 1, [], [], h => h
  | n + 1, d :: ds, v :: vs, h => RpL.drop n h.split.2
  | n + 1, [], _ :: _, h => by have := h.length; simp at this
  | n + 1, _ :: _, [], h => by have := h.length; simp at this
theorem RpL.rep (h : RpL K mg F H vs ds []) : ∀ n : Nat, RpL K mg F H (List.replicate n vs).flatten (List.replicate n ds).flatten []
  | 0 => .nil
  | n + 1 => by
    rw [List.replicate_succ, List.replicate_succ, List.flatten_cons, List.flatten_cons]
    exact h.append (RpL.rep h n)
theorem Rp.lst_inv (f : ∀ a o, F a = some o → H a = some o) (r : Rp K mg F H v (.lst b ds) A) : ∃ a vs B, v = .ref a ∧ H a = some (.lst vs) ∧ vs.length ≤ sizeLine ∧ RpL K mg F H vs ds B ∧ ∀ x ∈ B, x ∈ A := by
  cases r with
  | lstF e z h => exact ⟨_, _, _, rfl, f _ _ e, z, h, fun _ m => m⟩
  | lstO e _ z h => exact ⟨_, _, _, rfl, e, z, h, fun _ m => List.mem_cons_of_mem _ m⟩
theorem Rp.scr_inv (f : ∀ a o, F a = some o → H a = some o) (r : Rp K mg F H v (.scr ds) A) : ∃ a vs, v = .ref a ∧ SqL K H a vs ∧ vs.length ≤ sizeLine ∧ RpL K mg F H vs ds [] := by
  cases r with
  | scr e z h => exact ⟨_, _, rfl, SqL.up f e, z, h⟩
theorem Rp.tup_inv (f : ∀ a o, F a = some o → H a = some o) (r : Rp K mg F H v (.tup ds) A) : ∃ a vs, v = .ref a ∧ SqT K F a vs ∧ SqT K H a vs ∧ vs.length ≤ sizeLine ∧ RpL K mg F H vs ds A := by
  cases r with
  | tup e z h => exact ⟨_, _, rfl, e, SqT.up f e, z, h⟩
/-- a new list, a new tuple, of frozen items -/
theorem mk_lst {Q : VK} {p : Addr} (f : ∀ a o, F a = some o → H a = some o) (hp : H p = none) (z : vs.length ≤ sizeLine) (r : RpL K mg F H vs ds [])
    (hQ : ∀ v F' H' C, Qx F H F' H' → C.Nodup → (∀ c ∈ C, H c = none) → Rp K mg F' H' v (.lst true ds) C → Q v H') : Q (.ref p) (upd H p (.lst vs)) := by
  have q : Qx F H F (upd H p (.lst vs)) := Qx.new f hp
  refine hQ _ F _ [p] q (by simp) (fun c m => by simp at m; subst m; exact hp) ?_
  exact .lstO upd_same (none_of_le f hp) z (q.rpl r)
theorem mk_tup {Q : VK} {p : Addr} (f : ∀ a o, F a = some o → H a = some o) (hp : H p = none) (z : vs.length ≤ sizeLine) (r : RpL K mg F H vs ds [])
    (hQ : ∀ v F' H' C, Qx F H F' H' → C.Nodup → (∀ c ∈ C, H c = none) → Rp K mg F' H' v (.tup ds) C → Q v H') : Q (.ref p) (upd H p (.tup vs)) := by
  have q : Qx F H (upd F p (.tup vs)) (upd H p (.tup vs)) := Qx.newF f hp
  exact hQ _ _ _ [] q List.nodup_nil (fun c m => by cases m) (.tup (SqT.of upd_same) z (q.rpl r))
theorem give {Q : VK} {v : V} {d : D} (f : ∀ a o, F a = some o → H a = some o) (r : Rp K mg F H v d []) (hQ : ∀ v F' H' C, Qx F H F' H' → C.Nodup → (∀ c ∈ C, H c = none) → Rp K mg F' H' v d C → Q v H') : Q v H :=
  hQ v F H [] (Qx.refl f) List.nodup_nil (fun c m => by cases m) r
end

/-! ### numbers -/
def small (i : Int) : Bool := decide (-(2 ^ 64) < i ∧ i < 2 ^ 64)
def opAdd : D → D → Option D
  | .int i, .int j => some (.int (i + j))
  | .str x, .str y => if x.length + y.length ≤ sizeLine then some (.str (x ++ y)) else none
  | .lst _ xs, .lst _ ys => if xs.length + ys.length ≤ sizeLine ∧ isFzL xs = true ∧ isFzL ys = true then some (.lst true (xs ++ ys)) else none
  | .tup xs, .tup ys => if xs.length + ys.length ≤ sizeLine ∧ isFzL xs = true ∧ isFzL ys = true then some (.tup (xs ++ ys)) else none
  | _, _ => none
def opSub : D → D → Option D
  | .int i, .int j => some (.int (i - j))
  | _, _ => none
def opMul : D → D → Option D
  | .int i, .int j => if small i = true ∨ small j = true then some (.int (i * j)) else none
  | .lst _ xs, .int k => if -(2 ^ 63) ≤ k ∧ k < 2 ^ 63 ∧ xs.length * k.toNat ≤ sizeLine ∧ isFzL xs = true then some (.lst true (List.replicate k.toNat xs).flatten) else none
  | _, _ => none
def opFDiv : D → D → Option D
  | .int i, .int j => if j ≠ 0 ∧ j.natAbs < 1073741824 then some (.int (i.fdiv j)) else none
  | _, _ => none
def opMod : D → D → Option D
  | .int i, .int j => if j ≠ 0 then some (.int (i.fmod j)) else none
  | _, _ => none
def opPow : D → D → Option D
  | .int i, .int j => if 0 ≤ j ∧ j ≤ 1000000 ∧ i.natAbs < 2 ^ 64 then some (.int (i ^ j.toNat)) else none
  | _, _ => none
def opNeg : D → Option D
  | .int i => some (.int (-i))
  | _ => none
def cmpI (p : Int → Int → Bool) : D → D → Option D
  | .int i, .int j => some (.bl (p i j))
  | _, _ => none
def opLt : D → D → Option D
  | .int i, .int j => some (.bl (decide (i < j)))
  | .str x, .str y => some (.bl (decide (x.cps.toList < y.cps.toList)))
  | _, _ => none
def opLe : D → D → Option D := cmpI fun i j => decide (i ≤ j)
def opGt : D → D → Option D := cmpI fun i j => decide (j < i)
def opGe : D → D → Option D := cmpI fun i j => decide (j ≤ i)
def okEq (d : D) : Bool := isDat d && SeqAt.shaped (toP d)
def opEq : D → D → Option D
  | .str x, .str y => some (.bl (x == y))
  | x, y => if okEq x = true ∧ okEq y = true then some (.bl (PyData.eqv (toP x) (toP y))) else none
def opNe : D → D → Option D
  | .str x, .str y => some (.bl (!(x == y)))
  | x, y => if okEq x = true ∧ okEq y = true then some (.bl (!PyData.eqv (toP x) (toP y))) else none
def isNon : D → Bool
  | .non => true
  | _ => false
def opIs : D → D → Option D
  | x, .non => some (.bl (isNon x))
  | _, _ => none
def opIsNot : D → D → Option D
  | x, .non => some (.bl (!isNon x))
  | _, _ => none
/-- flat data as values -/
def flat : D → Option V
  | .non => some .non
  | .bl b => some (.bl b)
  | .int i => some (.int i)
  | .str x => some (.str x)
  | _ => none
def flatL : List D → Option (List V)
  | [] => some []
  | x :: xs => match flat x, flatL xs with | some v, some vs => some (v :: vs) | _, _ => none
def inSeq (x : D) (ys : List D) : Option Bool := match flat x, flatL ys with | some v, some vs => some (inV v vs) | _, _ => none
def opIn : D → D → Option D
  | x, .lst _ ys => (inSeq x ys).map .bl
  | x, .tup ys => (inSeq x ys).map .bl
  | x, .scr ys => (inSeq x ys).map .bl
  | x, .dic _ ks ds => (dGet ks ds x).map fun o => .bl o.isSome
  | .str x, .str y => some (.bl (!(Builtin.Str.occurrences y x 0 y.length 1).isEmpty))
  | _, _ => none
def opNotIn : D → D → Option D
  | x, .lst _ ys => (inSeq x ys).map fun b => .bl (!b)
  | x, .tup ys => (inSeq x ys).map fun b => .bl (!b)
  | x, .scr ys => (inSeq x ys).map fun b => .bl (!b)
  | x, .dic _ ks ds => (dGet ks ds x).map fun o => .bl (!o.isSome)
  | .str x, .str y => some (.bl (!(!(Builtin.Str.occurrences y x 0 y.length 1).isEmpty)))
  | _, _ => none

section
variable {K : PySem.W.Frag} {mg : Md} {F H F' H' : Hp} {O A B C : List Addr} {v : V} {d : D} {vs ws : List V} {ds es : List D} {a : Addr} {b : Bool}
theorem Rp.int_inv {i : Int} (r : Rp K mg F H v (.int i) A) : v = .int i := by cases r; rfl
theorem Rp.str_inv {i : Str} (r : Rp K mg F H v (.str i) A) : v = .str i := by cases r; rfl
theorem Rp.bl_inv {i : Bool} (r : Rp K mg F H v (.bl i) A) : v = .bl i := by cases r; rfl
theorem Rp.non_inv (r : Rp K mg F H v .non A) : v = .non := by cases r; rfl
theorem small_iff {i : Int} : small i = true ↔ -(2 ^ 64) < i ∧ i < 2 ^ 64 := by unfold small; exact decide_eq_true_iff
theorem Rp.flat_inv : ∀ {d : D} {v w : V} {A : List Addr}, Rp K mg F H v d A → flat d = some w → v = w ∧ flatV v = true
  | .non, _, _, _, r, e => by cases e; cases r; exact ⟨rfl, rfl⟩
  | .bl b, _, _, _, r, e => by cases e; cases r; exact ⟨rfl, rfl⟩
  | .int i, _, _, _, r, e => by cases e; cases r; exact ⟨rfl, rfl⟩
  | .str i, _, _, _, r, e => by cases e; cases r; exact ⟨rfl, rfl⟩
  | .tup _, _, _, _, _, e => by cases e
  | .lst _ _, _, _, _, _, e => by cases e
  | .scr _, _, _, _, _, e => by cases e
  | .dic _ _ _, _, _, _, _, e => by cases e
  | .fn _, _, _, _, _, e => by cases e
  | .ty _, _, _, _, _, e => by cases e
  | .ins _ _ _ _, _, _, _, _, e => by cases e
theorem RpL.flat_inv : ∀ {ds : List D} {vs ws : List V} {A : List Addr}, RpL K mg F H vs ds A → flatL ds = some ws → vs = ws ∧ vs.all flatV = true
  | [], _, _, _, r, e => by cases e; cases r; exact ⟨rfl, rfl⟩
  | d :: ds, _, ws, _, .cons r1 r2, e => by
    unfold flatL at e
    split at e
    · rename_i w ws' e1 e2
      cases e
      obtain ⟨p1, p2⟩ := r1.flat_inv e1
      obtain ⟨p3, p4⟩ := RpL.flat_inv r2 e2
      subst p1 p3
      exact ⟨rfl, by rw [List.all_cons, p2, p4]; rfl⟩
    · cases e
theorem inSeq_some {x : D} {ys : List D} {c : Bool} (e : inSeq x ys = some c) : ∃ w ws, flat x = some w ∧ flatL ys = some ws ∧ c = inV w ws := by
  unfold inSeq at e
  split at e
  · rename_i w ws e1 e2
    cases e
    exact ⟨w, ws, e1, e2, rfl⟩
  · cases e
end
abbrev rAddX (K : PySem.W.Frag) : R2 := fun x y H Q => (rI0 fun i j => V.int (i + j)) x y H Q ∨ ((∃ i j, x = .str i ∧ y = .str j ∧ i.length + j.length ≤ sizeLine ∧ Q (.str (i ++ j)) H) ∨ (rCat x y H Q ∨ rCatA K x y H Q))
theorem op_addX {X : Cx} : OpR X (binaryOp .Add) (rAddX X.K) := op_add.or (op_add_str.or (op_cat.or op_catA))
section
variable {K : PySem.W.Frag} {mg : Md}
theorem ok_add : R2ok K mg (rAddX K) opAdd := by
  intro F H x y dx dy d A B e f rx ry Q hQ
  cases dx <;> cases dy <;> simp only [opAdd] at e <;> try (cases e; done)
  · cases e
    exact .inl ⟨_, _, rx.int_inv, ry.int_inv, give f (.int _) hQ⟩
  · split at e
    · cases e
      rename_i z
      exact .inr (.inl ⟨_, _, rx.str_inv, ry.str_inv, z, give f (.str _) hQ⟩)
    · cases e
  · split at e
    · cases e
      rename_i z
      obtain ⟨a, vs, _, e1, e2, z1, r1⟩ := rx.tup_inv f
      obtain ⟨b, ws, _, e3, e4, z2, r2⟩ := ry.tup_inv f
      have s1 := r1.nilOf z.2.1
      have s2 := r2.nilOf z.2.2
      have l1 := s1.length
      have l2 := s2.length
      refine .inr (.inr (.inr ⟨a, b, vs, ws, by assumption, by assumption, e2, e4, by omega, fun h0 => ?_, fun h0 h1 => ?_, fun _ _ p hp => ?_⟩))
      · subst h0
        have e0 : (_ : List D) = [] := List.length_eq_zero_iff.mp (l1.symm.trans rfl)
        refine give f (d := .tup _) ?_ hQ
        rw [e0, List.nil_append]
        exact .tup e3 z2 s2
      · subst h1
        have e0 : (_ : List D) = [] := List.length_eq_zero_iff.mp (l2.symm.trans rfl)
        refine give f (d := .tup _) ?_ hQ
        rw [e0, List.append_nil]
        exact .tup e1 z1 s1
      · exact mk_tup f hp (by rw [List.length_append]; omega) (s1.append s2) hQ
    · cases e
  · split at e
    · cases e
      rename_i z
      obtain ⟨a, vs, _, _, e1, z1, r1, _⟩ := rx.lst_inv f
      obtain ⟨b, ws, _, _, e2, z2, r2, _⟩ := ry.lst_inv f
      have s1 := r1.nilOf z.2.1
      have s2 := r2.nilOf z.2.2
      have l1 := s1.length
      have l2 := s2.length
      exact .inr (.inr (.inl ⟨a, b, vs, ws, by assumption, by assumption, e1, e2, by omega, fun p hp => mk_lst f hp (by rw [List.length_append]; omega) (s1.append s2) hQ⟩))
    · cases e
theorem ok_sub : R2ok K mg (rI0 fun i j => V.int (i - j)) opSub := by
  intro F H x y dx dy d A B e f rx ry Q hQ
  cases dx <;> cases dy <;> simp only [opSub] at e <;> try (cases e; done)
  cases e
  exact ⟨_, _, rx.int_inv, ry.int_inv, give f (.int _) hQ⟩
end
abbrev rMulX : R2 := fun x y H Q => (rI CMul fun i j => V.int (i * j)) x y H Q ∨ rRep x y H Q
theorem op_mulX {X : Cx} : OpR X (binaryOp .Mult) rMulX := op_mul.or op_rep
section
variable {K : PySem.W.Frag} {mg : Md}
theorem ok_mul : R2ok K mg rMulX opMul := by
  intro F H x y dx dy d A B e f rx ry Q hQ
  cases dx <;> cases dy <;> simp only [opMul] at e <;> try (cases e; done)
  · split at e
    · cases e
      rename_i z
      refine .inl ⟨_, _, rx.int_inv, ry.int_inv, ?_, give f (.int _) hQ⟩
      rcases z with z | z
      · exact .inl (small_iff.mp z)
      · exact .inr (small_iff.mp z)
    · cases e
  · split at e
    · cases e
      rename_i z
      obtain ⟨a, vs, _, _, e1, z1, r1, _⟩ := rx.lst_inv f
      have s1 := r1.nilOf z.2.2.2
      have l1 := s1.length
      refine .inr ⟨a, _, vs, by assumption, ry.int_inv, e1, z.1, z.2.1, by rw [l1]; exact z.2.2.1, fun p hp => mk_lst f hp ?_ (s1.rep _) hQ⟩
      rw [(s1.rep _).length]
      have := z.2.2.1
      rw [List.length_flatten, List.map_replicate, List.sum_replicate_nat]
      rw [Nat.mul_comm]; exact this
    · cases e
theorem ok_fdiv : R2ok K mg (rI CDivN fun i j => V.int (i.fdiv j)) opFDiv := by
  intro F H x y dx dy d A B e f rx ry Q hQ
  cases dx <;> cases dy <;> simp only [opFDiv] at e <;> try (cases e; done)
  split at e
  · cases e
    rename_i z
    exact ⟨_, _, rx.int_inv, ry.int_inv, z, give f (.int _) hQ⟩
  · cases e
theorem ok_mod : R2ok K mg (rI (fun _ j => j ≠ 0) fun i j => V.int (i.fmod j)) opMod := by
  intro F H x y dx dy d A B e f rx ry Q hQ
  cases dx <;> cases dy <;> simp only [opMod] at e <;> try (cases e; done)
  split at e
  · cases e
    rename_i z
    exact ⟨_, _, rx.int_inv, ry.int_inv, z, give f (.int _) hQ⟩
  · cases e
theorem ok_pow : R2ok K mg (rI CPow fun i j => V.int (i ^ j.toNat)) opPow := by
  intro F H x y dx dy d A B e f rx ry Q hQ
  cases dx <;> cases dy <;> simp only [opPow] at e <;> try (cases e; done)
  split at e
  · cases e
    rename_i z
    exact ⟨_, _, rx.int_inv, ry.int_inv, z, give f (.int _) hQ⟩
  · cases e
theorem ok_neg : R1ok K mg (rU fun i => V.int (-i)) opNeg := by
  intro F H x dx d A e f rx Q hQ
  cases dx <;> simp only [opNeg] at e <;> try (cases e; done)
  cases e
  exact ⟨_, rx.int_inv, give f (.int _) hQ⟩
theorem ok_cmpI (p : Int → Int → Bool) : R2ok K mg (rI0 fun i j => V.bl (p i j)) (cmpI p) := by
  intro F H x y dx dy d A B e f rx ry Q hQ
  cases dx <;> cases dy <;> simp only [cmpI] at e <;> try (cases e; done)
  cases e
  exact ⟨_, _, rx.int_inv, ry.int_inv, give f (.bl _) hQ⟩
theorem ok_le : R2ok K mg (rI0 fun i j => V.bl (decide (i ≤ j))) opLe := ok_cmpI _
theorem ok_gt : R2ok K mg (rI0 fun i j => V.bl (decide (j < i))) opGt := ok_cmpI _
theorem ok_ge : R2ok K mg (rI0 fun i j => V.bl (decide (j ≤ i))) opGe := ok_cmpI _
end
abbrev rLtX : R2 := fun x y H Q => (rI0 fun i j => V.bl (decide (i < j))) x y H Q ∨ ∃ i j : Str, x = .str i ∧ y = .str j ∧ Q (.bl (decide (i.cps.toList < j.cps.toList))) H
theorem op_ltX {X : Cx} : OpR X (compareOp .Lt) rLtX := op_lt.or op_lt_str
section
variable {K : PySem.W.Frag} {mg : Md}
theorem ok_lt : R2ok K mg rLtX opLt := by
  intro F H x y dx dy d A B e f rx ry Q hQ
  cases dx <;> cases dy <;> simp only [opLt] at e <;> try (cases e; done)
  · cases e
    exact .inl ⟨_, _, rx.int_inv, ry.int_inv, give f (.bl _) hQ⟩
  · cases e
    exact .inr ⟨_, _, rx.str_inv, ry.str_inv, give f (.bl _) hQ⟩
abbrev rEqX (K : PySem.W.Frag) : R2 := fun x y H Q => rEq x y H Q ∨ rEqD K x y H Q
abbrev rNeX (K : PySem.W.Frag) : R2 := fun x y H Q => rNe x y H Q ∨ rNeD K x y H Q
theorem okEq_iff {d : D} : okEq d = true ↔ isDat d = true ∧ SeqAt.shaped (toP d) = true := by unfold okEq; exact Bool.and_eq_true_iff
theorem ok_eq : R2ok K mg (rEqX K) opEq := by
  intro F H x y dx dy d A B e f rx ry Q hQ
  unfold opEq at e
  split at e
  · cases e
    refine .inl ⟨by rw [rx.str_inv, ry.str_inv]; rfl, ?_⟩
    rw [rx.str_inv, ry.str_inv, dec_str]
    exact give f (.bl _) hQ
  · split at e
    · cases e
      rename_i z
      obtain ⟨p1, p2⟩ := okEq_iff.mp z.1
      obtain ⟨p3, p4⟩ := okEq_iff.mp z.2
      exact .inr ⟨_, _, rx.dp f p1, ry.dp f p3, p2, p4, give f (.bl _) hQ⟩
    · cases e
theorem ok_ne : R2ok K mg (rNeX K) opNe := by
  intro F H x y dx dy d A B e f rx ry Q hQ
  unfold opNe at e
  split at e
  · cases e
    refine .inl ⟨by rw [rx.str_inv, ry.str_inv]; rfl, ?_⟩
    rw [rx.str_inv, ry.str_inv, dec_str]
    exact give f (.bl _) hQ
  · split at e
    · cases e
      rename_i z
      obtain ⟨p1, p2⟩ := okEq_iff.mp z.1
      obtain ⟨p3, p4⟩ := okEq_iff.mp z.2
      exact .inr ⟨_, _, rx.dp f p1, ry.dp f p3, p2, p4, give f (.bl _) hQ⟩
    · cases e
theorem Rp.isNon_iff {F H : Hp} {v : V} {d : D} {A : List Addr} (r : Rp K mg F H v d A) : decide (v = .non) = isNon d := by
  cases r <;> simp [isNon]
theorem ok_is : R2ok K mg (fun x y H Q => y = .non ∧ Q (.bl (decide (x = .non))) H) opIs := by
  intro F H x y dx dy d A B e f rx ry Q hQ
  cases dy <;> simp only [opIs] at e <;> try (cases e; done)
  cases e
  refine ⟨ry.non_inv, ?_⟩
  rw [rx.isNon_iff]
  exact give f (.bl _) hQ
theorem ok_isnot : R2ok K mg (fun x y H Q => y = .non ∧ Q (.bl (!decide (x = .non))) H) opIsNot := by
  intro F H x y dx dy d A B e f rx ry Q hQ
  cases dy <;> simp only [opIsNot] at e <;> try (cases e; done)
  cases e
  refine ⟨ry.non_inv, ?_⟩
  rw [rx.isNon_iff]
  exact give f (.bl _) hQ
end
abbrev rInX (K : PySem.W.Frag) (mg : Md) : R2 := fun x y H Q => (rIn K false x y H Q ∨ ∃ i j : Str, x = .str i ∧ y = .str j ∧ Q (.bl (!(Builtin.Str.occurrences j i 0 j.length 1).isEmpty)) H) ∨ rInD K mg x y H Q
theorem op_inX {X : Cx} {mg : Md} {k : Nat} (hr : Room k X.A) (hp : mg.P = X.prog) (hw : mg.w = X.w) : OpR X (compareOp .In) (rInX X.K mg) := (op_in_seq.or op_in_str).or (op_inD hr hp hw)
abbrev rNotInX (K : PySem.W.Frag) (mg : Md) : R2 := fun x y H Q => (rIn K true x y H Q ∨ ∃ i j : Str, x = .str i ∧ y = .str j ∧ Q (.bl (!(!(Builtin.Str.occurrences j i 0 j.length 1).isEmpty))) H) ∨ rNotInD K mg x y H Q
theorem op_notInX {X : Cx} {mg : Md} {k : Nat} (hr : Room k X.A) (hp : mg.P = X.prog) (hw : mg.w = X.w) : OpR X (compareOp .NotIn) (rNotInX X.K mg) := (op_notIn_seq.or op_notin_str).or (op_notInD hr hp hw)
section
variable {K : PySem.W.Frag} {mg : Md}
theorem in_core {F H : Hp} {x y : V} {dx : D} {ys : List D} {A : List Addr} {c : Bool} (neg : Bool) (e : inSeq dx ys = some c) (f : ∀ a o, F a = some o → H a = some o) (rx : Rp K mg F H x dx A)
    {p : Addr} {vs : List V} {B' : List Addr} (ey : y = .ref p) (hs : SqL K H p vs ∨ SqT K H p vs) (rl : RpL K mg F H vs ys B') {Q : VK} (hQ : Q (.bl (if neg then !c else c)) H) : rIn K neg x y H Q := by
  obtain ⟨w, ws, e1, e2, e3⟩ := inSeq_some e
  subst e3
  obtain ⟨p1, p2⟩ := rx.flat_inv e1
  obtain ⟨p3, p4⟩ := rl.flat_inv e2
  subst p1 p3
  exact ⟨p, vs, ey, hs, p2, p4, hQ⟩
theorem ok_in : R2ok K mg (rInX K mg) opIn := by
  intro F H x y dx dy d A B e f rx ry Q hQ
  cases dy with
  | lst b ys =>
    obtain ⟨p, vs, _, ey, h1, _, rl, _⟩ := ry.lst_inv f
    cases dx <;> simp only [opIn] at e <;> (obtain ⟨c, ec, e'⟩ := Option.map_eq_some_iff.mp e) <;> (subst e') <;>
      exact .inl (.inl (in_core false ec f rx ey (.inl (SqL.of h1)) rl (give f (.bl _) hQ)))
  | tup ys =>
    obtain ⟨p, vs, ey, _, h1, _, rl⟩ := ry.tup_inv f
    cases dx <;> simp only [opIn] at e <;> (obtain ⟨c, ec, e'⟩ := Option.map_eq_some_iff.mp e) <;> (subst e') <;>
      exact .inl (.inl (in_core false ec f rx ey (.inr h1) rl (give f (.bl _) hQ)))
  | scr ys =>
    obtain ⟨p, vs, ey, h1, _, rl⟩ := ry.scr_inv f
    cases dx <;> simp only [opIn] at e <;> (obtain ⟨c, ec, e'⟩ := Option.map_eq_some_iff.mp e) <;> (subst e') <;>
      exact .inl (.inl (in_core false ec f rx ey (.inl h1) rl (give f (.bl _) hQ)))
  | str z =>
    cases dx <;> simp only [opIn] at e <;> try (cases e; done)
    cases e
    exact .inl (.inr ⟨_, _, rx.str_inv, ry.str_inv, give f (.bl _) hQ⟩)
  | dic o ks ds =>
    obtain ⟨a, vs, As, ey, Dc, rl, _, _⟩ := ry.dic_inv f
    have e' : (dGet ks ds dx).map (fun o => D.bl (o.isSome)) = some d := by cases dx <;> exact e
    obtain ⟨o, eo, e2⟩ := Option.map_eq_some_iff.mp e'
    subst e2
    obtain ⟨ov, g, h1, h2⟩ := dic_get f Dc rl rx eo
    refine .inr ⟨a, ov, ey, g, ?_⟩
    cases o with
    | none =>
      rw [h1 rfl]
      exact give f (.bl _) hQ
    | some d0 =>
      obtain ⟨u, C, e3, _⟩ := h2 d0 rfl
      rw [e3]
      exact give f (.bl _) hQ
  | _ => cases dx <;> simp only [opIn] at e <;> cases e
theorem ok_notIn : R2ok K mg (rNotInX K mg) opNotIn := by
  intro F H x y dx dy d A B e f rx ry Q hQ
  cases dy with
  | lst b ys =>
    obtain ⟨p, vs, _, ey, h1, _, rl, _⟩ := ry.lst_inv f
    cases dx <;> simp only [opNotIn] at e <;> (obtain ⟨c, ec, e'⟩ := Option.map_eq_some_iff.mp e) <;> (subst e') <;>
      exact .inl (.inl (in_core true ec f rx ey (.inl (SqL.of h1)) rl (give f (.bl _) hQ)))
  | tup ys =>
    obtain ⟨p, vs, ey, _, h1, _, rl⟩ := ry.tup_inv f
    cases dx <;> simp only [opNotIn] at e <;> (obtain ⟨c, ec, e'⟩ := Option.map_eq_some_iff.mp e) <;> (subst e') <;>
      exact .inl (.inl (in_core true ec f rx ey (.inr h1) rl (give f (.bl _) hQ)))
  | scr ys =>
    obtain ⟨p, vs, ey, h1, _, rl⟩ := ry.scr_inv f
    cases dx <;> simp only [opNotIn] at e <;> (obtain ⟨c, ec, e'⟩ := Option.map_eq_some_iff.mp e) <;> (subst e') <;>
      exact .inl (.inl (in_core true ec f rx ey (.inl h1) rl (give f (.bl _) hQ)))
  | str z =>
    cases dx <;> simp only [opNotIn] at e <;> try (cases e; done)
    cases e
    exact .inl (.inr ⟨_, _, rx.str_inv, ry.str_inv, give f (.bl _) hQ⟩)
  | dic o ks ds =>
    obtain ⟨a, vs, As, ey, Dc, rl, _, _⟩ := ry.dic_inv f
    have e' : (dGet ks ds dx).map (fun o => D.bl (!o.isSome)) = some d := by cases dx <;> exact e
    obtain ⟨o, eo, e2⟩ := Option.map_eq_some_iff.mp e'
    subst e2
    obtain ⟨ov, g, h1, h2⟩ := dic_get f Dc rl rx eo
    refine .inr ⟨a, ov, ey, g, ?_⟩
    cases o with
    | none =>
      rw [h1 rfl]
      exact give f (.bl _) hQ
    | some d0 =>
      obtain ⟨u, C, e3, _⟩ := h2 d0 rfl
      rw [e3]
      exact give f (.bl _) hQ
  | _ => cases dx <;> simp only [opNotIn] at e <;> cases e
end
end Dm

namespace Dm
open PySem PySem.Spec L2
open PyProof.Rows hiding St
/-! ### argument lists, displays -/
def qNil : Ev → Option (List D) := fun _ => some []
def qCons (f : Ev → Option D) (g : Ev → Option (List D)) : Ev → Option (List D) := fun E => match f E with | some d => (match g E with | some ds => some (d :: ds) | none => none) | none => none
def eNil : Ev → Option (List D × Ev) := fun E => some ([], E)
def eCons (f : Ev → Option (D × Ev)) (g : Ev → Option (List D × Ev)) : Ev → Option (List D × Ev) := fun E => match f E with | some (d, E1) => (match g E1 with | some (ds, E2) => some (d :: ds, E2) | none => none) | none => none
def eTup (g : Ev → Option (List D × Ev)) : Ev → Option (D × Ev) := fun E => match g E with | some (ds, E1) => (if ds.length ≤ sizeLine then some (.tup ds, E1) else none) | none => none
def eLst (g : Ev → Option (List D × Ev)) : Ev → Option (D × Ev) := fun E => match g E with | some (ds, E1) => (if ds.length ≤ sizeLine then some (.lst true ds, E1) else none) | none => none
section
variable {Y : Fm} {e : Expr} {es : List Expr} {pos : Pos} {K : PySem.W.Frag} {mg : Md}
theorem qa_nil : PQa Y [] qNil := ⟨_, fun _ _ => pa_nil, fun F H O σ E ds e w s Q hQ => by cases e; exact hQ [] F H [] (Qx.refl w.le) .nil⟩
theorem qa_cons {f g} (h : PQ Y e f) (h' : PQa Y es g) (hs : ∀ X : Cx, starEach (e :: es) X.env = (false, eval e X.env) :: starEach es X.env := by intro _; rfl) : PQa Y (e :: es) (qCons f g) := by
  obtain ⟨_, p, q⟩ := h
  obtain ⟨_, p', q'⟩ := h'
  refine ⟨_, fun X h => pa_cons (p X h) (p' X h) (hs X), fun F H O σ E ds e w s Q hQ => ?_⟩
  unfold qCons at e
  split at e
  · rename_i d ed
    split at e
    · rename_i ds' eds
      cases e
      exact q F H O σ E d ed w s _ fun v F1 H1 A x1 r1 => q' F1 H1 O σ E ds' eds (x1.own w) (x1.rps s) _ fun vs F2 H2 B x2 r2 => hQ (v :: vs) F2 H2 (A ++ B) (x1.trans x2) (.cons (x2.rp r1) r2)
    · cases e
  · cases e
theorem da_nil : PDa Y [] eNil := ⟨_, fun _ _ => pa_nil, fun F H O σ E ds E' e w s Q hQ => by cases e; exact hQ [] F H [] O Ext.refl w .nil s⟩
theorem da_cons {f g} (h : PD Y e f) (h' : PDa Y es g) (hs : ∀ X : Cx, starEach (e :: es) X.env = (false, eval e X.env) :: starEach es X.env := by intro _; rfl) : PDa Y (e :: es) (eCons f g) := by
  obtain ⟨_, p, q⟩ := h
  obtain ⟨_, p', q'⟩ := h'
  refine ⟨_, fun X h => pa_cons (p X h) (p' X h) (hs X), fun F H O σ E ds E' e w s Q hQ => ?_⟩
  unfold eCons at e
  split at e
  · rename_i d E1 ed
    split at e
    · rename_i ds' E2 eds
      cases e
      refine q F H O σ E d E1 ed w s _ fun v F1 H1 A O1 x1 w1 r1 s1 => q' F1 H1 O1 σ E1 ds' _ eds w1.right s1 _ fun vs F2 H2 B O2 x2 w2 r2 s2 => ?_
      refine hQ (v :: vs) F2 H2 (A ++ B) O2 ?_ ?_ (.cons (r1.ext x2 w1.apart) r2) s2
      · rw [List.append_assoc]; exact x1.trans (x2.frame w1)
      · rw [List.append_assoc]; exact w1.frame x2 w2
    · cases e
  · cases e
theorem own_new {F H : Hp} {A O : List Addr} {p : Addr} {o : HO} (w : Own F H (A ++ O)) (hp : H p = none) : Own F (upd H p o) ((p :: A) ++ O) := by
  have x : Qx F H F (upd H p o) := Qx.new w.le hp
  exact w.fresh (C := [p]) x (by simp) (fun c m => by simp at m; subst m; exact hp) fun c m => by
    simp at m; subst m
    exact ⟨by rw [upd_same]; simp, none_of_le w.le hp⟩
theorem pd_tup {k} {g} (h : PDa Y es g) : PD Y (.Tuple es k pos) (eTup g) := by
  obtain ⟨_, p, q⟩ := h
  refine ⟨_, fun X h => pe_tup (p X h), fun F H O σ E d E' e w s Q hQ => ?_⟩
  unfold eTup at e
  split at e
  · rename_i ds E1 ed
    split at e
    · rename_i z
      cases e
      refine q F H O σ E ds _ ed w s _ fun vs F1 H1 A O1 x1 w1 r1 s1 => ⟨by rw [r1.length]; exact z, fun p hp => ?_⟩
      have y : Qx F1 H1 (upd F1 p (.tup vs)) (upd H1 p (.tup vs)) := Qx.newF w1.le hp
      exact hQ _ _ _ A O1 (x1.trans y.extO) (y.own w1) (.tup (SqT.of upd_same) (by rw [r1.length]; exact z) (y.rpl r1)) (y.rps s1)
    · cases e
  · cases e
theorem pd_lst {g} (h : PDa Y es g) : PD Y (.List es pos) (eLst g) := by
  obtain ⟨_, p, q⟩ := h
  refine ⟨_, fun X h => pe_lst (p X h), fun F H O σ E d E' e w s Q hQ => ?_⟩
  unfold eLst at e
  split at e
  · rename_i ds E1 ed
    split at e
    · rename_i z
      cases e
      refine q F H O σ E ds _ ed w s _ fun vs F1 H1 A O1 x1 w1 r1 s1 => ⟨by rw [r1.length]; exact z, fun p hp => ?_⟩
      have y : Qx F1 H1 F1 (upd H1 p (.lst vs)) := Qx.new w1.le hp
      refine hQ _ F1 _ (p :: A) O1 (x1.trans ?_) (own_new w1 hp) (.lstO upd_same (none_of_le w1.le hp) (by rw [r1.length]; exact z) (y.rpl r1)) (y.rps s1)
      exact Ext.fresh (C := [p]) (O := A ++ O1) y fun c m => by simp at m; subst m; exact hp
    · cases e
  · cases e

/-! ### subscripts -/
def opIx : D → D → Option D
  | .lst _ xs, .int k => atI xs k
  | .scr xs, .int k => atI xs k
  | .tup xs, .int k => atI xs k
  | .str z, .int k => if z.length ≤ sizeLine then (atI z.cps.toList k).map fun c => .str ⟨#[c]⟩ else none
  | .dic _ ks ds, k => match dGet ks ds k with | some o => o | none => none
  | _, _ => none
abbrev rIxX (K : PySem.W.Frag) (mg : Md) : R2 := fun x y H Q => rIx K x y H Q ∨ rIxD K mg x y H Q
theorem ix_X {X : Cx} {mg : Md} {k : Nat} (hr : Room k X.A) (hp : mg.P = X.prog) (hw : mg.w = X.w) : IxR X (rIxX X.K mg) := ix_seq.or (ix_dic hr hp hw)
theorem ix_Y {Y : Fm} {X : Cx} (h : Y.Is X) : IxR X (rIxX Y.K Y.mg) := by rw [← h.K]; exact ix_X h.room h.prog.symm h.w.symm
def fzOnly (d : Option D) : Option D := match d with | some d => (if isFz d = true then some d else none) | none => none
def opIxF (x y : D) : Option D := fzOnly (opIx x y)
def cutG {α : Type} (xs : List α) (lo hi : Option Int) : List α := (xs.drop (HT.sIx xs.length 0 lo)).take (HT.sIx xs.length xs.length hi - HT.sIx xs.length 0 lo)
theorem ixN_some {n : Nat} {i : Int} {j : Nat} (h : ixN n i = some j) : j < n := by
  unfold ixN at h
  repeat' split at h
  all_goals first | cases h | skip
  all_goals omega
theorem atI_rp {F H : Hp} {vs : List V} {ds : List D} {A : List Addr} {k : Int} {d : D} (r : RpL K mg F H vs ds A) (e : atI ds k = some d) : ∃ v B, atI vs k = some v ∧ Rp K mg F H v d B ∧ ∀ b ∈ B, b ∈ A := by
  unfold atI at e ⊢
  rw [r.length]
  cases q : ixN ds.length k with
  | none => rw [q] at e; cases e
  | some j =>
    rw [q] at e
    exact r.get e
theorem ok_ix {F H : Hp} {x y : V} {dx dy d : D} {A B : List Addr} (e : opIx dx dy = some d) (f : ∀ a o, F a = some o → H a = some o) (rx : Rp K mg F H x dx A) (ry : Rp K mg F H y dy B)
    {Q : VK} (hQ : ∀ v C, Rp K mg F H v d C → Q v H) : rIxX K mg x y H Q := by
  by_cases isd : ∃ o ks ds, dx = .dic o ks ds
  · obtain ⟨o, ks, ds, ed⟩ := isd
    subst ed
    have e' : (match dGet ks ds dy with | some o => o | none => none) = some d := by cases dy <;> exact e
    split at e'
    · rename_i o' eo
      subst e'
      obtain ⟨a, vs, As, ex, D, rl, _, _⟩ := rx.dic_inv f
      obtain ⟨ov, g, _, h2⟩ := dic_get f D rl ry eo
      obtain ⟨u, C, e3, ru⟩ := h2 d rfl
      subst e3
      exact .inr ⟨a, u, ex, g, hQ u C ru⟩
    · cases e'
  refine .inl ?_
  have nd : ∀ o ks ds, dx ≠ .dic o ks ds := fun o ks ds q => isd ⟨o, ks, ds, q⟩
  cases dx <;> first | (exact absurd rfl (nd _ _ _)) | skip
  all_goals cases dy <;> simp only [opIx] at e <;> try (cases e; done)
  · split at e
    · rename_i z
      obtain ⟨c, ec, e'⟩ := Option.map_eq_some_iff.mp e
      subst e'
      exact .inr (.inr ⟨_, _, c, rx.str_inv, ry.int_inv, z, ec, hQ _ [] (.str _)⟩)
    · cases e
  · obtain ⟨a, vs, ev, _, e2, z1, r1⟩ := rx.tup_inv f
    obtain ⟨v, C, e3, r3, _⟩ := atI_rp r1 e
    exact .inr (.inl ⟨a, vs, _, v, ev, ry.int_inv, e2, e3, hQ v C r3⟩)
  · obtain ⟨a, vs, _, ev, e1, z1, r1, _⟩ := rx.lst_inv f
    obtain ⟨v, C, e3, r3, _⟩ := atI_rp r1 e
    exact .inl ⟨a, vs, _, v, ev, ry.int_inv, SqL.of e1, e3, hQ v C r3⟩
  · obtain ⟨a, vs, ev, e1, z1, r1⟩ := rx.scr_inv f
    obtain ⟨v, C, e3, r3, _⟩ := atI_rp r1 e
    exact .inl ⟨a, vs, _, v, ev, ry.int_inv, e1, e3, hQ v C r3⟩
theorem fzOnly_some {o : Option D} {d : D} (e : fzOnly o = some d) : o = some d ∧ isFz d = true := by
  unfold fzOnly at e
  split at e
  · split at e
    · rename_i z
      cases e
      exact ⟨rfl, z⟩
    · cases e
  · cases e
theorem ok_ixF : R2ok K mg (rIxX K mg) opIxF := by
  intro F H x y dx dy d A B e f rx ry Q hQ
  obtain ⟨e', z⟩ := fzOnly_some e
  refine ok_ix e' f rx ry fun v C r => ?_
  have c := r.fz z
  subst c
  exact give f r hQ
theorem qt_ix {ta tb : TE} {fa fb : Ev → Option D} (ha : Qt K mg ta fa) (hb : Qt K mg tb fb) : Qt K mg (tOp (rIxX K mg) ta tb) (q2f opIx fa fb) := by
  intro F H O σ E d e w s Q hQ
  unfold q2f at e
  split at e
  · rename_i dx ea
    split at e
    · rename_i dy eb
      exact q2 ha hb ea eb w s _ fun x y F' H' A B q rx ry => ok_ix e q.le rx ry fun v C r => hQ v F' H' C q r
    · cases e
  · cases e
theorem pq_ix {a b : Expr} {fa fb} (ha : PQ Y a fa) (hb : PQ Y b fb) (hs : PlainIx b := by intro _ _; rfl) : PQ Y (.Subscript a b pos) (q2f opIx fa fb) :=
  let ⟨_, p1, q1⟩ := ha; let ⟨_, p2, q2⟩ := hb; ⟨_, fun X h => pe_ix (ix_Y h) (p1 X h) (p2 X h) hs, qt_ix q1 q2⟩
theorem pd_ix {a b : Expr} {fa fb} (ha : PD Y a fa) (hb : PD Y b fb) (hs : PlainIx b := by intro _ _; rfl) : PD Y (.Subscript a b pos) (e2f opIxF fa fb) :=
  let ⟨_, p1, q1⟩ := ha; let ⟨_, p2, q2⟩ := hb; ⟨_, fun X h => pe_ix (ix_Y h) (p1 X h) (p2 X h) hs, de_op ok_ixF q1 q2⟩
/-- slot[e]: the item is read behind e -/
def eIxN (i : Nat) (fb : Ev → Option (D × Ev)) : Ev → Option (D × Ev) := fun E => match E[i]? with
  | some (some _) => (match fb E with | some (k, E1) => (match E1[i]? with | some (some c) => (match opIxF c k with | some d => some (d, E1) | none => (match opIxF (froz c) k with | some d => some (d, E1.set i (some (froz c))) | none => none)) | _ => none) | none => none)
  | _ => none
theorem pd_ixN {i : Nat} {x : Str} {px : Pos} {b : Expr} {fb} (hN : Y.N[i]? = some x) (hv : Vis Y.sc x) (hb : PD Y b fb) (hs : PlainIx b := by intro _ _; rfl)
    (hd : (x == ("__debug__" : Str)) = false := by decide) (hcd : (x == ("__classdict__" : Str)) = false := by decide) : PD Y (.Subscript (.Name x px) b pos) (eIxN i fb) := by
  obtain ⟨_, p2, q2⟩ := hb
  refine ⟨_, fun X h => pe_ix (ix_Y h) (pe_var (h.nm hN) (h.vis hv) hd hcd) (p2 X h) hs, fun F H O σ E d E' e w s Q hQ => ?_⟩
  unfold eIxN at e
  split at e
  · rename_i d0 e0
    split at e
    · rename_i k E1 ek
      split at e
      · rename_i c ec
        split at e
        · rename_i d' eo
          cases e
          obtain ⟨v0, A0, es0, _⟩ := s.get w e0
          refine ⟨v0, es0, q2 F H O σ E k _ ek w s _ fun v F1 H1 A O1 x1 w1 r1 s1 => ?_⟩
          obtain ⟨v1, A1, es1, rv⟩ := s1.get w1.right ec
          have ev : v0 = v1 := by
            rw [es0] at es1
            exact Option.some.inj (Option.some.inj es1)
          subst ev
          obtain ⟨eo', z⟩ := fzOnly_some eo
          refine ok_ix eo' w1.le rv r1 fun u C r => ?_
          have c := r.fz z
          subst c
          exact hQ u F1 H1 [] O1 (x1.sub (fun _ m => m) fun b m => .inl (List.mem_append_right _ m)) w1.right r s1
        · split at e
          · rename_i d' eo
            cases e
            obtain ⟨v0, A0, es0, _⟩ := s.get w e0
            refine ⟨v0, es0, q2 F H O σ E k _ ek w s _ fun v F1 H1 A O1 x1 w1 r1 s1 => ?_⟩
            obtain ⟨v1, A1, es1, rv, wA, sA, go⟩ := s1.change w1.right ec
            have ev : v0 = v1 := by
              rw [es0] at es1
              exact Option.some.inj (Option.some.inj es1)
            subst ev
            obtain ⟨O', s', w', x'⟩ := go _ _ _ _ (frz_ext wA) (Own.nil (frz_le wA)) (rv.freeze wA)
            obtain ⟨eo', z⟩ := fzOnly_some eo
            refine ok_ix eo' w'.le (rv.freeze wA) (r1.ext x' w1.apart) fun u C r => ?_
            have c := r.fz z
            subst c
            exact hQ u _ H1 [] O' ((x1.sub (fun _ m => m) fun b m => .inl (List.mem_append_right _ m)).trans x') w' r s'
          · cases e
      · cases e
    · cases e
  · cases e

/-! ### slices -/
def opSl (x : D) (lo hi : Option Int) : Option D := match x with
  | .lst _ xs => if isFzL xs = true then some (.lst true (cutG xs lo hi)) else none
  | .scr xs => if isFzL xs = true then some (.lst true (cutG xs lo hi)) else none
  | .tup xs => if isFzL xs = true then some (.tup (cutG xs lo hi)) else none
  | .str z => if z.length ≤ sizeLine then some (.str (cutS z lo hi)) else none
  | _ => none
abbrev rSlX (K : PySem.W.Frag) : V → Option Int → Option Int → Hp → VK → Prop := fun x lo hi H Q => rSlL K x lo hi H Q ∨ (rSlA K x lo hi H Q ∨ rSlS x lo hi H Q)
theorem sl_any {X : Cx} : SlR X (rSlX X.K) := sl_list.or (sl_tupA.or sl_str)
theorem RpL.cut {F H : Hp} {vs : List V} {ds : List D} (r : RpL K mg F H vs ds []) (lo hi : Option Int) : RpL K mg F H (cutV vs lo hi) (cutG ds lo hi) [] := by
  unfold cutV cutG
  rw [r.length]
  exact (r.drop _).take _
theorem sIx_whole {α : Type} (ds : List α) (lo hi : Option Int) (h : HT.sIx ds.length 0 lo = 0 ∧ HT.sIx ds.length ds.length hi = ds.length) : cutG ds lo hi = ds := by
  unfold cutG
  rw [h.1, h.2, List.drop_zero, Nat.sub_zero, List.take_length]
theorem ok_sl {F H : Hp} {x : V} {dx d : D} {A : List Addr} {lo hi : Option Int} (e : opSl dx lo hi = some d) (f : ∀ a o, F a = some o → H a = some o) (rx : Rp K mg F H x dx A)
    {Q : VK} (hQ : ∀ v F' H' C, Qx F H F' H' → C.Nodup → (∀ c ∈ C, H c = none) → Rp K mg F' H' v d C → Q v H') : rSlX K x lo hi H Q := by
  cases dx <;> simp only [opSl] at e <;> try (cases e; done)
  · split at e
    · cases e
      rename_i z
      exact .inr (.inr ⟨_, rx.str_inv, z, give f (.str _) hQ⟩)
    · cases e
  · split at e
    · cases e
      rename_i z
      obtain ⟨a, vs, ev, e1, e2, z1, r1⟩ := rx.tup_inv f
      have s1 := r1.nilOf z
      refine .inr (.inl ⟨a, vs, ev, e2, fun hw => ?_, fun _ p hp => mk_tup f hp (Nat.le_trans (cutV_length vs lo hi) z1) (s1.cut lo hi) hQ⟩)
      rw [s1.length] at hw
      rw [sIx_whole _ lo hi hw] at hQ
      exact give f (ev ▸ (.tup e1 z1 s1 : Rp K mg F H (.ref a) _ [])) hQ
    · cases e
  · split at e
    · cases e
      rename_i z
      obtain ⟨a, vs, _, ev, e1, z1, r1, _⟩ := rx.lst_inv f
      exact .inl ⟨a, vs, ev, SqL.of e1, fun p hp => mk_lst f hp (Nat.le_trans (cutV_length vs lo hi) z1) ((r1.nilOf z).cut lo hi) hQ⟩
    · cases e
  · split at e
    · cases e
      rename_i z
      obtain ⟨a, vs, ev, e1, z1, r1⟩ := rx.scr_inv f
      exact .inl ⟨a, vs, ev, e1, fun p hp => mk_lst f hp (Nat.le_trans (cutV_length vs lo hi) z1) (r1.cut lo hi) hQ⟩
    · cases e
def PQo (Y : Fm) (e : Option Expr) (f : Ev → Option (Option Int)) : Prop := ∃ t, (∀ X, Y.Is X → PO X e t) ∧ ∀ (F H : Hp) (O : List Addr) (σ : L2.St) (E : Ev) (o : Option Int), f E = some o → Own F H O → RpS Y.K Y.mg F H σ E O →
  ∀ Q : Option Int → Hp → Prop, (∀ F' H', Qx F H F' H' → Q o H') → t σ H Q
def qNo : Ev → Option (Option Int) := fun _ => some none
def asI : D → Option Int
  | .int i => some i
  | _ => none
def qPart (f : Ev → Option D) : Ev → Option (Option Int) := fun E => match f E with | some d => (match asI d with | some i => some (some i) | none => none) | none => none
theorem asI_some {d : D} {i : Int} (h : asI d = some i) : d = .int i := by
  cases d <;> simp [asI] at h
  subst h; rfl
theorem qo_none : PQo Y none qNo := ⟨_, fun _ _ => po_none, fun F H O σ E o e w s Q hQ => by cases e; exact hQ F H (Qx.refl w.le)⟩
theorem qo_some {e : Expr} {f} (h : PQ Y e f) : PQo Y (some e) (qPart f) := by
  obtain ⟨_, p, q⟩ := h
  refine ⟨_, fun X h => po_some (p X h), fun F H O σ E o e w s Q hQ => ?_⟩
  unfold qPart at e
  split at e
  · rename_i d ed
    split at e
    · rename_i i ei
      cases e
      have := asI_some ei
      subst this
      exact q F H O σ E _ ed w s _ fun v F' H' A x r => ⟨i, r.int_inv, hQ F' H' x⟩
    · cases e
  · cases e
def qSl (f : Ev → Option D) (l h : Ev → Option (Option Int)) : Ev → Option D := fun E => match f E with | some x => (match l E with | some lo => (match h E with | some hi => opSl x lo hi | none => none) | none => none) | none => none
def nSl (f : Ev → Option D) (l h : Ev → Option (Option Int)) : Ev → Option (D × Ev) := fun E => match qSl f l h E with | some d => some (d, E) | none => none
theorem sl_core {te : TE} {tl th : TO} {f : Ev → Option D} {l h : Ev → Option (Option Int)} (q : Qt K mg te f)
    (ql : ∀ (F H : Hp) (O : List Addr) (σ : L2.St) (E : Ev) (o : Option Int), l E = some o → Own F H O → RpS K mg F H σ E O → ∀ Q : Option Int → Hp → Prop, (∀ F' H', Qx F H F' H' → Q o H') → tl σ H Q)
    (qh : ∀ (F H : Hp) (O : List Addr) (σ : L2.St) (E : Ev) (o : Option Int), h E = some o → Own F H O → RpS K mg F H σ E O → ∀ Q : Option Int → Hp → Prop, (∀ F' H', Qx F H F' H' → Q o H') → th σ H Q)
    {F H : Hp} {O : List Addr} {σ : L2.St} {E : Ev} {d : D} (e : qSl f l h E = some d) (w : Own F H O) (s : RpS K mg F H σ E O) {Q : VK}
    (hQ : ∀ v F' H' C, Qx F H F' H' → C.Nodup → (∀ c ∈ C, H c = none) → Rp K mg F' H' v d C → Q v H') : tSl (rSlX K) te tl th σ H Q := by
  unfold qSl at e
  split at e
  · rename_i dx ex
    split at e
    · rename_i lo el
      split at e
      · rename_i hi eh
        refine q F H O σ E dx ex w s _ fun v F1 H1 A x1 r1 => ql F1 H1 O σ E lo el (x1.own w) (x1.rps s) _ fun F2 H2 x2 => qh F2 H2 O σ E hi eh ((x1.trans x2).own w) ((x1.trans x2).rps s) _ fun F3 H3 x3 => ?_
        have x := x1.trans (x2.trans x3)
        refine ok_sl e x.le (x3.rp (x2.rp r1)) fun u F4 H4 C x4 nd hf r => hQ u F4 H4 C (x.trans x4) nd (fun c m => ?_) r
        exact Classical.byContradiction fun n => x.ext.dom c n (hf c m)
      · cases e
    · cases e
  · cases e
theorem pq_sl {a : Expr} {lo hi : Option Expr} {p2 : Pos} {f l h} (ha : PQ Y a f) (hl : PQo Y lo l) (hh : PQo Y hi h) : PQ Y (.Subscript a (.Slice lo hi none p2) pos) (qSl f l h) := by
  obtain ⟨_, p, q⟩ := ha
  obtain ⟨_, pl, ql⟩ := hl
  obtain ⟨_, ph, qh⟩ := hh
  exact ⟨_, fun X h => pe_slice (h.K ▸ sl_any) (p X h) (pl X h) (ph X h), fun F H O σ E d e w s Q hQ => sl_core q ql qh e w s fun v F' H' C x _ _ r => hQ v F' H' C x r⟩
theorem pn_sl {a : Expr} {lo hi : Option Expr} {p2 : Pos} {f l h} (ha : PQ Y a f) (hl : PQo Y lo l) (hh : PQo Y hi h) : PD Y (.Subscript a (.Slice lo hi none p2) pos) (nSl f l h) := by
  obtain ⟨_, p, q⟩ := ha
  obtain ⟨_, pl, ql⟩ := hl
  obtain ⟨_, ph, qh⟩ := hh
  refine ⟨_, fun X h => pe_slice (h.K ▸ sl_any) (p X h) (pl X h) (ph X h), fun F H O σ E d E' e w s Q hQ => ?_⟩
  unfold nSl at e
  split at e
  · rename_i d' ed
    cases e
    exact sl_core q ql qh ed w s fun v F' H' C x nd hf r => hQ v F' H' C O (Ext.fresh x hf) (w.fresh x nd hf r.alive) r (x.rps s)
  · cases e

/-! ### calls of built-ins -/
def q1L (op : List D → Option D) (g : Ev → Option (List D)) : Ev → Option D := fun E => match g E with | some ds => op ds | none => none
def n1L (op : List D → Option D) (g : Ev → Option (List D)) : Ev → Option (D × Ev) := fun E => match g E with | some ds => (match op ds with | some d => some (d, E) | none => none) | none => none
def e1L (op : List D → Option D) (g : Ev → Option (List D × Ev)) : Ev → Option (D × Ev) := fun E => match g E with | some (ds, E1) => (match op ds with | some d => some (d, E1) | none => none) | none => none
theorem qt_cb {t : TA} {r : List V → Hp → VK → Prop} {op : List D → Option D} {g} (hr : RLok K mg r op) (q : Qa K mg t g) : Qt K mg (tCB r t) (q1L op g) := by
  intro F H O σ E d e w s Q hQ
  unfold q1L at e
  split at e
  · rename_i ds ed
    exact q F H O σ E ds ed w s _ fun vs F1 H1 A x1 r1 => hr F1 H1 vs ds d A e x1.le r1 Q fun v F2 H2 C x2 _ _ r2 => hQ v F2 H2 C (x1.trans x2) r2
  · cases e
theorem de_cbn {t : TA} {r : List V → Hp → VK → Prop} {op : List D → Option D} {g} (hr : RLok K mg r op) (q : Qa K mg t g) : De K mg (tCB r t) (n1L op g) := by
  intro F H O σ E d E' e w s Q hQ
  unfold n1L at e
  split at e
  · rename_i ds ed
    split at e
    · rename_i d' eo
      cases e
      refine q F H O σ E ds ed w s _ fun vs F1 H1 A x1 r1 => hr F1 H1 vs ds d A eo x1.le r1 Q fun v F2 H2 C x2 nd hf r2 => ?_
      have hf' : ∀ c ∈ C, H c = none := fun c m => Classical.byContradiction fun n => x1.ext.dom c n (hf c m)
      exact hQ v F2 H2 C O (Ext.fresh (x1.trans x2) hf') (w.fresh (x1.trans x2) nd hf' r2.alive) r2 ((x1.trans x2).rps s)
    · cases e
  · cases e
theorem de_cb {t : TA} {r : List V → Hp → VK → Prop} {op : List D → Option D} {g} (hr : RLok K mg r op) (q : Da K mg t g) : De K mg (tCB r t) (e1L op g) := by
  intro F H O σ E d E' e w s Q hQ
  unfold e1L at e
  split at e
  · rename_i ds E1 ed
    split at e
    · rename_i d' eo
      cases e
      refine q F H O σ E ds _ ed w s _ fun vs F1 H1 A O1 x1 w1 r1 s1 => hr F1 H1 vs ds d A eo w1.le r1 Q fun v F2 H2 C x2 nd hf r2 => ?_
      exact hQ v F2 H2 C O1 ((x1.sub (fun _ m => m) fun b m => .inl (List.mem_append_right _ m)).trans (Ext.fresh (O := O1) x2 hf)) (w1.right.fresh x2 nd hf r2.alive) r2 (x2.rps s1)
    · cases e
  · cases e
section
variable {x : Str} {px : Pos} {id T : String} {r : List V → Hp → VK → Prop} {op : List D → Option D}
theorem pq_callB {g} (hc : CallY Y (.builtin id) r) (hr : RLok Y.K Y.mg r op) (hg : GlY Y x) (hm : Y.mg x = none) (hv : bootBuiltins x = some (.builtin id)) (ha : PQa Y (e :: es) g) (hn : x ≠ "__name__" := by decide) (hdb : (x == ("__debug__" : Str)) = false := by decide)
    (he : ∀ X : Cx, starEach (e :: es) X.env = (false, eval e X.env) :: starEach es X.env := by intro _; rfl) (hpl : ∀ X : Cx, (backTo pos (starEach es X.env)).any (·.1) = false := by intro _; rfl) : PQ Y (.Call (.Name x px) (e :: es) [] pos) (q1L op g) :=
  let ⟨_, p, q⟩ := ha; ⟨_, fun X h => pe_callB (hc X h) (h.gl hg) (h.mgN hm) hv (p X h) hn hdb (he X) (hpl X), qt_cb hr q⟩
theorem pn_callB {g} (hc : CallY Y (.builtin id) r) (hr : RLok Y.K Y.mg r op) (hg : GlY Y x) (hm : Y.mg x = none) (hv : bootBuiltins x = some (.builtin id)) (ha : PQa Y (e :: es) g) (hn : x ≠ "__name__" := by decide) (hdb : (x == ("__debug__" : Str)) = false := by decide)
    (he : ∀ X : Cx, starEach (e :: es) X.env = (false, eval e X.env) :: starEach es X.env := by intro _; rfl) (hpl : ∀ X : Cx, (backTo pos (starEach es X.env)).any (·.1) = false := by intro _; rfl) : PD Y (.Call (.Name x px) (e :: es) [] pos) (n1L op g) :=
  let ⟨_, p, q⟩ := ha; ⟨_, fun X h => pe_callB (hc X h) (h.gl hg) (h.mgN hm) hv (p X h) hn hdb (he X) (hpl X), de_cbn hr q⟩
theorem pd_callB {g} (hc : CallY Y (.builtin id) r) (hr : RLok Y.K Y.mg r op) (hg : GlY Y x) (hm : Y.mg x = none) (hv : bootBuiltins x = some (.builtin id)) (ha : PDa Y (e :: es) g) (hn : x ≠ "__name__" := by decide) (hdb : (x == ("__debug__" : Str)) = false := by decide)
    (he : ∀ X : Cx, starEach (e :: es) X.env = (false, eval e X.env) :: starEach es X.env := by intro _; rfl) (hpl : ∀ X : Cx, (backTo pos (starEach es X.env)).any (·.1) = false := by intro _; rfl) : PD Y (.Call (.Name x px) (e :: es) [] pos) (e1L op g) :=
  let ⟨_, p, q⟩ := ha; ⟨_, fun X h => pe_callB (hc X h) (h.gl hg) (h.mgN hm) hv (p X h) hn hdb (he X) (hpl X), de_cb hr q⟩
theorem pq_callT {g} (hc : CallY Y (.type T) r) (hr : RLok Y.K Y.mg r op) (hg : GlY Y x) (hm : Y.mg x = none) (hv : bootBuiltins x = some (.type T)) (ha : PQa Y (e :: es) g) (hn : x ≠ "__name__" := by decide) (hdb : (x == ("__debug__" : Str)) = false := by decide)
    (he : ∀ X : Cx, starEach (e :: es) X.env = (false, eval e X.env) :: starEach es X.env := by intro _; rfl) (hpl : ∀ X : Cx, (backTo pos (starEach es X.env)).any (·.1) = false := by intro _; rfl) : PQ Y (.Call (.Name x px) (e :: es) [] pos) (q1L op g) :=
  let ⟨_, p, q⟩ := ha; ⟨_, fun X h => pe_callTy (hc X h) (h.gl hg) (h.mgN hm) hv (p X h) hn hdb (he X) (hpl X), qt_cb hr q⟩
theorem pn_callT {g} (hc : CallY Y (.type T) r) (hr : RLok Y.K Y.mg r op) (hg : GlY Y x) (hm : Y.mg x = none) (hv : bootBuiltins x = some (.type T)) (ha : PQa Y (e :: es) g) (hn : x ≠ "__name__" := by decide) (hdb : (x == ("__debug__" : Str)) = false := by decide)
    (he : ∀ X : Cx, starEach (e :: es) X.env = (false, eval e X.env) :: starEach es X.env := by intro _; rfl) (hpl : ∀ X : Cx, (backTo pos (starEach es X.env)).any (·.1) = false := by intro _; rfl) : PD Y (.Call (.Name x px) (e :: es) [] pos) (n1L op g) :=
  let ⟨_, p, q⟩ := ha; ⟨_, fun X h => pe_callTy (hc X h) (h.gl hg) (h.mgN hm) hv (p X h) hn hdb (he X) (hpl X), de_cbn hr q⟩
theorem pd_callT {g} (hc : CallY Y (.type T) r) (hr : RLok Y.K Y.mg r op) (hg : GlY Y x) (hm : Y.mg x = none) (hv : bootBuiltins x = some (.type T)) (ha : PDa Y (e :: es) g) (hn : x ≠ "__name__" := by decide) (hdb : (x == ("__debug__" : Str)) = false := by decide)
    (he : ∀ X : Cx, starEach (e :: es) X.env = (false, eval e X.env) :: starEach es X.env := by intro _; rfl) (hpl : ∀ X : Cx, (backTo pos (starEach es X.env)).any (·.1) = false := by intro _; rfl) : PD Y (.Call (.Name x px) (e :: es) [] pos) (e1L op g) :=
  let ⟨_, p, q⟩ := ha; ⟨_, fun X h => pe_callTy (hc X h) (h.gl hg) (h.mgN hm) hv (p X h) hn hdb (he X) (hpl X), de_cb hr q⟩
/-- a built-in type's name as a value -/
theorem pq_ty (hg : GlY Y x) (hm : Y.mg x = none) (hv : bootBuiltins x = some (.type T)) (hn : x ≠ "__name__" := by decide) (hdb : (x == ("__debug__" : Str)) = false := by decide) : PQ Y (.Name x px) (qC (.ty T)) :=
  ⟨_, fun X h => pe_bltn (h.gl hg) (h.mgN hm) hv (v := .ty T) rfl hn hdb, qt_c fun _ _ => .ty T⟩
end
end
end Dm

namespace Dm
open PySem PySem.Spec L2
open PyProof.Rows hiding St
/-! ### built-in functions on data -/
section
variable {K : PySem.W.Frag} {mg : Md} {F H F' H' : Hp} {O A B C : List Addr} {v : V} {d : D} {vs ws : List V} {ds es : List D} {a : Addr} {b : Bool}
theorem RpL.one_inv {d : D} (r : RpL K mg F H vs [d] A) : ∃ v, vs = [v] ∧ Rp K mg F H v d A := by
  cases r with
  | cons r1 r2 =>
    cases r2
    refine ⟨_, rfl, ?_⟩
    rw [List.append_nil]
    exact r1
theorem RpL.two_inv {d e : D} (r : RpL K mg F H vs [d, e] A) : ∃ v w A1 A2, vs = [v, w] ∧ Rp K mg F H v d A1 ∧ Rp K mg F H w e A2 := by
  cases r with
  | cons r1 r2 =>
    obtain ⟨w, e, r3⟩ := r2.one_inv
    subst e
    exact ⟨_, _, _, _, rfl, r1, r3⟩
def opLen : List D → Option D
  | [.lst _ xs] => some (.int xs.length)
  | [.scr xs] => some (.int xs.length)
  | [.tup xs] => some (.int xs.length)
  | [.str z] => if z.length ≤ sizeLine then some (.int z.length) else none
  | _ => none
end
abbrev rLenX (K : PySem.W.Frag) : List V → Hp → VK → Prop := fun xs H Q => (∃ p ys, xs = [.ref p] ∧ (SqL K H p ys ∨ SqT K H p ys) ∧ Q (.int ys.length) H) ∨ ∃ z : Str, xs = [.str z] ∧ z.length ≤ sizeLine ∧ Q (.int z.length) H
theorem call_lenX {X : Cx} : CallR X (.builtin "len") (rLenX X.K) := call_len_seq.or call_len_str
section
variable {K : PySem.W.Frag} {mg : Md}
theorem ok_len : RLok K mg (rLenX K) opLen := by
  intro F H vs ds d A e f r Q hQ
  unfold opLen at e
  split at e
  · cases e
    obtain ⟨v, ev, r1⟩ := r.one_inv
    obtain ⟨a, us, _, ea, e1, z1, r2, _⟩ := r1.lst_inv f
    subst ev
    refine .inl ⟨a, us, by rw [ea], .inl (SqL.of e1), ?_⟩
    rw [r2.length]
    exact give f (.int _) hQ
  · cases e
    obtain ⟨v, ev, r1⟩ := r.one_inv
    obtain ⟨a, us, ea, e1, z1, r2⟩ := r1.scr_inv f
    subst ev
    refine .inl ⟨a, us, by rw [ea], .inl e1, ?_⟩
    rw [r2.length]
    exact give f (.int _) hQ
  · cases e
    obtain ⟨v, ev, r1⟩ := r.one_inv
    obtain ⟨a, us, ea, _, e1, z1, r2⟩ := r1.tup_inv f
    subst ev
    refine .inl ⟨a, us, by rw [ea], .inr e1, ?_⟩
    rw [r2.length]
    exact give f (.int _) hQ
  · split at e
    · cases e
      rename_i z
      obtain ⟨v, ev, r1⟩ := r.one_inv
      subst ev
      exact .inr ⟨_, by rw [r1.str_inv], z, give f (.int _) hQ⟩
    · cases e
  · cases e
/-! isinstance -/
def tyName : D → Option String
  | .non => some "NoneType"
  | .bl _ => some "bool"
  | .int _ => some "int"
  | .str _ => some "str"
  | .tup _ => some "tuple"
  | .lst _ _ => some "list"
  | .scr _ => some "list"
  | _ => none
def tyNames : List String := ["int", "bool", "str", "tuple", "list", "dict"]
def isiN (t T : String) : Bool := t == T || (t == "bool" && T == "int")
def opIsi : List D → Option D
  | [x, .ty T] => match tyName x with
    | some t => if T ∈ tyNames then some (.bl (isiN t T)) else none
    | none => none
  | _ => none
theorem kit_names {t T : String} (ht : t ∈ "NoneType" :: tyNames) (hT : T ∈ tyNames) : PySem.W.kitOne K (.type t) (.type T) = some (isiN t T) := by
  simp only [tyNames, List.mem_cons, List.not_mem_nil, or_false] at ht hT
  rcases ht with h | h | h | h | h | h | h <;> rcases hT with h' | h' | h' | h' | h' | h' <;> subst h <;> subst h' <;> rfl
theorem Rp.tyX {F H : Hp} {v : V} {x : D} {A : List Addr} {t : String} (f : ∀ a o, F a = some o → H a = some o) (r : Rp K mg F H v x A) (e : tyName x = some t) : TyX K H v (.type t) ∧ t ∈ "NoneType" :: tyNames := by
  cases x <;> simp only [tyName] at e <;> try (cases e; done)
  · cases e
    rw [r.non_inv]
    exact ⟨.base .non, by decide⟩
  · cases e
    rw [r.bl_inv]
    exact ⟨.base (.bl _), by decide⟩
  · cases e
    rw [r.int_inv]
    exact ⟨.base (.int _), by decide⟩
  · cases e
    rw [r.str_inv]
    exact ⟨.base (.str _), by decide⟩
  · cases e
    obtain ⟨a, us, ea, _, e1, z1, r2⟩ := r.tup_inv f
    subst ea
    refine ⟨?_, by decide⟩
    rcases e1 with (e1 | ⟨o, e1⟩) | ⟨o, its, n, h1, h2, _⟩
    · exact .base (.tup e1)
    · exact .fTuple e1
    · exact .kTuple h1 h2
  · cases e
    obtain ⟨a, us, _, ea, e1, z1, r2, _⟩ := r.lst_inv f
    subst ea
    exact ⟨.base (.lst e1), by decide⟩
  · cases e
    obtain ⟨a, us, ea, e1, z1, r2⟩ := r.scr_inv f
    subst ea
    refine ⟨?_, by decide⟩
    rcases e1 with (e1 | ⟨o, e1⟩) | ⟨o, its, n, h1, h2, _⟩
    · exact .base (.lst e1)
    · exact .base (.frz e1)
    · exact .kList h1 h2
theorem ok_isi : RLok K mg (rIsi K) opIsi := by
  intro F H vs ds d A e f r Q hQ
  unfold opIsi at e
  split at e
  · rename_i x T
    split at e
    · rename_i t et
      split at e
      · cases e
        rename_i hT
        obtain ⟨v, w, A1, A2, ev, r1, r2⟩ := r.two_inv
        subst ev
        obtain ⟨h1, h2⟩ := r1.tyX f et
        cases r2
        exact ⟨v, .ty T, .type t, .type T, isiN t T, rfl, .ty T, h1, kit_names h2 hT, give f (.bl _) hQ⟩
      · cases e
    · cases e
  · cases e
/-! numbers -/
def opAbs : List D → Option D
  | [.int i] => some (.int (if i < 0 then -i else i))
  | _ => none
theorem ok_abs : RLok K mg (fun xs H Q => ∃ i : Int, xs = [.int i] ∧ Q (.int (if i < 0 then -i else i)) H) opAbs := by
  intro F H vs ds d A e f r Q hQ
  unfold opAbs at e
  split at e
  · cases e
    obtain ⟨v, ev, r1⟩ := r.one_inv
    subst ev
    exact ⟨_, by rw [r1.int_inv], give f (.int _) hQ⟩
  · cases e
def opInt : List D → Option D
  | [.int i] => some (.int i)
  | [.bl b] => some (.int (if b then 1 else 0))
  | _ => none
theorem ok_int : RLok K mg (fun xs H Q => (∃ i : Int, xs = [.int i] ∧ Q (.int i) H) ∨ ∃ k : Bool, xs = [.bl k] ∧ Q (.int (if k then 1 else 0)) H) opInt := by
  intro F H vs ds d A e f r Q hQ
  unfold opInt at e
  split at e
  · cases e
    obtain ⟨v, ev, r1⟩ := r.one_inv
    subst ev
    exact .inl ⟨_, by rw [r1.int_inv], give f (.int _) hQ⟩
  · cases e
    obtain ⟨v, ev, r1⟩ := r.one_inv
    subst ev
    exact .inr ⟨_, by rw [r1.bl_inv], give f (.int _) hQ⟩
  · cases e
/-! lists of numbers, of truths -/
def intsOf : List D → Option (List Int)
  | [] => some []
  | .int i :: r => match intsOf r with | some is => some (i :: is) | none => none
  | _ :: _ => none
def blsOf : List D → Option (List Bool)
  | [] => some []
  | .bl i :: r => match blsOf r with | some is => some (i :: is) | none => none
  | _ :: _ => none
theorem intsOf_map (ns : List Int) : intsOf (ns.map D.int) = some ns := by
  induction ns with
  | nil => rfl
  | cons n ns ih => rw [List.map_cons, intsOf, ih]
theorem blsOf_map (ns : List Bool) : blsOf (ns.map D.bl) = some ns := by
  induction ns with
  | nil => rfl
  | cons n ns ih => rw [List.map_cons, blsOf, ih]
theorem RpL.ints {F H : Hp} : ∀ {ds : List D} {vs : List V} {A : List Addr} {ns : List Int}, RpL K mg F H vs ds A → intsOf ds = some ns → vs = ns.map V.int
  | [], _, _, _, .nil, e => by cases e; rfl
  | d :: ds, _, _, ns, .cons r1 r2, e => by
    cases d <;> simp only [intsOf] at e <;> try (cases e; done)
    split at e
    · rename_i is ei
      cases e
      rw [r1.int_inv, RpL.ints r2 ei]; rfl
    · cases e
theorem RpL.bls {F H : Hp} : ∀ {ds : List D} {vs : List V} {A : List Addr} {ns : List Bool}, RpL K mg F H vs ds A → blsOf ds = some ns → vs = ns.map V.bl
  | [], _, _, _, .nil, e => by cases e; rfl
  | d :: ds, _, _, ns, .cons r1 r2, e => by
    cases d <;> simp only [blsOf] at e <;> try (cases e; done)
    split at e
    · rename_i is ei
      cases e
      rw [r1.bl_inv, RpL.bls r2 ei]; rfl
    · cases e
def opAll : List D → Option D
  | [.lst _ xs] => match blsOf xs with | some bs => some (.bl (bs.all id)) | none => none
  | _ => none
def opAny : List D → Option D
  | [.lst _ xs] => match blsOf xs with | some bs => some (.bl (bs.any id)) | none => none
  | _ => none
def opSum : List D → Option D
  | [.lst _ xs] => match intsOf xs with | some ns => some (.int ns.sum) | none => none
  | _ => none
theorem ok_all : RLok K mg (rAll K) opAll := by
  intro F H vs ds d A e f r Q hQ
  unfold opAll at e
  split at e
  · split at e
    · cases e
      rename_i bs eb
      obtain ⟨v, ev, r1⟩ := r.one_inv
      obtain ⟨a, us, _, ea, e1, z1, r2, _⟩ := r1.lst_inv f
      subst ev
      have q := r2.bls eb
      subst q
      exact ⟨a, bs, by rw [ea], SqL.of e1, give f (.bl _) hQ⟩
    · cases e
  · cases e
theorem ok_any : RLok K mg (rAny K) opAny := by
  intro F H vs ds d A e f r Q hQ
  unfold opAny at e
  split at e
  · split at e
    · cases e
      rename_i bs eb
      obtain ⟨v, ev, r1⟩ := r.one_inv
      obtain ⟨a, us, _, ea, e1, z1, r2, _⟩ := r1.lst_inv f
      subst ev
      have q := r2.bls eb
      subst q
      exact ⟨a, bs, by rw [ea], SqL.of e1, give f (.bl _) hQ⟩
    · cases e
  · cases e
theorem ok_sum : RLok K mg (rSum K) opSum := by
  intro F H vs ds d A e f r Q hQ
  unfold opSum at e
  split at e
  · split at e
    · cases e
      rename_i bs eb
      obtain ⟨v, ev, r1⟩ := r.one_inv
      obtain ⟨a, us, _, ea, e1, z1, r2, _⟩ := r1.lst_inv f
      subst ev
      have q := r2.ints eb
      subst q
      exact ⟨a, bs, by rw [ea], SqL.of e1, give f (.int _) hQ⟩
    · cases e
  · cases e
/-! min, max: of two numbers, of a list of numbers -/
def opMin : List D → Option D
  | [.lst _ xs] => match intsOf xs with | some ns => (match ns.min? with | some m => some (.int m) | none => none) | none => none
  | [.int i, .int j] => some (.int (if j < i then j else i))
  | _ => none
def opMax : List D → Option D
  | [.lst _ xs] => match intsOf xs with | some ns => (match ns.max? with | some m => some (.int m) | none => none) | none => none
  | [.int i, .int j] => some (.int (if j > i then j else i))
  | _ => none
end
abbrev rMinX (K : PySem.W.Frag) : List V → Hp → VK → Prop := fun xs H Q => rMin K xs H Q ∨ ∃ i j : Int, xs = [.int i, .int j] ∧ Q (.int (if j < i then j else i)) H
abbrev rMaxX (K : PySem.W.Frag) : List V → Hp → VK → Prop := fun xs H Q => rMax K xs H Q ∨ ∃ i j : Int, xs = [.int i, .int j] ∧ Q (.int (if j > i then j else i)) H
theorem call_minX {X : Cx} (hc : X.calm = true) : CallR X (.builtin "min") (rMinX X.K) := (cr_min hc).or (call_min2 hc)
theorem call_maxX {X : Cx} (hc : X.calm = true) : CallR X (.builtin "max") (rMaxX X.K) := (cr_max hc).or (call_max2 hc)
section
variable {K : PySem.W.Frag} {mg : Md}
theorem ok_min : RLok K mg (rMinX K) opMin := by
  intro F H vs ds d A e f r Q hQ
  unfold opMin at e
  split at e
  · split at e
    · rename_i ns en
      split at e
      · cases e
        rename_i m em
        obtain ⟨v, ev, r1⟩ := r.one_inv
        obtain ⟨a, us, _, ea, e1, z1, r2, _⟩ := r1.lst_inv f
        subst ev
        have q := r2.ints en
        subst q
        obtain ⟨m1, m2⟩ := List.min?_eq_some_iff.mp em
        refine .inl ⟨a, ns, by rw [ea], SqL.of e1, List.length_pos_of_mem m1, fun k hk hle => ?_⟩
        have e' : k = m := Int.le_antisymm (hle m m1) (m2 k hk)
        subst e'
        exact give f (.int _) hQ
      · cases e
    · cases e
  · cases e
    obtain ⟨v, w, A1, A2, ev, r1, r2⟩ := r.two_inv
    subst ev
    exact .inr ⟨_, _, by rw [r1.int_inv, r2.int_inv], give f (.int _) hQ⟩
  · cases e
theorem ok_max : RLok K mg (rMaxX K) opMax := by
  intro F H vs ds d A e f r Q hQ
  unfold opMax at e
  split at e
  · split at e
    · rename_i ns en
      split at e
      · cases e
        rename_i m em
        obtain ⟨v, ev, r1⟩ := r.one_inv
        obtain ⟨a, us, _, ea, e1, z1, r2, _⟩ := r1.lst_inv f
        subst ev
        have q := r2.ints en
        subst q
        obtain ⟨m1, m2⟩ := List.max?_eq_some_iff.mp em
        refine .inl ⟨a, ns, by rw [ea], SqL.of e1, List.length_pos_of_mem m1, fun k hk hle => ?_⟩
        have e' : k = m := Int.le_antisymm (m2 k hk) (hle m m1)
        subst e'
        exact give f (.int _) hQ
      · cases e
    · cases e
  · cases e
    obtain ⟨v, w, A1, A2, ev, r1, r2⟩ := r.two_inv
    subst ev
    exact .inr ⟨_, _, by rw [r1.int_inv, r2.int_inv], give f (.int _) hQ⟩
  · cases e
/-! list(..), tuple(..) -/
def opList : List D → Option D
  | [.lst _ xs] => if isFzL xs = true then some (.lst true xs) else none
  | [.scr xs] => if isFzL xs = true then some (.lst true xs) else none
  | [.tup xs] => if isFzL xs = true then some (.lst true xs) else none
  | _ => none
def opTuple : List D → Option D
  | [.lst _ xs] => if isFzL xs = true then some (.tup xs) else none
  | [.scr xs] => if isFzL xs = true then some (.tup xs) else none
  | [.tup xs] => if isFzL xs = true then some (.tup xs) else none
  | _ => none
theorem ok_list : RLok K mg (fun xs H Q => ∃ p ys, xs = [V.ref p] ∧ (SqL K H p ys ∨ SqT K H p ys) ∧ ∀ l, H l = none → Q (.ref l) (upd H l (.lst ys))) opList := by
  intro F H vs ds d A e f r Q hQ
  unfold opList at e
  split at e
  · split at e
    · cases e
      rename_i z
      obtain ⟨v, ev, r1⟩ := r.one_inv
      obtain ⟨a, us, _, ea, e1, z1, r2, _⟩ := r1.lst_inv f
      subst ev
      exact ⟨a, us, by rw [ea], .inl (SqL.of e1), fun l hl => mk_lst f hl z1 (r2.nilOf z) hQ⟩
    · cases e
  · split at e
    · cases e
      rename_i z
      obtain ⟨v, ev, r1⟩ := r.one_inv
      obtain ⟨a, us, ea, e1, z1, r2⟩ := r1.scr_inv f
      subst ev
      exact ⟨a, us, by rw [ea], .inl e1, fun l hl => mk_lst f hl z1 r2 hQ⟩
    · cases e
  · split at e
    · cases e
      rename_i z
      obtain ⟨v, ev, r1⟩ := r.one_inv
      obtain ⟨a, us, ea, _, e1, z1, r2⟩ := r1.tup_inv f
      subst ev
      exact ⟨a, us, by rw [ea], .inr e1, fun l hl => mk_lst f hl z1 (r2.nilOf z) hQ⟩
    · cases e
  · cases e
theorem ok_tuple : RLok K mg (fun xs H Q => ∃ p ys, xs = [V.ref p] ∧ ((SqL K H p ys ∧ ∀ l, H l = none → Q (.ref l) (upd H l (.tup ys))) ∨ (SqT K H p ys ∧ Q (.ref p) H))) opTuple := by
  intro F H vs ds d A e f r Q hQ
  unfold opTuple at e
  split at e
  · split at e
    · cases e
      rename_i z
      obtain ⟨v, ev, r1⟩ := r.one_inv
      obtain ⟨a, us, _, ea, e1, z1, r2, _⟩ := r1.lst_inv f
      subst ev
      exact ⟨a, us, by rw [ea], .inl ⟨SqL.of e1, fun l hl => mk_tup f hl z1 (r2.nilOf z) hQ⟩⟩
    · cases e
  · split at e
    · cases e
      rename_i z
      obtain ⟨v, ev, r1⟩ := r.one_inv
      obtain ⟨a, us, ea, e1, z1, r2⟩ := r1.scr_inv f
      subst ev
      exact ⟨a, us, by rw [ea], .inl ⟨e1, fun l hl => mk_tup f hl z1 r2 hQ⟩⟩
    · cases e
  · split at e
    · cases e
      rename_i z
      obtain ⟨v, ev, r1⟩ := r.one_inv
      obtain ⟨a, us, ea, e0, e1, z1, r2⟩ := r1.tup_inv f
      subst ev
      exact ⟨a, us, by rw [ea], .inr ⟨e1, give f (.tup e0 z1 (r2.nilOf z)) hQ⟩⟩
    · cases e
  · cases e
end
/-! repr -/
def rRepr (K : PySem.W.Frag) : List V → Hp → VK → Prop := fun xs H Q => ∃ x d, xs = [x] ∧ Dp K H x d ∧ d.showable = true ∧ d.hasDict = false ∧ d.depth ≤ 60 ∧ d.shown.length ≤ sizeLine ∧ Q (.str d.shown) H
theorem call_reprD {X : Cx} (hg : X.A.guards = some []) (hu : X.A.units + 64 < cLine) : CallR X (.builtin "repr") (rRepr X.K) := by
  intro pins s σ H xs us Q I r h
  obtain ⟨x, d, rfl, hd, h1, h2, h3, h4, q⟩ := h
  obtain ⟨u, rfl, ru⟩ := vals1 r
  obtain ⟨as, rd⟩ := Dp.reads I d x u hd ru
  cases rd with
  | none =>
    refine PySem.P.repr_of_none ⟨.str _, H, I.tok _, ⟨_, rfl⟩, ?_⟩
    rw [PyData.shown_none] at q; exact q
  | bool b =>
    refine PySem.P.repr_of_bool ⟨.str _, H, I.tok _, ⟨_, rfl⟩, ?_⟩
    rw [PyData.shown_bool] at q; exact q
  | int i t =>
    refine PySem.P.repr_of_int (by simpa [PyData.showable] using h1) ⟨.str _, H, I.tok _, ⟨_, rfl⟩, ?_⟩
    rw [PyData.shown_int] at q; exact q
  | str z t =>
    rw [PyData.shown_str] at q h4
    exact PySem.P.repr_of_str ⟨.str _, H, I.tok _, ⟨_, rfl⟩, q⟩ h4
  | list p1 p2 p3 p4 =>
    exact repr_of_reads' (.list p1 p2 p3 p4) h1 (fun z => by rw [h2] at z; cases z) hg (by omega) (fun _ _ e => e) (fun h' u tk k => ⟨.str _, H, I.kept k, ⟨_, rfl⟩, q⟩) h4
  | tuple p1 p2 p3 p4 =>
    exact repr_of_reads' (.tuple p1 p2 p3 p4) h1 (fun z => by rw [h2] at z; cases z) hg (by omega) (fun _ _ e => e) (fun h' u tk k => ⟨.str _, H, I.kept k, ⟨_, rfl⟩, q⟩) h4
  | dict p1 p2 p3 p4 p5 => simp [PyData.hasDict] at h2
def okRepr (d : D) : Bool := isDat d && (toP d).showable && !(toP d).hasDict && decide ((toP d).depth ≤ 60) && decide ((toP d).shown.length ≤ sizeLine)
def opRepr : List D → Option D
  | [x] => if okRepr x = true then some (.str (toP x).shown) else none
  | _ => none
section
variable {K : PySem.W.Frag} {mg : Md}
theorem ok_repr : RLok K mg (rRepr K) opRepr := by
  intro F H vs ds d A e f r Q hQ
  unfold opRepr at e
  split at e
  · split at e
    · cases e
      rename_i z
      simp only [okRepr, Bool.and_eq_true, Bool.not_eq_true', decide_eq_true_eq] at z
      obtain ⟨⟨⟨⟨z1, z2⟩, z3⟩, z4⟩, z5⟩ := z
      obtain ⟨v, ev, r1⟩ := r.one_inv
      subst ev
      exact ⟨v, _, rfl, r1.dp f z1, z2, z3, z4, z5, give f (.str _) hQ⟩
    · cases e
  · cases e
end
end Dm

namespace Dm
open PySem PySem.Spec L2
open PyProof.Rows hiding St
/-! ### statements -/
inductive Out where
  | nx (E : Ev) | ret (d : D) (E : Ev) | bk (E : Ev) | ct (E : Ev)
abbrev Lks := Nat → Bool
structure Lk (lk : Lks) (σ σ' : L2.St) : Prop where
  len : σ'.length = σ.length
  eq : ∀ i, lk i = true → σ'[i]? = σ[i]?
theorem Lk.refl {lk : Lks} {σ : L2.St} : Lk lk σ σ := ⟨rfl, fun _ _ => rfl⟩
theorem Lk.trans {lk : Lks} {σ σ' σ2 : L2.St} (a : Lk lk σ σ') (b : Lk lk σ' σ2) : Lk lk σ σ2 := ⟨b.len.trans a.len, fun i h => (b.eq i h).trans (a.eq i h)⟩
section
variable (K : PySem.W.Frag) (mg : Md)
def SPst (F H : Hp) (O : List Addr) (σ : L2.St) (lk : Lks) (E' : Ev) (Q : L2.St → Hp → Prop) : Prop := ∀ σ' F' H' O', Lk lk σ σ' → Ext F H O F' H' O' → Own F' H' O' → RpS K mg F' H' σ' E' O' → Q σ' H'
def SRet (F H : Hp) (O : List Addr) (σ : L2.St) (lk : Lks) (d : D) (E' : Ev) (Q : VK) : Prop := ∀ v σ' F' H' A O', Lk lk σ σ' → Ext F H O F' H' (A ++ O') → Own F' H' (A ++ O') → Rp K mg F' H' v d A → RpS K mg F' H' σ' E' O' → Q v H'
def EndP (F H : Hp) (O : List Addr) (σ : L2.St) (lk : Lks) : Out → Ends → Prop
  | .nx E', N => SPst K mg F H O σ lk E' N.nx
  | .bk E', N => SPst K mg F H O σ lk E' N.bk
  | .ct E', N => SPst K mg F H O σ lk E' N.ct
  | .ret d E', N => SRet K mg F H O σ lk d E' N.rt
def Ds (t : TS) (lk : Lks) (g : Ev → Option Out) : Prop := ∀ (F H : Hp) (O : List Addr) (σ : L2.St) (E : Ev) (o : Out), g E = some o → Own F H O → RpS K mg F H σ E O → ∀ N : Ends, EndP K mg F H O σ lk o N → t N σ H
end
def SD (Y : Fm) (st : Stmt) (lk : Lks) (g : Ev → Option Out) : Prop := ∃ t, (∀ X, Y.Is X → PS X st t) ∧ Ds Y.K Y.mg t lk g
def SDs (Y : Fm) (sts : List Stmt) (lk : Lks) (g : Ev → Option Out) : Prop := ∃ t, (∀ X, Y.Is X → PSs X sts t) ∧ Ds Y.K Y.mg t lk g
section
variable {K : PySem.W.Frag} {mg : Md} {F H F' H' : Hp} {O O' A B C : List Addr} {σ σ' : L2.St} {lk : Lks} {N N' : Ends}
theorem SPst.from {E' : Ev} {Q : L2.St → Hp → Prop} (h : SPst K mg F H O σ lk E' Q) (l : Lk lk σ σ') (x : Ext F H O F' H' O') : SPst K mg F' H' O' σ' lk E' Q :=
  fun σ2 F2 H2 O2 l2 x2 w2 s2 => h σ2 F2 H2 O2 (l.trans l2) (x.trans x2) w2 s2
theorem SRet.from {d : D} {E' : Ev} {Q : VK} (h : SRet K mg F H O σ lk d E' Q) (l : Lk lk σ σ') (x : Ext F H O F' H' O') : SRet K mg F' H' O' σ' lk d E' Q :=
  fun v σ2 F2 H2 A O2 l2 x2 w2 r2 s2 => h v σ2 F2 H2 A O2 (l.trans l2) (x.trans x2) w2 r2 s2
theorem EndP.from {o : Out} (h : EndP K mg F H O σ lk o N) (l : Lk lk σ σ') (x : Ext F H O F' H' O') : EndP K mg F' H' O' σ' lk o N := by
  cases o with
  | nx E' => exact SPst.from h l x
  | bk E' => exact SPst.from h l x
  | ct E' => exact SPst.from h l x
  | ret d E' => exact SRet.from h l x
end
def sNil : Ev → Option Out := fun E => some (.nx E)
def sSeq (g1 g2 : Ev → Option Out) : Ev → Option Out := fun E => match g1 E with | some (.nx E1) => g2 E1 | o => o
def sBk : Ev → Option Out := fun E => some (.bk E)
def sCt : Ev → Option Out := fun E => some (.ct E)
def sExpr (f : Ev → Option (D × Ev)) : Ev → Option Out := fun E => match f E with | some (_, E1) => some (.nx E1) | none => none
def sRet (f : Ev → Option (D × Ev)) : Ev → Option Out := fun E => match f E with | some (d, E1) => some (.ret d E1) | none => none
def sRetN : Ev → Option Out := fun E => some (.ret .non E)
def sIf (c : Ev → Option (Bool × Ev)) (g1 g2 : Ev → Option Out) : Ev → Option Out := fun E => match c E with | some (true, E1) => g1 E1 | some (false, E1) => g2 E1 | none => none
section
variable {Y : Fm} {st : Stmt} {rest : List Stmt} {lk : Lks} {e : Expr} {pos : Pos} {g g1 g2 : Ev → Option Out}
theorem sd_nil : SDs Y [] lk sNil := ⟨_, fun _ _ => pss_nil, fun F H O σ E o e w s N h => by cases e; exact h σ F H O .refl Ext.refl w s⟩
theorem ds_seq {K : PySem.W.Frag} {mg : Md} {t u : TS} (h1 : Ds K mg t lk g1) (h2 : Ds K mg u lk g2) : Ds K mg (tSeq t u) lk (sSeq g1 g2) := by
  intro F H O σ E o e w s N h
  unfold sSeq at e
  cases e1 : g1 E with
  | none => rw [e1] at e; cases e
  | some o1 =>
    rw [e1] at e
    refine h1 F H O σ E o1 e1 w s _ ?_
    cases o1 with
    | nx E1 => exact fun σ' F' H' O' l x w' s' => h2 F' H' O' σ' E1 o e w' s' N (h.from l x)
    | ret d E1 => cases e; exact h
    | bk E1 => cases e; exact h
    | ct E1 => cases e; exact h
theorem sd_cons (h1 : SD Y st lk g1) (h2 : SDs Y rest lk g2) : SDs Y (st :: rest) lk (sSeq g1 g2) :=
  let ⟨_, p1, q1⟩ := h1; let ⟨_, p2, q2⟩ := h2; ⟨_, fun X h => pss_cons (p1 X h) (p2 X h), ds_seq q1 q2⟩
theorem sd_one (h1 : SD Y st lk g1) : SDs Y [st] lk g1 := let ⟨_, p1, q1⟩ := h1; ⟨_, fun X h => pss_one (p1 X h), q1⟩
theorem sd_pass : SD Y (.Pass pos) lk sNil := ⟨_, fun _ _ => ps_pass, fun F H O σ E o e w s N h => by cases e; exact h σ F H O .refl Ext.refl w s⟩
theorem sd_break : SD Y (.Break pos) lk sBk := ⟨_, fun _ _ => ps_break, fun F H O σ E o e w s N h => by cases e; exact h σ F H O .refl Ext.refl w s⟩
theorem sd_continue : SD Y (.Continue pos) lk sCt := ⟨_, fun _ _ => ps_continue, fun F H O σ E o e w s N h => by cases e; exact h σ F H O .refl Ext.refl w s⟩
theorem sd_doc {x : Str} {j pos'} : SD Y (.Expr (.Constant (.str x) j pos) pos') lk sNil := ⟨_, fun _ _ => ps_doc, fun F H O σ E o e w s N h => by cases e; exact h σ F H O .refl Ext.refl w s⟩
theorem sd_expr {f} (h : PD Y e f) (hs : ∀ X : Cx, swapsWith e none pos.line X.env = pure false := by intro _; rfl) : SD Y (.Expr e pos) lk (sExpr f) := by
  obtain ⟨_, p, q⟩ := h
  refine ⟨_, fun X h => ps_expr (p X h) (hs X), fun F H O σ E o e w s N h => ?_⟩
  unfold sExpr at e
  split at e
  · rename_i d E1 ed
    cases e
    refine q F H O σ E d E1 ed w s _ fun v F' H' A O' x w' r s' => h σ F' H' O' .refl (x.sub (fun _ m => m) fun b m => .inl (List.mem_append_right _ m)) w'.right s'
  · cases e
theorem sd_ret {f} (h : PD Y e f) : SD Y (.Return (some e) pos) lk (sRet f) := by
  obtain ⟨_, p, q⟩ := h
  refine ⟨_, fun X h => ps_ret (p X h), fun F H O σ E o e w s N h => ?_⟩
  unfold sRet at e
  split at e
  · rename_i d E1 ed
    cases e
    exact q F H O σ E d E1 ed w s _ fun v F' H' A O' x w' r s' => h v σ F' H' A O' .refl x w' r s'
  · cases e
theorem sd_retN : SD Y (.Return none pos) lk sRetN := ⟨_, fun _ _ => ps_retN, fun F H O σ E o e w s N h => by cases e; exact h .non σ F H [] O .refl Ext.refl w .non s⟩
theorem sd_if {c : Expr} {a b : List Stmt} {f} (hc : TD Y c f) (ha : SDs Y a lk g1) (hb : SDs Y b lk g2) : SD Y (.If c a b pos) lk (sIf f g1 g2) := by
  obtain ⟨_, p, q⟩ := hc
  obtain ⟨_, p1, q1⟩ := ha
  obtain ⟨_, p2, q2⟩ := hb
  refine ⟨_, fun X h => ps_if (p X h) (p1 X h) (p2 X h), fun F H O σ E o e w s N h => ?_⟩
  unfold sIf at e
  split at e
  · rename_i E1 ec
    refine q F H O σ E true E1 ec w s _ fun F' H' O' x w' s' => ?_
    rw [if_pos rfl]
    exact q1 F' H' O' σ E1 o e w' s' N (h.from .refl x)
  · rename_i E1 ec
    refine q F H O σ E false E1 ec w s _ fun F' H' O' x w' s' => ?_
    rw [if_neg Bool.false_ne_true]
    exact q2 F' H' O' σ E1 o e w' s' N (h.from .refl x)
  · cases e
end

/-! ### targets -/
structure Tch (ts : List Nat) (σ σ' : L2.St) : Prop where
  len : σ'.length = σ.length
  eq : ∀ i, i ∉ ts → σ'[i]? = σ[i]?
theorem Tch.refl {ts : List Nat} {σ : L2.St} : Tch ts σ σ := ⟨rfl, fun _ _ => rfl⟩
theorem Tch.set {i : Nat} {σ : L2.St} {v : Option V} : Tch [i] σ (σ.set i v) := ⟨List.length_set, fun j h => by rw [List.getElem?_set_ne (fun e => h (by simp [e]))]⟩
theorem Tch.trans {ts us : List Nat} {σ σ' σ2 : L2.St} (a : Tch ts σ σ') (b : Tch us σ' σ2) : Tch (ts ++ us) σ σ2 :=
  ⟨b.len.trans a.len, fun i h => by
    rw [List.mem_append, not_or] at h
    exact (b.eq i h.2).trans (a.eq i h.1)⟩
theorem Tch.lk {ts : List Nat} {lk : Lks} {σ σ' : L2.St} (a : Tch ts σ σ') (h : ∀ i ∈ ts, lk i = false) : Lk lk σ σ' := ⟨a.len, fun i hi => a.eq i fun m => by rw [h i m] at hi; cases hi⟩
section
variable (K : PySem.W.Frag) (mg : Md)
def Dg (t : TG) (ts : List Nat) (g : D → Ev → Option Ev) : Prop := ∀ (F H : Hp) (A O : List Addr) (σ : L2.St) (E E' : Ev) (v : V) (d : D), g d E = some E' → Own F H (A ++ O) → Rp K mg F H v d A → RpS K mg F H σ E O →
  ∀ Q : L2.St → Hp → Prop, (∀ σ' F' H' O', Tch ts σ σ' → Ext F H (A ++ O) F' H' O' → Own F' H' O' → RpS K mg F' H' σ' E' O' → Q σ' H') → t v σ H Q
def Dgs (t : TGs) (ts : List Nat) (g : List D → Ev → Option Ev) : Prop := ∀ (F H : Hp) (A O : List Addr) (σ : L2.St) (E E' : Ev) (vs : List V) (ds : List D), g ds E = some E' → Own F H (A ++ O) → RpL K mg F H vs ds A → RpS K mg F H σ E O →
  ∀ Q : L2.St → Hp → Prop, (∀ σ' F' H' O', Tch ts σ σ' → Ext F H (A ++ O) F' H' O' → Own F' H' O' → RpS K mg F' H' σ' E' O' → Q σ' H') → t vs σ H Q
end
def GD (Y : Fm) (e : Expr) (ts : List Nat) (g : D → Ev → Option Ev) : Prop := ∃ t, (∀ X, Y.Is X → PG X e t) ∧ Dg Y.K Y.mg t ts g
def GDs (Y : Fm) (es : List Expr) (ts : List Nat) (g : List D → Ev → Option Ev) : Prop := ∃ t, (∀ X, Y.Is X → PGs X es t) ∧ Dgs Y.K Y.mg t ts g
def gdName (i : Nat) : D → Ev → Option Ev := fun d E => some (E.set i (some d))
def gdNil : List D → Ev → Option Ev := fun ds E => match ds with | [] => some E | _ => none
def gdCons (g : D → Ev → Option Ev) (gs : List D → Ev → Option Ev) : List D → Ev → Option Ev := fun ds E => match ds with | d :: ds => (match g d E with | some E1 => gs ds E1 | none => none) | [] => none
def gdTup (n : Nat) (gs : List D → Ev → Option Ev) : D → Ev → Option Ev := fun d E => match d with | .tup ds => (if ds.length = n then gs ds E else none) | _ => none
section
variable {Y : Fm} {pos : Pos}
theorem gd_name {i : Nat} {x : Str} (hN : Y.N.Nodup) (hi : Y.N[i]? = some x) (hx : Loc Y.sc x) (hf : Y.fn x = true ∨ Y.sc.names.lookup x = some .local := by first | exact .inl rfl | exact .inr rfl | assumption) : GD Y (.Name x pos) [i] (gdName i) := by
  refine ⟨_, fun X h => pg_name (h.nd hN) (h.nm hi) (h.loc hx) (h.st hf), fun F H A O σ E E' v d e w r s Q h => ?_⟩
  cases e
  obtain ⟨O', s', w', m⟩ := s.assign (i := i) w r
  exact h _ F H O' Tch.set (Ext.refl.sub (fun b h => h) fun b h => .inr (m b h)) w' s'
theorem gds_nil : GDs Y [] [] gdNil := by
  refine ⟨_, fun _ _ => pgs_nil, fun F H A O σ E E' vs ds e w r s Q h => ?_⟩
  unfold gdNil at e
  split at e
  · cases e
    cases r
    exact ⟨rfl, h σ F H O Tch.refl Ext.refl w s⟩
  · cases e
theorem gds_cons {e : Expr} {es : List Expr} {ts us : List Nat} {g gs} (h1 : GD Y e ts g) (h2 : GDs Y es us gs)
    (hs : ∀ X : Cx, (assignEach (e :: es) X.env).map (·.2) = assign e X.env :: (assignEach es X.env).map (·.2) := by intro _; rfl) : GDs Y (e :: es) (ts ++ us) (gdCons g gs) := by
  obtain ⟨_, p1, q1⟩ := h1
  obtain ⟨_, p2, q2⟩ := h2
  refine ⟨_, fun X h => pgs_cons (p1 X h) (p2 X h) (hs X), fun F H A O σ E E' vs ds e w r s Q h => ?_⟩
  unfold gdCons at e
  split at e
  · rename_i d ds'
    split at e
    · rename_i E1 e1
      cases r with
      | @cons v vs _ _ A1 A2 r1 r2 =>
        refine ⟨v, vs, rfl, ?_⟩
        have pm : ((A1 ++ A2) ++ O).Perm (A2 ++ (A1 ++ O)) := by
          rw [List.append_assoc, ← List.append_assoc A2 A1 O]
          rw [← List.append_assoc]
          exact List.Perm.append_right O List.perm_append_comm
        have w2 := w.perm pm
        refine q1 F H A1 O σ E E1 v d e1 w2.right r1 s _ fun σ' F' H' O' c x w' s' => ?_
        refine q2 F' H' A2 O' σ' E1 E' vs ds' e (w2.frame x w') (r2.ext x w2.apart) s' Q fun σ2 F2 H2 O2 c2 x2 w3 s3 => ?_
        exact h σ2 F2 H2 O2 (c.trans c2) (((x.frame w2).trans x2).perm pm.symm (List.Perm.refl _)) w3 s3
    · cases e
  · cases e
theorem gd_tup {es : List Expr} {k : Nat} {n : Nat} {ts : List Nat} {gs} (h : GDs Y es ts gs) (hn : ∀ X : Cx, (assignEach es X.env).length = n := by intro _; rfl) (hst : ∀ X : Cx, (assignEach es X.env).findIdx? (·.1) = none := by intro _; rfl) : GD Y (.Tuple es k pos) ts (gdTup n gs) := by
  obtain ⟨_, p, q⟩ := h
  refine ⟨_, fun X h => h.K ▸ pg_tup h.calm (p X h) (hn X) (hst X), fun F H A O σ E E' v d e w r s Q h => ?_⟩
  unfold gdTup at e
  split at e
  · split at e
    · rename_i ds hl
      obtain ⟨a, vs, ev, e1, e2, z, rl⟩ := r.tup_inv w.le
      exact ⟨a, vs, ev, e2, by rw [rl.length]; exact hl, q F H A O σ E E' vs ds e w rl s Q h⟩
    · cases e
  · cases e
end

/-! ### assignments -/
def sAsg (lk : Lks) (ts : List Nat) (f : Ev → Option (D × Ev)) (g : D → Ev → Option Ev) : Ev → Option Out := fun E => if ts.all (fun i => !lk i) = true then (match f E with | some (d, E1) => (match g d E1 with | some E2 => some (.nx E2) | none => none) | none => none) else none
theorem all_lk {lk : Lks} {ts : List Nat} (h : ts.all (fun i => !lk i) = true) : ∀ i ∈ ts, lk i = false := fun i m => by
  have := List.all_eq_true.mp h i m
  simpa using this
section
variable {Y : Fm} {pos : Pos} {lk : Lks}
theorem ds_asg {K : PySem.W.Frag} {mg : Md} {te : TE} {tg : TG} {ts : List Nat} {f g} (q : De K mg te f) (q' : Dg K mg tg ts g) : Ds K mg (tAsg te tg) lk (sAsg lk ts f g) := by
  intro F H O σ E o e w s N h
  unfold sAsg at e
  split at e
  · rename_i hl
    split at e
    · rename_i d E1 ed
      split at e
      · rename_i E2 eg
        cases e
        refine q F H O σ E d E1 ed w s _ fun v F' H' A O' x w' r s' => q' F' H' A O' σ E1 E2 v d eg w' r s' _ fun σ2 F2 H2 O2 c x2 w2 s2 => ?_
        exact h σ2 F2 H2 O2 (c.lk (all_lk hl)) (x.trans x2) w2 s2
      · cases e
    · cases e
  · cases e
theorem sd_asg {tg e : Expr} {ts : List Nat} {f g} (he : PD Y e f) (hg : GD Y tg ts g) (hs : ∀ X, Y.Is X → swapsWithSole [tg] e pos.line X.env = pure false := by intro _ _; rfl) (hw : ∀ X, Y.Is X → swappedStores [tg] e X.env = pure none := by intro _ _; rfl)
    (h1 : ∀ X : Cx, (assignEach [tg] X.env).map (·.2) = [assign tg X.env] := by intro _; rfl) : SD Y (.Assign [tg] e pos) lk (sAsg lk ts f g) := by
  obtain ⟨_, p, q⟩ := he
  obtain ⟨_, p', q'⟩ := hg
  exact ⟨_, fun X h => ps_asg (p X h) (p' X h) (hs X h) (hw X h) (h1 X), ds_asg q q'⟩
theorem sd_set {i : Nat} {x : Str} {e : Expr} {pos' : Pos} {f} (hN : Y.N.Nodup) (hi : Y.N[i]? = some x) (hx : Loc Y.sc x) (he : PD Y e f) (hs : ∀ X, Y.Is X → swapsWith e (some (.Name x pos')) pos.line X.env = pure false := by intro _ _; rfl)
    (hf : Y.fn x = true ∨ Y.sc.names.lookup x = some .local := by first | exact .inl rfl | exact .inr rfl | assumption) : SD Y (.Assign [.Name x pos'] e pos) lk (sAsg lk [i] f (gdName i)) := by
  obtain ⟨_, p, q⟩ := he
  obtain ⟨_, p', q'⟩ := gd_name (Y := Y) (pos := pos') hN hi hx hf
  refine ⟨_, fun X h => ps_set (h.nd hN) (h.nm hi) (h.loc hx) (p X h) (hs X h) (h.st hf), ds_asg q ?_⟩
  intro F H A O σ E E' v d e w r s Q h
  cases e
  obtain ⟨O', s', w', m⟩ := s.assign (i := i) w r
  exact h _ F H O' Tch.set (Ext.refl.sub (fun b h => h) fun b h => .inr (m b h)) w' s'
/-- a, b = x, y (plain local names) -/
def sPar (lk : Lks) (i j : Nat) (f : Ev → Option (List D × Ev)) : Ev → Option Out := fun E => if (!lk i && !lk j) = true then (match f E with | some ([d1, d2], E1) => some (.nx ((E1.set i (some d1)).set j (some d2))) | _ => none) else none
theorem sd_par {i j : Nat} {x y : Str} {a b : Expr} {px py pt : Pos} {kt k2 pt2} {f} (hN : Y.N.Nodup) (hi : Y.N[i]? = some x) (hj : Y.N[j]? = some y) (hij : i ≠ j)
    (hx : Y.sc.names.lookup x = some .local) (hy : Y.sc.names.lookup y = some .local) (ha : PDa Y [a, b] f)
    (hw : ∀ X, Y.Is X → swappedStores [.Tuple [.Name x px, .Name y py] kt pt] (.Tuple [a, b] k2 pt2) X.env = pure (some [x, y]))
    (hs : ∀ X, Y.Is X → swapsWithSole [.Tuple [.Name x px, .Name y py] kt pt] (.Tuple [a, b] k2 pt2) pos.line X.env = pure false := by intro _ _; rfl) :
    SD Y (.Assign [.Tuple [.Name x px, .Name y py] kt pt] (.Tuple [a, b] k2 pt2) pos) lk (sPar lk i j f) := by
  obtain ⟨_, p, q⟩ := ha
  refine ⟨_, fun X h => ps_par h.calm (h.nd hN) (h.nm hi) (h.nm hj) hij (by rw [h.sc]; exact hx) (by rw [h.sc]; exact hy) (p X h) (hw X h) (hs X h), fun F H O σ E o e w s N h => ?_⟩
  unfold sPar at e
  split at e
  · rename_i hl
    simp only [Bool.and_eq_true, Bool.not_eq_true'] at hl
    split at e
    · rename_i d1 d2 E1 ed
      cases e
      refine q F H O σ E _ E1 ed w s _ fun vs F' H' A O' x w' r s' => ?_
      cases r with
      | @cons v1 vs1 _ _ A1 A2 r1 r2 =>
        obtain ⟨v2, e2, r3⟩ := r2.one_inv
        subst e2
        refine ⟨v1, v2, rfl, ?_⟩
        have pm : ((A1 ++ A2) ++ O').Perm (A2 ++ (A1 ++ O')) := by
          rw [← List.append_assoc A2 A1 O']
          exact List.Perm.append_right O' List.perm_append_comm
        have w2 := w'.perm pm
        obtain ⟨O1, s1, w1, m1⟩ := s'.assign (i := i) w2.right r1
        have w3 : Own F' H' (A2 ++ O1) := w2.frame (Ext.refl.sub (fun b h => h) fun b h => .inr (m1 b h)) w1
        obtain ⟨O2, s2, w4, m2⟩ := s1.assign (i := j) w3 r3
        refine h _ F' H' O2 ⟨by rw [List.length_set, List.length_set], fun k hk => ?_⟩ (x.sub (fun _ m => m) fun b m => ?_) w4 s2
        · have n1 : i ≠ k := fun z => by rw [z, hk] at hl; cases hl.1
          have n2 : j ≠ k := fun z => by rw [z, hk] at hl; cases hl.2
          rw [List.getElem?_set_ne n2, List.getElem?_set_ne n1]
        · refine .inl ?_
          rcases List.mem_append.mp (m2 b m) with m | m
          · exact List.mem_append_left _ (List.mem_append_right _ m)
          · rcases List.mem_append.mp (m1 b m) with m | m
            · exact List.mem_append_left _ (List.mem_append_left _ m)
            · exact List.mem_append_right _ m
    · cases e
  · cases e
end
end Dm

namespace Dm
open PySem PySem.Spec L2
open PyProof.Rows hiding St
/-! ### a slot's object changed -/
section
variable {K : PySem.W.Frag} {mg : Md} {F H F' H' : Hp} {O O' A B C : List Addr} {σ : L2.St} {E : Ev} {i : Nat} {d : D} {v : V} {vs : List V} {ds : List D}
/-- a slot's object is changed, by what B owns besides; C is what comes of it -/
theorem RpS.changeB (w : Own F H (B ++ O)) (h : RpS K mg F H σ E O) (e : E[i]? = some (some d)) : ∃ v A, σ[i]? = some (some v) ∧ Rp K mg F H v d A ∧ Own F H (A ++ B) ∧
    ∀ (F' H' : Hp) (d' : D) (A' C : List Addr), Ext F H (A ++ B) F' H' (A' ++ C) → Own F' H' (A' ++ C) → Rp K mg F' H' v d' A' →
      ∃ O', RpS K mg F' H' σ (E.set i (some d')) O' ∧ Own F' H' (C ++ O') ∧ Ext F H (B ++ O) F' H' (C ++ O') := by
  obtain ⟨v, O1, A, O2, eq, es, r, go⟩ := h.focus e
  subst eq
  have p : (B ++ (O1 ++ (A ++ O2))).Perm ((O1 ++ O2) ++ (A ++ B)) := by
    have p1 : (O1 ++ (A ++ O2)).Perm ((O1 ++ O2) ++ A) := by
      refine (List.Perm.append_left O1 List.perm_append_comm).trans ?_
      rw [List.append_assoc]
    refine (List.Perm.append_left B p1).trans ?_
    refine List.perm_append_comm.trans ?_
    rw [List.append_assoc]
  have w1 := w.perm p
  refine ⟨v, A, es, r, w1.right, fun F' H' d' A' C x w' r' => ?_⟩
  have q := go F' H' v d' A' (fun k m => k.ext x fun b hb => w1.apart b (m b hb)) r'
  rw [set_same es] at q
  have p' : ((O1 ++ O2) ++ (A' ++ C)).Perm (C ++ (O1 ++ (A' ++ O2))) := by
    have p1 : (O1 ++ (A' ++ O2)).Perm ((O1 ++ O2) ++ A') := by
      refine (List.Perm.append_left O1 List.perm_append_comm).trans ?_
      rw [List.append_assoc]
    refine List.Perm.trans ?_ (List.Perm.append_left C p1.symm)
    refine List.Perm.trans ?_ List.perm_append_comm
    rw [List.append_assoc (O1 ++ O2) A' C]
  exact ⟨_, q, (w1.frame x w').perm p', (x.frame w1).perm p.symm p'⟩
theorem RpL.set : ∀ {ds : List D} {vs : List V} {A : List Addr} {j : Nat} {v : V} {d : D}, RpL K mg F H vs ds A → Rp K mg F H v d B → j < ds.length → (∀ a ∈ A, a ∉ B) → A.Nodup → B.Nodup →
    ∃ A', RpL K mg F H (vs.set j v) (ds.set j d) A' ∧ A'.Nodup ∧ ∀ a ∈ A', a ∈ A ∨ a ∈ B
  | [], _, _, _, _, _, _, _, h, _, _, _ => by simp at h
  | d0 :: ds, _, _, 0, v, d, .cons (O1 := P1) (O2 := P2) h1 h2, r, _, n, nA, nB => by
    have nd := List.nodup_append.mp nA
    refine ⟨B ++ P2, .cons r h2, List.nodup_append.mpr ⟨nB, nd.2.1, fun a x b y e => n b (List.mem_append_right _ y) (e ▸ x)⟩, fun a m => ?_⟩
    rcases List.mem_append.mp m with m | m
    · exact .inr m
    · exact .inl (List.mem_append_right _ m)
  | d0 :: ds, _, _, j + 1, v, d, .cons (O1 := P1) (O2 := P2) h1 h2, r, h, n, nA, nB => by
    have nd := List.nodup_append.mp nA
    obtain ⟨A', k, nd', m'⟩ := RpL.set (j := j) h2 r (by simpa using h) (fun a m => n a (List.mem_append_right _ m)) nd.2.1 nB
    refine ⟨P1 ++ A', .cons h1 k, List.nodup_append.mpr ⟨nd.1, nd', fun a x b y e => ?_⟩, fun a m => ?_⟩
    · subst e
      rcases m' a y with z | z
      · exact nd.2.2 a x a z rfl
      · exact n a (List.mem_append_left _ x) z
    · rcases List.mem_append.mp m with m | m
      · exact .inl (List.mem_append_left _ m)
      · rcases m' a m with z | z
        · exact .inl (List.mem_append_right _ z)
        · exact .inr z
/-- the list at a is written -/
theorem wr_ext {a : Addr} {vs us : List V} {As Bs Cs : List Addr} (w : Own F H ((a :: As) ++ Bs)) (e : H a = some (.lst vs)) (hs : ∀ b ∈ Cs, b ∈ (a :: As) ++ Bs) : Ext F H ((a :: As) ++ Bs) F (upd H a (.lst us)) Cs where
  fle := fun _ _ e => e
  hle := fun b o e n => by
    rw [upd_ne (fun z => n (by rw [z]; exact List.mem_append_left _ List.mem_cons_self))]; exact e
  dom := fun b e => by
    by_cases hb : b = a
    · subst hb; rw [upd_same]; simp
    · rw [upd_ne hb]; exact e
  fdom := fun _ e => .inl e
  odom := fun b m => .inl (hs b m)
theorem wr_own {a : Addr} {vs us : List V} {As Bs Cs : List Addr} (w : Own F H ((a :: As) ++ Bs)) (e : H a = some (.lst vs)) (nd : Cs.Nodup) (hs : ∀ b ∈ Cs, b ∈ (a :: As) ++ Bs) : Own F (upd H a (.lst us)) Cs where
  le := fun b o e => by
    have n : b ≠ a := fun z => by
      rw [z, w.out a (List.mem_append_left _ List.mem_cons_self)] at e
      cases e
    rw [upd_ne n]
    exact w.le b o e
  nd := nd
  out := fun b m => w.out b (hs b m)
  alive := fun b m => by
    by_cases hb : b = a
    · subst hb; rw [upd_same]; simp
    · rw [upd_ne hb]; exact w.alive b (hs b m)
/-- what does not rest on the list that is written -/
theorem wr_rpl {a : Addr} {vs us : List V} (n : a ∉ A) (hF : F a = none) (r : RpL K mg F H ws ds A) (e : H a = some (.lst vs)) : RpL K mg F (upd H a (.lst us)) ws ds A := by
  have x : Ext F H [a] F (upd H a (.lst us)) [a] := ⟨fun _ _ e => e, fun b o e n => by rw [upd_ne (fun z => n (by simp [z]))]; exact e, fun b e => by
    by_cases hb : b = a
    · subst hb; rw [upd_same]; simp
    · rw [upd_ne hb]; exact e, fun _ e => .inl e, fun _ m => .inl m⟩
  exact r.ext x fun b m q => by
    simp at q
    subst q
    exact n m
theorem wr_rp {a : Addr} {vs us : List V} (n : a ∉ A) (hF : F a = none) (r : Rp K mg F H v d A) (e : H a = some (.lst vs)) : Rp K mg F (upd H a (.lst us)) v d A := by
  have x : Ext F H [a] F (upd H a (.lst us)) [a] := ⟨fun _ _ e => e, fun b o e n => by rw [upd_ne (fun z => n (by simp [z]))]; exact e, fun b e => by
    by_cases hb : b = a
    · subst hb; rw [upd_same]; simp
    · rw [upd_ne hb]; exact e, fun _ e => .inl e, fun _ m => .inl m⟩
  exact r.ext x fun b m q => by
    simp at q
    subst q
    exact n m
end
/-! ### methods of an owned list that stands in a slot -/
section
variable (K : PySem.W.Frag) (mg : Md)
/-- r: the method by values; op: the items and the arguments to the answer and the items behind it -/
def RMok (r : V → List V → Hp → VK → Prop) (op : List D → List D → Option (D × List D)) : Prop := ∀ (F H : Hp) (a : Addr) (us : List V) (xs : List D) (vs : List V) (ds : List D) (d : D) (xs' : List D) (As Bs : List Addr),
  op xs ds = some (d, xs') → Own F H ((a :: As) ++ Bs) → H a = some (.lst us) → us.length ≤ sizeLine → RpL K mg F H us xs As → RpL K mg F H vs ds Bs →
    ∀ Q : VK, (∀ v us' As' C, us'.length ≤ sizeLine → (As' ++ C).Nodup → (∀ b ∈ As' ++ C, b ∈ As ∨ b ∈ Bs) → RpL K mg F H us' xs' As' → Rp K mg F H v d C → Q v (upd H a (.lst us'))) → r (.ref a) vs H Q
end
def eMt (i : Nat) (op : List D → List D → Option (D × List D)) (g : Ev → Option (List D × Ev)) : Ev → Option (D × Ev) := fun E => match E[i]? with
  | some (some (.lst true _)) => (match g E with
    | some (ds, E1) => (match E1[i]? with
      | some (some (.lst true xs)) => (match op xs ds with | some (d, xs') => some (d, E1.set i (some (.lst true xs'))) | none => none)
      | _ => none)
    | none => none)
  | _ => none
theorem Rp.lstO_inv {K : PySem.W.Frag} {mg : Md} {F H : Hp} {v : V} {ds : List D} {A : List Addr} (r : Rp K mg F H v (.lst true ds) A) : ∃ a vs As, v = .ref a ∧ A = a :: As ∧ H a = some (.lst vs) ∧ vs.length ≤ sizeLine ∧ RpL K mg F H vs ds As := by
  cases r with
  | lstO e _ z h => exact ⟨_, _, _, rfl, rfl, e, z, h⟩
section
variable {Y : Fm} {pos : Pos} {K : PySem.W.Frag} {mg : Md}
theorem de_mt {i : Nat} {t : TA} {g} {r : V → List V → Hp → VK → Prop} {op} (hr : RMok K mg r op) (q : Da K mg t g) : De K mg (tBM K "list" r (tVar i) t) (eMt i op g) := by
  intro F H O σ E d E' e w s Q hQ
  unfold eMt at e
  split at e
  · rename_i xs0 e0
    split at e
    · rename_i ds E1 eg
      split at e
      · rename_i xs e1
        split at e
        · rename_i d' xs' eo
          cases e
          obtain ⟨v0, A0, es0, r0⟩ := s.get w e0
          obtain ⟨a0, us0, As0, ev0, _, h0, _, _⟩ := r0.lstO_inv
          refine ⟨v0, es0, by rw [ev0]; exact .inl ⟨rfl, _, SqL.of h0⟩, q F H O σ E ds _ eg w s _ fun vs F1 H1 B O1 x1 w1 r1 s1 => ?_⟩
          obtain ⟨v1, A1, es1, rv, wA, go⟩ := s1.changeB w1 e1
          have ev : v0 = v1 := by
            rw [es0] at es1
            exact Option.some.inj (Option.some.inj es1)
          subst ev
          obtain ⟨a, us, As, eva, eA, h1, z1, rl⟩ := rv.lstO_inv
          subst eA
          rw [eva]
          have hF := wA.out a (List.mem_append_left _ List.mem_cons_self)
          have ndA := List.nodup_append.mp wA.nd
          refine hr F1 H1 a us xs vs ds d xs' As B eo wA h1 z1 rl r1 Q fun u us' As' C z2 nd hs rl' ru => ?_
          have nA : a ∉ As' ++ C := fun m => by
            rcases hs a m with m | m
            · exact (List.nodup_cons.mp ndA.1).1 m
            · exact ndA.2.2 a List.mem_cons_self a m rfl
          have hs' : ∀ b ∈ (a :: As') ++ C, b ∈ (a :: As) ++ B := fun b m => by
            rw [List.cons_append] at m
            rcases List.mem_cons.mp m with z | m
            · rw [z]; exact List.mem_append_left _ List.mem_cons_self
            · rcases hs b m with m | m
              · exact List.mem_append_left _ (List.mem_cons_of_mem _ m)
              · exact List.mem_append_right _ m
          have nd' : ((a :: As') ++ C).Nodup := by rw [List.cons_append]; exact List.nodup_cons.mpr ⟨nA, nd⟩
          have xw := wr_ext (us := us') wA h1 hs'
          have ww := wr_own (us := us') wA h1 nd' hs'
          have rn := wr_rpl (us := us') (fun m => nA (List.mem_append_left _ m)) hF rl' h1
          have ru' := wr_rp (us := us') (fun m => nA (List.mem_append_right _ m)) hF ru h1
          obtain ⟨O', s', w', x'⟩ := go F1 _ (.lst true xs') (a :: As') C xw ww (by rw [eva]; exact .lstO upd_same hF z2 rn)
          exact hQ u F1 _ C O' (x1.trans x') w' ru' s'
        · cases e
      · cases e
    · cases e
  · cases e
theorem pd_bm {i : Nat} {c : Expr} {es : List Expr} {g} {r : V → List V → Hp → VK → Prop} {op} (hr : RMok Y.K Y.mg r op) (ha : PDa Y es g) (mk : ∀ t X, Y.Is X → PA X es t → PE X c (tBM Y.K "list" r (tVar i) t)) : PD Y c (eMt i op g) := by
  obtain ⟨t, p, q⟩ := ha
  exact ⟨_, fun X h => mk t X h (p X h), de_mt hr q⟩
/-! append, extend, insert, pop -/
def mAppend : List D → List D → Option (D × List D) := fun xs ds => match ds with | [y] => (if xs.length < sizeLine then some (.non, xs ++ [y]) else none) | _ => none
theorem ok_append : RMok K mg rAppend mAppend := by
  intro F H a us xs vs ds d xs' As Bs e w h z r rd Q hQ
  unfold mAppend at e
  split at e
  · split at e
    · cases e
      rename_i hl
      obtain ⟨v, ev, rv⟩ := rd.one_inv
      subst ev
      have l1 := r.length
      refine ⟨a, us, v, rfl, rfl, h, by omega, hQ .non (us ++ [v]) (As ++ Bs) [] (by rw [List.length_append]; simp; omega) ?_ (fun b m => ?_) ?_ .non⟩
      · rw [List.append_nil]
        have q := w.nd
        rw [List.cons_append] at q
        exact (List.nodup_cons.mp q).2
      · rw [List.append_nil] at m
        exact List.mem_append.mp m
      · have q : RpL K mg F H [v] [_] (Bs ++ []) := .cons rv .nil
        rw [List.append_nil] at q
        exact r.append q
    · cases e
  · cases e
def mExtend : List D → List D → Option (D × List D) := fun xs ds => match ds with | [.lst _ ys] => (if xs.length + ys.length ≤ sizeLine ∧ isFzL ys = true then some (.non, xs ++ ys) else none) | _ => none
theorem ok_extend : RMok K mg rExtend mExtend := by
  intro F H a us xs vs ds d xs' As Bs e w h z r rd Q hQ
  unfold mExtend at e
  split at e
  · split at e
    · cases e
      rename_i hl
      obtain ⟨v, ev, rv⟩ := rd.one_inv
      obtain ⟨b, ws, _, eb, h2, z2, r2, _⟩ := rv.lst_inv w.le
      subst ev
      have l1 := r.length
      have l2 := r2.length
      have hn := r2.nilOf hl.2
      refine ⟨a, b, us, ws, rfl, by rw [eb], h, h2, by omega, hQ .non (us ++ ws) As [] (by rw [List.length_append]; omega) ?_ (fun b m => ?_) ?_ .non⟩
      · rw [List.append_nil]
        exact (List.nodup_cons.mp (List.nodup_append.mp w.nd).1).2
      · rw [List.append_nil] at m
        exact .inl m
      · have q := r.append hn
        rw [List.append_nil] at q
        exact q
    · cases e
  · cases e
def mPopAt : List D → List D → Option (D × List D) := fun xs ds => match ds with
  | [.int i] => if -(2 ^ 63) ≤ i ∧ i < 2 ^ 63 then (match seqIndex? i xs.length with
    | some k => (match xs[k]? with | some d => (if isFzL xs = true then some (d, xs.eraseIdx k) else none) | none => none)
    | none => none) else none
  | _ => none
theorem RpL.eraseIdx {F H : Hp} : ∀ (k : Nat) {ds : List D} {vs : List V}, RpL K mg F H vs ds [] → RpL K mg F H (vs.eraseIdx k) (ds.eraseIdx k) []
  | _, [], [], h => h
  | 0, d :: ds, v :: vs, h => h.split.2
  | k + 1, d :: ds, v :: vs, h => .cons_nil h.split.1 (RpL.eraseIdx k h.split.2)
  | _, [], _ :: _, h => by have := h.length; simp at this
  | _, _ :: _, [], h => by have := h.length; simp at this
theorem ok_popAt : RMok K mg rPopAt mPopAt := by
  intro F H a us xs vs ds d xs' As Bs e w h z r rd Q hQ
  unfold mPopAt at e
  split at e
  · rename_i i
    split at e
    · rename_i hi
      split at e
      · rename_i k ek
        split at e
        · rename_i d' ed
          split at e
          · rename_i hz
            cases e
            obtain ⟨v, ev, rv⟩ := rd.one_inv
            subst ev
            have hn := r.nilOf hz
            obtain ⟨u, B, eu, ru, mB⟩ := hn.get ed
            have eB : B = [] := List.eq_nil_iff_forall_not_mem.mpr fun b m => by have := mB b m; cases this
            subst eB
            have l1 := r.length
            refine ⟨a, us, i, k, u, rfl, by rw [rv.int_inv], h, hi.1, hi.2, by rw [l1]; exact ek, eu, hQ u (us.eraseIdx k) [] [] ?_ (by simp) (fun b m => by cases m) (hn.eraseIdx k) ru⟩
            exact Nat.le_trans (len_erase us k) z
          · cases e
        · cases e
      · cases e
    · cases e
  · cases e
theorem RpL.rev {F H : Hp} {vs : List V} {ds : List D} (r : RpL K mg F H vs ds []) : RpL K mg F H vs.reverse ds.reverse [] := by
  have go : ∀ {ds : List D} {vs : List V}, RpL K mg F H vs ds [] → ∀ {es : List D} {ws : List V}, RpL K mg F H ws es [] → RpL K mg F H (vs.reverseAux ws) (ds.reverseAux es) [] := by
    intro ds
    induction ds with
    | nil =>
      intro vs h es ws k
      cases vs with
      | nil => exact k
      | cons v vs => have := h.length; simp at this
    | cons d ds ih =>
      intro vs h es ws k
      cases vs with
      | nil => have := h.length; simp at this
      | cons v vs => exact ih h.split.2 (.cons_nil h.split.1 k)
  exact go r .nil
def mPop : List D → List D → Option (D × List D) := fun xs ds => match ds with
  | [] => (match xs[xs.length - 1]? with | some d => (if isFzL xs = true then some (d, xs.dropLast) else none) | none => none)
  | _ => none
theorem RpL.dropLast {F H : Hp} {ds : List D} {vs : List V} (r : RpL K mg F H vs ds []) : RpL K mg F H vs.dropLast ds.dropLast [] := by
  rw [List.dropLast_eq_take, List.dropLast_eq_take, r.length]
  exact r.take _
theorem ok_pop : RMok K mg rPop mPop := by
  intro F H a us xs vs ds d xs' As Bs e w h z r rd Q hQ
  unfold mPop at e
  split at e
  · split at e
    · rename_i d' ed
      split at e
      · rename_i hz
        cases e
        cases rd
        have hn := r.nilOf hz
        obtain ⟨u, B, eu, ru, mB⟩ := hn.get ed
        have eB : B = [] := List.eq_nil_iff_forall_not_mem.mpr fun b m => by have := mB b m; cases this
        subst eB
        have l1 := r.length
        refine ⟨a, us, u, rfl, rfl, h, by rw [l1]; exact eu, hQ u us.dropLast [] [] ?_ (by simp) (fun b m => by cases m) hn.dropLast ru⟩
        rw [List.length_dropLast]; omega
      · cases e
    · cases e
  · cases e
def mReverse : List D → List D → Option (D × List D) := fun xs ds => match ds with | [] => (if isFzL xs = true then some (.non, xs.reverse) else none) | _ => none
theorem ok_reverse : RMok K mg rReverse mReverse := by
  intro F H a us xs vs ds d xs' As Bs e w h z r rd Q hQ
  unfold mReverse at e
  split at e
  · split at e
    · rename_i hz
      cases e
      cases rd
      exact ⟨a, us, rfl, rfl, h, hQ .non us.reverse [] [] (by rw [List.length_reverse]; exact z) (by simp) (fun b m => by cases m) (r.nilOf hz).rev .non⟩
    · cases e
  · cases e
end
end Dm

namespace Dm
open PySem PySem.Spec L2
open PyProof.Rows hiding St
/-! ### x op= e -/
def sAug (lk : Lks) (i : Nat) (op : D → D → Option D) (f : Ev → Option (D × Ev)) : Ev → Option Out := fun E => if (!lk i) = true then (match E[i]? with
  | some (some d0) => (if isFz d0 = true then (match f E with | some (d1, E1) => (match op d0 d1 with | some d => some (.nx (E1.set i (some d))) | none => none) | none => none) else none)
  | _ => none) else none
section
variable {Y : Fm} {pos : Pos} {lk : Lks} {K : PySem.W.Frag} {mg : Md}
theorem sd_aug {i : Nat} {x : Str} {e : Expr} {op : Operator} {r : R2} {f} {fo : D → D → Option D} {pos' : Pos} (ho : OpY Y (inplaceOp op) r) (hr : R2ok Y.K Y.mg r fo) (hN : Y.N.Nodup) (hi : Y.N[i]? = some x) (hx : Loc Y.sc x) (he : PD Y e f)
    (hf : Y.fn x = true ∨ Y.sc.names.lookup x = some .local := by first | exact .inl rfl | exact .inr rfl | assumption) : SD Y (.AugAssign (.Name x pos') op e pos) lk (sAug lk i fo f) := by
  obtain ⟨_, p, q⟩ := he
  refine ⟨_, fun X h => ps_aug (h.nd hN) (h.nm hi) (h.loc hx) (p X h) (ti := r) (fun pins s σ H x y v u Q I rx ry k => ho X h pins s σ H x y v u Q I rx ry k) (h.st hf), fun F H O σ E o e w s N h => ?_⟩
  unfold sAug at e
  split at e
  · rename_i hl
    split at e
    · rename_i d0 e0
      split at e
      · rename_i z0
        split at e
        · rename_i d1 E1 e1
          split at e
          · rename_i d eo
            cases e
            obtain ⟨v0, A0, es0, r0⟩ := s.get w e0
            have zA := r0.fz z0
            subst zA
            refine ⟨v0, es0, q F H O σ E d1 E1 e1 w s _ fun v F1 H1 A O1 x1 w1 r1 s1 => ?_⟩
            refine hr F1 H1 v0 v d0 d1 d [] A eo w1.le (r0.ext x1 fun b m => by cases m) r1 _ fun u F2 H2 C x2 nd hf r2 => ?_
            have wO := w1.right
            have w2 := wO.fresh x2 nd hf r2.alive
            obtain ⟨O', s3, w3, m3⟩ := (x2.rps s1).assign (i := i) w2 r2
            refine h _ F2 H2 O' ⟨List.length_set, fun k hk => ?_⟩ ?_ w3 s3
            · have n1 : i ≠ k := fun z => by
                subst z
                rw [hk] at hl
                cases hl
              rw [List.getElem?_set_ne n1]
            · refine (x1.sub (fun _ m => m) fun b m => .inl (List.mem_append_right A m)).trans ?_
              exact (Ext.fresh (O := O1) x2 hf).sub (fun _ m => m) fun b m => .inl (m3 b m)
          · cases e
        · cases e
      · cases e
    · cases e
  · cases e
abbrev rIAddX : R2 := fun x y H Q => (rI0 fun i j => V.int (i + j)) x y H Q ∨ ∃ i j : Str, x = .str i ∧ y = .str j ∧ i.length + j.length ≤ sizeLine ∧ Q (.str (i ++ j)) H
theorem op_iaddX {X : Cx} : OpR X (inplaceOp .Add) rIAddX := iop_add.or iop_add_str
def opIAdd : D → D → Option D
  | .int i, .int j => some (.int (i + j))
  | .str x, .str y => if x.length + y.length ≤ sizeLine then some (.str (x ++ y)) else none
  | _, _ => none
theorem ok_iadd : R2ok K mg rIAddX opIAdd := by
  intro F H x y dx dy d A B e f rx ry Q hQ
  cases dx <;> cases dy <;> simp only [opIAdd] at e <;> try (cases e; done)
  · cases e
    exact .inl ⟨_, _, rx.int_inv, ry.int_inv, give f (.int _) hQ⟩
  · split at e
    · cases e
      rename_i z
      exact .inr ⟨_, _, rx.str_inv, ry.str_inv, z, give f (.str _) hQ⟩
    · cases e
/-! ### x[i] = e, x[i] op= e -/
def setAt (xs : List D) (k d : D) : Option (List D) := match k with | .int k => (match ixN xs.length k with | some j => some (xs.set j d) | none => none) | _ => none
def gdSub (i : Nat) (fi : Ev → Option D) : D → Ev → Option Ev := fun d E => match E[i]? with
  | some (some (.lst true xs)) => (match fi E with | some k => (match setAt xs k d with | some ys => some (E.set i (some (.lst true ys))) | none => none) | none => none)
  | _ => none
theorem setAt_some {xs ys : List D} {k d : D} (e : setAt xs k d = some ys) : ∃ n j, k = .int n ∧ ixN xs.length n = some j ∧ ys = xs.set j d := by
  unfold setAt at e
  split at e
  · split at e
    · rename_i j ej
      cases e
      exact ⟨_, j, rfl, ej, rfl⟩
    · cases e
  · cases e
/-- the write itself -/
theorem set_core {F H : Hp} {B O : List Addr} {σ : L2.St} {E : Ev} {i : Nat} {xs : List D} {n : Int} {j : Nat} {d : D} {v : V} (w : Own F H (B ++ O)) (s : RpS K mg F H σ E O) (e : E[i]? = some (some (.lst true xs))) (ej : ixN xs.length n = some j) (r : Rp K mg F H v d B)
    {o : V} (eo : σ[i]? = some (some o)) {Q : Hp → Prop} (h : ∀ H' O', Ext F H (B ++ O) F H' O' → Own F H' O' → RpS K mg F H' σ (E.set i (some (.lst true (xs.set j d)))) O' → Q H') : rSetL o (.int n) v H Q := by
  obtain ⟨v1, A1, es1, rv, wA, go⟩ := s.changeB w e
  have ev : o = v1 := by
    rw [eo] at es1
    exact Option.some.inj (Option.some.inj es1)
  subst ev
  obtain ⟨a, us, As, eva, eA, h1, z1, rl⟩ := rv.lstO_inv
  subst eA
  have hF := wA.out a (List.mem_append_left _ List.mem_cons_self)
  have ndA := List.nodup_append.mp wA.nd
  have ndc := List.nodup_cons.mp ndA.1
  have hj := ixN_some ej
  obtain ⟨As', rl', nd', m'⟩ := rl.set r hj (fun b m => fun q => ndA.2.2 b (List.mem_cons_of_mem _ m) b q rfl) ndc.2 ndA.2.1
  refine ⟨a, us, n, j, eva, rfl, h1, by rw [rl.length]; exact ej, ?_⟩
  have nA : a ∉ As' := fun m => by
    rcases m' a m with m | m
    · exact ndc.1 m
    · exact ndA.2.2 a List.mem_cons_self a m rfl
  have hs' : ∀ b ∈ (a :: As') ++ [], b ∈ (a :: As) ++ B := fun b m => by
    rw [List.append_nil] at m
    rcases List.mem_cons.mp m with z | m
    · rw [z]; exact List.mem_append_left _ List.mem_cons_self
    · rcases m' b m with m | m
      · exact List.mem_append_left _ (List.mem_cons_of_mem _ m)
      · exact List.mem_append_right _ m
  have nd2 : ((a :: As') ++ []).Nodup := by rw [List.append_nil]; exact List.nodup_cons.mpr ⟨nA, nd'⟩
  have xw := wr_ext (us := us.set j v) wA h1 hs'
  have ww := wr_own (us := us.set j v) wA h1 nd2 hs'
  obtain ⟨O', s', w', x'⟩ := go F _ (.lst true (xs.set j d)) (a :: As') [] xw ww (by rw [eva]; exact .lstO upd_same hF (by rw [List.length_set]; exact z1) (wr_rpl nA hF rl' h1))
  exact h _ O' x' w' s'
theorem gd_sub {i : Nat} {x : Str} {px : Pos} {ix : Expr} {fi} (hN : Y.N[i]? = some x) (hv : Vis Y.sc x) (hi : PQ Y ix fi)
    (ha : ∀ X : Cx, ∀ v, assign (.Subscript (.Name x px) ix pos) X.env v = (do
      let ov ← holding [v] (eval (.Name x px) X.env)
      let iv ← holding [v, ov] (eval ix X.env)
      standAt pos
      holding [v, ov, iv] (setItem ov iv v)
      release [v, ov, iv] []) := by intro _ _; rfl)
    (hd : (x == ("__debug__" : Str)) = false := by decide) (hcd : (x == ("__classdict__" : Str)) = false := by decide) : GD Y (.Subscript (.Name x px) ix pos) [] (gdSub i fi) := by
  obtain ⟨_, p, q⟩ := hi
  refine ⟨_, fun X h => pg_sub (pe_var (h.nm hN) (h.vis hv) hd hcd) (p X h) set_list (ha X), fun F H A O σ E E' v d e w r s Q h => ?_⟩
  unfold gdSub at e
  split at e
  · rename_i xs e0
    split at e
    · rename_i k ek
      split at e
      · rename_i ys ey
        cases e
        obtain ⟨n, j, en, ej, eys⟩ := setAt_some ey
        subst en eys
        obtain ⟨v0, A0, es0, _⟩ := s.get w.right e0
        refine ⟨v0, es0, q F H O σ E _ ek w.right s _ fun kv F1 H1 A1 x1 r1 => ?_⟩
        rw [r1.int_inv]
        refine set_core (x1.own w) (x1.rps s) e0 ej (x1.rp r) es0 fun H' O' x' w' s' => ?_
        exact h σ F1 H' O' Tch.refl (x1.extO.trans x') w' s'
      · cases e
    · cases e
  · cases e
def rGetL (K : PySem.W.Frag) : V → V → Hp → VK → Prop := rIxL K
theorem get_list {X : Cx} : PGet X (rGetL X.K) := by
  intro pins s σ H o i ov iv Q I ro ri h
  obtain ⟨p, xs, k, z, rfl, rfl, hq, he, q⟩ := h
  cases ro
  obtain ⟨t, rfl⟩ := ri
  obtain ⟨its, r, pl, hz⟩ := I.list hq
  obtain ⟨j, h1, h2, h3, h4, h5⟩ := atI_get he
  obtain ⟨w, ew, rw'⟩ := r.get h2
  have hl := r.length
  have hn := line63
  have fin : EP X pins σ Q w s := ⟨z, H, I, rw', q⟩
  by_cases h0 : 0 ≤ k
  · have hj : k.toNat = j := by
      rw [seqIndex_of h0 h5] at h1
      exact Option.some.inj h1
    exact wpAny_getItem_list pl.isList h0 (by omega) (by rw [hj]; simpa using ew) fin
  · have hj : (k + (its.toArray.size : Int)).toNat = j := by
      rw [seqIndex_neg (by omega) h4] at h1
      rw [List.size_toArray, ← hl]
      exact Option.some.inj h1
    exact wpAny_getItem_list_neg pl.isList (by omega) (by rw [List.size_toArray] <;> omega) (by omega) (by rw [hj]; simpa using ew) fin
/-- slot[k] op= e, k and e quiet -/
def sAugIx (i : Nat) (op : D → D → Option D) (fi fe : Ev → Option D) : Ev → Option Out := fun E => match E[i]? with
  | some (some (.lst true xs)) => (match fi E with
    | some k => (match opIxF (.lst true xs) k with
      | some old => (match fe E with
        | some y => (match op old y with | some d => (if isFz d = true then (match setAt xs k d with | some ys => some (.nx (E.set i (some (.lst true ys)))) | none => none) else none) | none => none)
        | none => none)
      | none => none)
    | none => none)
  | _ => none
theorem sd_augIx {i : Nat} {x : Str} {px tpos : Pos} {ix e : Expr} {op : Operator} {r : R2} {fi fe} {fo : D → D → Option D} (ho : OpY Y (inplaceOp op) r) (hr : R2ok Y.K Y.mg r fo) (hN : Y.N[i]? = some x) (hv : Vis Y.sc x) (hi : PQ Y ix fi) (he : PQ Y e fe)
    (ha : ∀ ov iv new, augStore ix ov iv new = (do holding [new, ov, iv] (setItem ov iv new); release [new, ov, iv] []; pure .next) := by intros; rfl)
    (hd : (x == ("__debug__" : Str)) = false := by decide) (hcd : (x == ("__classdict__" : Str)) = false := by decide) : SD Y (.AugAssign (.Subscript (.Name x px) ix tpos) op e pos) lk (sAugIx i fo fi fe) := by
  obtain ⟨_, p, q⟩ := hi
  obtain ⟨_, p', q'⟩ := he
  refine ⟨_, fun X h => ps_augS (pe_var (h.nm hN) (h.vis hv) hd hcd) (p X h) (h.K ▸ get_list) (p' X h) (tip := r) (fun pins s σ H x y v u Q I rx ry k => ho X h pins s σ H x y v u Q I rx ry k) set_list ha, fun F H O σ E o e w s N h => ?_⟩
  unfold sAugIx at e
  split at e
  · rename_i xs e0
    split at e
    · rename_i k ek
      split at e
      · rename_i old eold
        split at e
        · rename_i y ey
          split at e
          · rename_i d ed
            split at e
            · rename_i hz
              split at e
              · rename_i ys eys
                cases e
                obtain ⟨n, j, en, ej, eys'⟩ := setAt_some eys
                subst en eys'
                obtain ⟨v0, A0, es0, r0⟩ := s.get w e0
                obtain ⟨a0, us0, As0, ev0, _, h0, z0, rl0⟩ := r0.lstO_inv
                refine ⟨v0, es0, q F H O σ E _ ek w s _ fun kv F1 H1 A1 x1 r1 => ?_⟩
                rw [r1.int_inv]
                obtain ⟨eo1, z1⟩ := fzOnly_some eold
                obtain ⟨ov, C, e3, r3, _⟩ := atI_rp (x1.rpl rl0) (show atI xs n = some old from eo1)
                have zC := r3.fz z1
                subst zC
                refine ⟨a0, us0, n, ov, ev0, rfl, SqL.of (x1.hle _ _ h0), e3, ?_⟩
                refine q' F1 H1 O σ E y ey (x1.own w) (x1.rps s) _ fun yv F2 H2 A2 x2 r2 => ?_
                refine hr F2 H2 ov yv old y d [] A2 ed x2.le (x2.rp r3) r2 _ fun u F3 H3 C3 x3 nd3 hf3 r4 => ?_
                have zC3 := r4.fz hz
                subst zC3
                have x := x1.trans (x2.trans x3)
                refine set_core (B := []) (x.own w) (x.rps s) e0 ej r4 es0 fun H' O' x' w' s' => ?_
                exact h σ F3 H' O' .refl (x.extO.trans x') w' s'
              · cases e
            · cases e
          · cases e
        · cases e
      · cases e
    · cases e
  · cases e
end
end Dm

namespace Dm
open PySem PySem.Spec L2
open PyProof.Rows hiding St
/-! ### what is walked -/
section
variable (K : PySem.W.Frag) (mg : Md)
structure ItOk (J : It) (F0 : Hp) (xs : List D) : Prop where
  go : ∀ (F H : Hp) (i : Nat) (x : D), (∀ a o, F0 a = some o → F a = some o) → (∀ a o, F a = some o → H a = some o) → xs[i]? = some x → J.go i H ∧ ∀ v H', J.yld i H v H' → ∃ F', Qx F H F' H' ∧ Rp K mg F' H' v x []
  stop : ∀ (F H : Hp) (i : Nat), (∀ a o, F0 a = some o → F a = some o) → (∀ a o, F a = some o → H a = some o) → xs.length = i → J.stop i H
def Di (wi : TI) (f : Ev → Option (List D × Ev)) : Prop := ∀ (F H : Hp) (O : List Addr) (σ : L2.St) (E : Ev) (xs : List D) (E' : Ev), f E = some (xs, E') → Own F H O → RpS K mg F H σ E O →
  ∀ R : It → Hp → Prop, (∀ J F' H' O', Ext F H O F' H' O' → Own F' H' O' → RpS K mg F' H' σ E' O' → ItOk K mg J F' xs → R J H') → wi σ H R
end
def ID (Y : Fm) (tg iter : Expr) (f : Ev → Option (List D × Ev)) : Prop := ∃ wi, (∀ X, Y.Is X → PI X tg iter wi) ∧ Di Y.K Y.mg wi f
def iSeq (f : Ev → Option (D × Ev)) : Ev → Option (List D × Ev) := fun E => match f E with
  | some (.lst _ xs, E1) => some (frozL xs, E1)
  | some (.scr xs, E1) => some (xs, E1)
  | some (.tup xs, E1) => if isFzL xs = true then some (xs, E1) else none
  | some (.str z, E1) => some (z.cps.toList.map fun c => .str ⟨#[c]⟩, E1)
  | _ => none
section
variable {K : PySem.W.Frag} {mg : Md} {F H F' H' : Hp} {O O' A B C : List Addr} {σ : L2.St} {E : Ev} {v : V} {d : D} {vs : List V} {ds : List D}
theorem pi_or {XX : Cx} {tg e : Expr} {w1 w2 : TI} (h1 : PI XX tg e w1) (h2 : PI XX tg e w2) : PI XX tg e (fun σ H R => w1 σ H R ∨ w2 σ H R) :=
  ⟨fun pins s σ H R I h => h.elim (h1.run pins s σ H R I) (h2.run pins s σ H R I)⟩
theorem itl_ok {a : Addr} {F0 : Hp} (e : SqL K F0 a vs) (r : RpL K mg F0 H vs ds []) : ItOk K mg (Itl K a) F0 ds where
  go := fun F H2 i x f g hx => by
    obtain ⟨u, B, hu, ru, mB⟩ := r.get hx
    have eB : B = [] := List.eq_nil_iff_forall_not_mem.mpr fun b m => by have := mB b m; cases this
    subst eB
    have es : SqL K H2 a vs := SqL.up (fun b o q => g b o (f b o q)) e
    refine ⟨⟨vs, u, es, hu⟩, fun v H' y => ?_⟩
    obtain ⟨y1, y2⟩ := y
    subst y1
    have := (y2 vs es).symm.trans hu
    cases this
    exact ⟨F, Qx.refl g, ru.up f⟩
  stop := fun F H2 i f g hi => ⟨vs, SqL.up (fun b o q => g b o (f b o q)) e, by rw [r.length]; exact Nat.le_of_eq hi⟩
theorem itt_ok {a : Addr} {F0 : Hp} (e : SqT K F0 a vs) (r : RpL K mg F0 H vs ds []) : ItOk K mg (Itt K a) F0 ds where
  go := fun F H2 i x f g hx => by
    obtain ⟨u, B, hu, ru, mB⟩ := r.get hx
    have eB : B = [] := List.eq_nil_iff_forall_not_mem.mpr fun b m => by have := mB b m; cases this
    subst eB
    have es : SqT K H2 a vs := SqT.up (fun b o q => g b o (f b o q)) e
    refine ⟨⟨vs, u, es, hu⟩, fun v H' y => ?_⟩
    obtain ⟨y1, y2⟩ := y
    subst y1
    have := (y2 vs es).symm.trans hu
    cases this
    exact ⟨F, Qx.refl g, ru.up f⟩
  stop := fun F H2 i f g hi => ⟨vs, SqT.up (fun b o q => g b o (f b o q)) e, by rw [r.length]; exact Nat.le_of_eq hi⟩
theorem its_ok {F0 : Hp} (z : Str) : ItOk K mg (Its z) F0 (z.cps.toList.map fun c => .str ⟨#[c]⟩) where
  go := fun F H2 i x f g hx => by
    rw [List.getElem?_map] at hx
    obtain ⟨c, hc, ex⟩ := Option.map_eq_some_iff.mp hx
    subst ex
    have hi : z.cps[i]? = some c := by simpa using hc
    have hl : i < z.cps.size := (Array.getElem?_eq_some_iff.mp hi).1
    refine ⟨hl, fun v H' y => ?_⟩
    obtain ⟨y1, c', y2, y3⟩ := y
    subst y1
    rw [hi] at y2
    cases y2
    subst y3
    exact ⟨F, Qx.refl g, .str _⟩
  stop := fun F H2 i f g hi => by
    show z.cps.size ≤ i
    exact Nat.le_of_eq (by simpa using hi)
theorem itr_ok {F0 : Hp} (lo : Int) (n : Nat) : ItOk K mg (Itr lo n) F0 ((List.range n).map fun (i : Nat) => .int (lo + (i : Nat))) where
  go := fun F H2 i x f g hx => by
    rw [List.getElem?_map] at hx
    obtain ⟨c, hc, ex⟩ := Option.map_eq_some_iff.mp hx
    subst ex
    obtain ⟨h1, h2⟩ := List.getElem?_eq_some_iff.mp hc
    rw [List.getElem_range] at h2
    subst h2
    rw [List.length_range] at h1
    refine ⟨h1, fun v H' y => ?_⟩
    obtain ⟨y1, y2⟩ := y
    subst y1 y2
    exact ⟨F, Qx.refl g, .int _⟩
  stop := fun F H2 i f g hi => by
    show n ≤ i
    exact Nat.le_of_eq (by simpa using hi)
theorem id_seq {Y : Fm} {tg e : Expr} {f} (h : PD Y e f) : ID Y tg e (iSeq f) := by
  obtain ⟨t, p, q⟩ := h
  refine ⟨_, fun X h => pi_or (h.K ▸ pi_list (p X h)) (pi_or (h.K ▸ pi_tup (p X h)) (pi_str (p X h))), fun F H O σ E xs E' e w s R hR => ?_⟩
  unfold iSeq at e
  split at e
  · rename_i b ys E1 ed
    cases e
    refine .inl (q F H O σ E _ _ ed w s _ fun v F1 H1 A O1 x1 w1 r1 s1 => ?_)
    have wA := w1.left
    have x2 := frz_ext wA
    have r2 := r1.freeze wA
    have w2 : Own (frz F1 H1 A) H1 (O1 ++ []) := w1.swap.frame x2 (Own.nil (frz_le wA))
    rw [List.append_nil] at w2
    have x3 : Ext F1 H1 (A ++ O1) (frz F1 H1 A) H1 O1 := x2.sub (fun b m => List.mem_append_left _ m) fun b m => .inr (List.mem_append_right _ m)
    have s2 := s1.ext x2 w1.swap.apart
    cases r2 with
    | lstF ea z rl => exact ⟨_, rfl, ⟨_, SqL.of (frz_le wA _ _ ea)⟩, hR _ _ _ O1 (x1.trans x3) w2 s2 (itl_ok (SqL.of ea) rl)⟩
  · rename_i ys E1 ed
    cases e
    refine .inl (q F H O σ E _ _ ed w s _ fun v F1 H1 A O1 x1 w1 r1 s1 => ?_)
    cases r1 with
    | scr ea z rl => exact ⟨_, rfl, ⟨_, SqL.up w1.le ea⟩, hR _ _ _ O1 x1 w1 s1 (itl_ok ea rl)⟩
  · rename_i ys E1 ed
    split at e
    · rename_i hz
      cases e
      refine .inr (.inl (q F H O σ E _ _ ed w s _ fun v F1 H1 A O1 x1 w1 r1 s1 => ?_))
      cases r1 with
      | tup ea z rl => exact ⟨_, rfl, ⟨_, SqT.up w1.le ea⟩, hR _ _ _ O1 (x1.sub (fun _ m => m) fun b m => .inl (List.mem_append_right _ m)) w1.right s1 (itt_ok ea (rl.nilOf hz))⟩
    · cases e
  · rename_i z E1 ed
    cases e
    refine .inr (.inr (q F H O σ E _ _ ed w s _ fun v F1 H1 A O1 x1 w1 r1 s1 => ?_))
    exact ⟨z, r1.str_inv, hR _ _ _ O1 (x1.sub (fun _ m => m) fun b m => .inl (List.mem_append_right _ m)) w1.right s1 (its_ok z)⟩
  · cases e
def rangeD (lo : Int) (n : Nat) : List D := (List.range n).map fun i => .int (lo + (i : Nat))
def big62 (i : Int) : Bool := decide (-(2 ^ 62) ≤ i ∧ i < 2 ^ 62)
def iRange (g : Ev → Option (List D × Ev)) : Ev → Option (List D × Ev) := fun E => match g E with
  | some ([.int j], E1) => if big62 j = true then some (rangeD 0 j.toNat, E1) else none
  | some ([.int i, .int j], E1) => if big62 i = true ∧ big62 j = true then some (rangeD i (j - i).toNat, E1) else none
  | _ => none
theorem big62_iff {i : Int} : big62 i = true ↔ -(2 ^ 62) ≤ i ∧ i < 2 ^ 62 := by unfold big62; exact decide_eq_true_iff
theorem id_range1 {Y : Fm} {tg a : Expr} {p pos : Pos} {g} (hg : GlY Y "range") (hm : Y.mg "range" = none) (ha : PDa Y [a] g) (hl : ∀ E ds E1, g E = some (ds, E1) → ds.length = 1) (hs : ∀ X : Cx, starEach [a] X.env = [(false, eval a X.env)] := by intro _; rfl) : ID Y tg (.Call (.Name "range" p) [a] [] pos) (iRange g) := by
  obtain ⟨t, p, q⟩ := ha
  refine ⟨_, fun X h => pi_range1 (h.gl hg) (h.mgN hm) (p X h) (hs X), fun F H O σ E xs E' e w s R hR => ?_⟩
  unfold iRange at e
  split at e
  · rename_i j E1 ed
    split at e
    · rename_i hj
      cases e
      obtain ⟨h1, h2⟩ := big62_iff.mp hj
      refine q F H O σ E _ _ ed w s _ fun vs F1 H1 A O1 x1 w1 r1 s1 => ?_
      obtain ⟨v, ev, rv⟩ := r1.one_inv
      subst ev
      exact ⟨j, by rw [rv.int_inv], h1, h2, hR _ _ _ O1 (x1.sub (fun _ m => m) fun b m => .inl (List.mem_append_right _ m)) w1.right s1 (itr_ok 0 _)⟩
    · cases e
  · rename_i ed
    have := hl _ _ _ ed
    simp at this
  · cases e
theorem id_range2 {Y : Fm} {tg a b : Expr} {p pos : Pos} {g} (hg : GlY Y "range") (hm : Y.mg "range" = none) (ha : PDa Y [a, b] g) (hl : ∀ E ds E1, g E = some (ds, E1) → ds.length = 2) (hs : ∀ X : Cx, starEach [a, b] X.env = [(false, eval a X.env), (false, eval b X.env)] := by intro _; rfl)
    (hs2 : ∀ X : Cx, starEach [b] X.env = [(false, eval b X.env)] := by intro _; rfl) : ID Y tg (.Call (.Name "range" p) [a, b] [] pos) (iRange g) := by
  obtain ⟨t, p, q⟩ := ha
  refine ⟨_, fun X h => pi_range2 (h.gl hg) (h.mgN hm) (p X h) (hs X) (hs2 X), fun F H O σ E xs E' e w s R hR => ?_⟩
  unfold iRange at e
  split at e
  · rename_i ed
    have := hl _ _ _ ed
    simp at this
  · rename_i i j E1 ed
    split at e
    · rename_i hj
      cases e
      obtain ⟨h1, h2⟩ := big62_iff.mp hj.1
      obtain ⟨h3, h4⟩ := big62_iff.mp hj.2
      refine q F H O σ E _ _ ed w s _ fun vs F1 H1 A O1 x1 w1 r1 s1 => ?_
      obtain ⟨v, u, A1, A2, ev, rv, ru⟩ := r1.two_inv
      subst ev
      exact ⟨i, j, by rw [rv.int_inv, ru.int_inv], ⟨h1, h2, h3, h4⟩, hR _ _ _ O1 (x1.sub (fun _ m => m) fun b m => .inl (List.mem_append_right _ m)) w1.right s1 (itr_ok i _)⟩
    · cases e
  · cases e
theorem len_eNil : ∀ (E : Ev) (ds : List D) (E1 : Ev), eNil E = some (ds, E1) → ds.length = 0 := fun E ds E1 e => by cases e; rfl
theorem len_eCons {f g} {n : Nat} (h : ∀ (E : Ev) (ds : List D) (E1 : Ev), g E = some (ds, E1) → ds.length = n) : ∀ (E : Ev) (ds : List D) (E1 : Ev), eCons f g E = some (ds, E1) → ds.length = n + 1 := fun E ds E1 e => by
  unfold eCons at e
  split at e
  · split at e
    · rename_i eg
      cases e
      rw [List.length_cons, h _ _ _ eg]
    · cases e
  · cases e
end

/-! ### for -/
def forL (g : D → Ev → Option Ev) (body : Ev → Option Out) : List D → Ev → Option Out
  | [], E => some (.nx E)
  | x :: xs, E => match g x E with
    | some E1 => (match body E1 with
      | some (.nx E2) => forL g body xs E2
      | some (.ct E2) => forL g body xs E2
      | some (.bk E2) => some (.nx E2)
      | some (.ret d E2) => some (.ret d E2)
      | none => none)
    | none => none
def sFor (lk : Lks) (ts : List Nat) (fi : Ev → Option (List D × Ev)) (g : D → Ev → Option Ev) (body : Ev → Option Out) : Ev → Option Out := fun E => if ts.all (fun i => !lk i) = true then (match fi E with | some (xs, E1) => forL g body xs E1 | none => none) else none
def whileN (c : Ev → Option (Bool × Ev)) (body : Ev → Option Out) : Nat → Ev → Option Out
  | 0, _ => none
  | n + 1, E => match c E with
    | some (false, E1) => some (.nx E1)
    | some (true, E1) => (match body E1 with
      | some (.nx E2) => whileN c body n E2
      | some (.ct E2) => whileN c body n E2
      | some (.bk E2) => some (.nx E2)
      | some (.ret d E2) => some (.ret d E2)
      | none => none)
    | none => none
def whileFuel : Nat := 1000000
def sWhile (c : Ev → Option (Bool × Ev)) (body : Ev → Option Out) : Ev → Option Out := whileN c body whileFuel
section
variable {Y : Fm} {lk : Lks} {pos : Pos}
theorem sd_for {tg iter : Expr} {body : List Stmt} {ts : List Nat} {fi g gb} (hi : ID Y tg iter fi) (hg : GD Y tg ts g) (hb : SDs Y body lk gb)
    (hs : ∀ X : Cx, ∀ x, foldedSetIterable iter X.env x = pure x := by intro _ _; rfl) : SD Y (.For tg iter body [] pos) lk (sFor lk ts fi g gb) := by
  obtain ⟨_, pi, qi⟩ := hi
  obtain ⟨_, pg, qg⟩ := hg
  obtain ⟨_, pb, qb⟩ := hb
  refine ⟨_, fun X h => ps_for h.own h.calm (pi X h) (pg X h) (pb X h) (hs X), fun F H O σ E o e w s N h => ?_⟩
  unfold sFor at e
  split at e
  · rename_i hl
    split at e
    · rename_i xs E1 ei
      refine qi F H O σ E xs E1 ei w s _ fun J F1 H1 O1 x1 w1 s1 ok => ?_
      refine ⟨fun i m σ2 H2 => m = xs.length - i ∧ i ≤ xs.length ∧ ∃ F2 O2 E2, (∀ a u, F1 a = some u → F2 a = some u) ∧ Own F2 H2 O2 ∧ RpS Y.K Y.mg F2 H2 σ2 E2 O2 ∧ forL g gb (xs.drop i) E2 = some o ∧ EndP Y.K Y.mg F2 H2 O2 σ2 lk o N,
        ⟨xs.length, rfl, Nat.zero_le _, F1, O1, E1, fun _ _ e => e, w1, s1, e, h.from .refl x1⟩, ?_⟩
      rintro i m σ2 H2 ⟨rfl, hi, F2, O2, E2, f2, w2, s2, e2, h2⟩
      by_cases hlt : i < xs.length
      · have hx : xs[i]? = some xs[i] := List.getElem?_eq_getElem hlt
        obtain ⟨go, yl⟩ := ok.go F2 H2 i _ f2 w2.le hx
        rw [List.drop_eq_getElem_cons hlt] at e2
        refine .inr ⟨go, fun σ3 H3 => xs.length - (i + 1) < xs.length - i ∧ i + 1 ≤ xs.length ∧ ∃ F3 O3 E3, (∀ a u, F1 a = some u → F3 a = some u) ∧ Own F3 H3 O3 ∧ RpS Y.K Y.mg F3 H3 σ3 E3 O3 ∧ forL g gb (xs.drop (i + 1)) E3 = some o ∧ EndP Y.K Y.mg F3 H3 O3 σ3 lk o N,
          fun σ3 H3 ⟨a1, a2, a3⟩ => ⟨_, a1, rfl, a2, a3⟩, fun v H3 y => ?_⟩
        obtain ⟨F3, q3, r3⟩ := yl v H3 y
        unfold forL at e2
        split at e2
        · rename_i E3 eg
          refine qg F3 H3 [] O2 σ2 E2 E3 v _ eg (q3.own w2) r3 (q3.rps s2) _ fun σ4 F4 H4 O4 c4 x4 w4 s4 => ?_
          have x24 : Ext F2 H2 O2 F4 H4 O4 := (q3.extO (O := O2)).trans x4
          have l24 : Lk lk σ2 σ4 := c4.lk (all_lk hl)
          have h4 := h2.from l24 x24
          have f4 : ∀ a u, F1 a = some u → F4 a = some u := fun a u z => x24.fle a u (f2 a u z)
          split at e2
          · rename_i E5 eb
            refine qb F4 H4 O4 σ4 E3 _ eb w4 s4 _ fun σ5 F5 H5 O5 l5 x5 w5 s5 => ?_
            exact ⟨by omega, hlt, F5, O5, E5, fun a u z => x5.fle a u (f4 a u z), w5, s5, e2, h4.from l5 x5⟩
          · rename_i E5 eb
            refine qb F4 H4 O4 σ4 E3 _ eb w4 s4 _ fun σ5 F5 H5 O5 l5 x5 w5 s5 => ?_
            exact ⟨by omega, hlt, F5, O5, E5, fun a u z => x5.fle a u (f4 a u z), w5, s5, e2, h4.from l5 x5⟩
          · rename_i E5 eb
            cases e2
            exact qb F4 H4 O4 σ4 E3 _ eb w4 s4 _ h4
          · rename_i d E5 eb
            cases e2
            exact qb F4 H4 O4 σ4 E3 _ eb w4 s4 _ h4
          · cases e2
        · cases e2
      · have e' : i = xs.length := by omega
        subst e'
        rw [List.drop_length] at e2
        cases e2
        exact .inl ⟨ok.stop F2 H2 _ f2 w2.le rfl, h2 σ2 F2 H2 O2 .refl Ext.refl w2 s2⟩
    · cases e
  · cases e
theorem sd_while {c : Expr} {body : List Stmt} {f gb} (hc : TD Y c f) (hb : SDs Y body lk gb) : SD Y (.While c body [] pos) lk (sWhile f gb) := by
  obtain ⟨_, pc, qc⟩ := hc
  obtain ⟨_, pb, qb⟩ := hb
  refine ⟨_, fun X h => ps_while h.own (pc X h) (pb X h), fun F H O σ E o e w s N h => ?_⟩
  unfold sWhile at e
  refine ⟨fun m σ2 H2 => ∃ F2 O2 E2, Own F2 H2 O2 ∧ RpS Y.K Y.mg F2 H2 σ2 E2 O2 ∧ whileN f gb m E2 = some o ∧ EndP Y.K Y.mg F2 H2 O2 σ2 lk o N, ⟨whileFuel, F, O, E, w, s, e, h⟩, ?_⟩
  rintro m σ2 H2 ⟨F2, O2, E2, w2, s2, e2, h2⟩
  cases m with
  | zero => cases e2
  | succ m =>
    unfold whileN at e2
    split at e2
    · rename_i E3 ec
      cases e2
      refine qc F2 H2 O2 σ2 E2 false E3 ec w2 s2 _ fun F3 H3 O3 x3 w3 s3 => ?_
      rw [if_neg Bool.false_ne_true]
      exact h2 σ2 F3 H3 O3 .refl x3 w3 s3
    · rename_i E3 ec
      refine qc F2 H2 O2 σ2 E2 true E3 ec w2 s2 _ fun F3 H3 O3 x3 w3 s3 => ?_
      rw [if_pos rfl]
      refine ⟨fun σ4 H4 => ∃ F4 O4 E4, Own F4 H4 O4 ∧ RpS Y.K Y.mg F4 H4 σ4 E4 O4 ∧ whileN f gb m E4 = some o ∧ EndP Y.K Y.mg F4 H4 O4 σ4 lk o N, fun σ4 H4 z => ⟨m, Nat.lt_succ_self m, z⟩, ?_⟩
      have h3 := h2.from .refl x3
      split at e2
      · rename_i E5 eb
        refine qb F3 H3 O3 σ2 E3 _ eb w3 s3 _ fun σ5 F5 H5 O5 l5 x5 w5 s5 => ?_
        exact ⟨F5, O5, E5, w5, s5, e2, h3.from l5 x5⟩
      · rename_i E5 eb
        refine qb F3 H3 O3 σ2 E3 _ eb w3 s3 _ fun σ5 F5 H5 O5 l5 x5 w5 s5 => ?_
        exact ⟨F5, O5, E5, w5, s5, e2, h3.from l5 x5⟩
      · rename_i E5 eb
        cases e2
        exact qb F3 H3 O3 σ2 E3 _ eb w3 s3 _ h3
      · rename_i d E5 eb
        cases e2
        exact qb F3 H3 O3 σ2 E3 _ eb w3 s3 _ h3
      · cases e2
    · cases e2
end
end Dm

namespace Dm
open PySem PySem.Spec L2
open PyProof.Rows hiding St
/-! ### list comprehensions -/
def wipeE : Ev → List Nat → Ev
  | E, [] => E
  | E, v :: vs => (wipeE E vs).set v none
def backE (E1 : Ev) : Ev → List Nat → Ev
  | E, [] => E
  | E, v :: vs => backE E1 (E.set v (E1[v]?.join)) vs
def ownFz (E : Ev) (vs : List Nat) : Bool := vs.all fun v => match E[v]? with | some (some d) => isFz d | _ => true
def compL (own : List Nat) (g : D → Ev → Option Ev) (tt : Ev → Option (Bool × Ev)) (el : Ev → Option (D × Ev)) : List D → Ev → Option (List D × Ev)
  | [], E => some ([], E)
  | x :: xs, E => match g x E with
    | some E1 => (match tt E1 with
      | some (false, E2) => compL own g tt el xs (wipeE E2 own)
      | some (true, E2) => (match el E2 with
        | some (d, E3) => (match compL own g tt el xs (wipeE E3 own) with
          | some (ds, E4) => some (d :: ds, E4)
          | none => none)
        | none => none)
      | none => none)
    | none => none
def eComp (own : List Nat) (fi : Ev → Option (List D × Ev)) (g : D → Ev → Option Ev) (tt : Ev → Option (Bool × Ev)) (el : Ev → Option (D × Ev)) : Ev → Option (D × Ev) := fun E => match fi E with
  | some (xs, E1) => (if ownFz E1 own = true then (match compL own g tt el xs (wipeE E1 own) with
    | some (ds, E2) => (if ds.length ≤ sizeLine then some (.lst true ds, backE E1 E2 own) else none)
    | none => none) else none)
  | none => none
def dYes : Ev → Option (Bool × Ev) := fun E => some (true, E)
def TsD (Y : Fm) (ifs : List Expr) (f : Ev → Option (Bool × Ev)) : Prop := ∃ t, (∀ X, Y.Is X → PTs X ifs t) ∧ Td Y.K Y.mg t f
theorem ts_nil {Y : Fm} : TsD Y [] dYes := ⟨_, fun _ _ => pts_nil, fun F H O σ E b E' e w s Q h => by cases e; exact h F H O Ext.refl w s⟩
theorem ts_one {Y : Fm} {c : Expr} {f} (h : TD Y c f) : TsD Y [c] f := let ⟨_, p, q⟩ := h; ⟨_, fun X h => pts_one (p X h), q⟩
section
variable {K : PySem.W.Frag} {mg : Md} {F H F' H' : Hp} {O O' A B C : List Addr} {σ : L2.St} {E E1 : Ev} {v : V} {d : D} {vs us : List V} {ds : List D} {a : Addr}
theorem RpS.drop1 (w : Own F H O) (h : RpS K mg F H σ E O) (i : Nat) (x : Option V) : ∃ O', RpS K mg F H (σ.set i x) (E.set i none) O' ∧ Own F H O' ∧ ∀ a ∈ O', a ∈ O := by
  obtain ⟨O1, A, O2, eq, go⟩ := h.put (i := i) (RpO.none (x := x))
  subst eq
  have nd := List.nodup_append.mp w.nd
  have nd2 := List.nodup_append.mp nd.2.1
  have hs : ∀ b ∈ O1 ++ O2, b ∈ O1 ++ (A ++ O2) := fun b m => by
    rcases List.mem_append.mp m with m | m
    · exact List.mem_append_left _ m
    · exact List.mem_append_right _ (List.mem_append_right _ m)
  have hn : (O1 ++ O2).Nodup := List.nodup_append.mpr ⟨nd.1, nd2.2.1, fun a x b y e => nd.2.2 a x b (List.mem_append_right _ y) e⟩
  rcases go with ⟨g, _⟩ | ⟨_, g⟩
  · rw [List.nil_append] at g
    exact ⟨_, g, w.sub hn hs, hs⟩
  · exact ⟨_, g, w.sub hn hs, hs⟩
theorem RpS.wipe (w : Own F H O) (h : RpS K mg F H σ E O) : ∀ own : List Nat, ∃ O', RpS K mg F H (L2.wipe σ own) (wipeE E own) O' ∧ Own F H O' ∧ ∀ a ∈ O', a ∈ O
  | [] => ⟨O, h, w, fun _ m => m⟩
  | i :: own => by
    obtain ⟨O1, h1, w1, m1⟩ := RpS.wipe w h own
    obtain ⟨O2, h2, w2, m2⟩ := h1.drop1 w1 i none
    exact ⟨O2, h2, w2, fun a m => m1 a (m2 a m)⟩
theorem wipe_get {σ : L2.St} {i : Nat} : ∀ {own : List Nat}, i ∉ own → (L2.wipe σ own)[i]? = σ[i]?
  | [], _ => rfl
  | j :: own, h => by
    rw [List.mem_cons, not_or] at h
    unfold L2.wipe
    rw [List.getElem?_set_ne (fun e => h.1 e.symm)]
    exact wipe_get h.2
theorem RpS.back : ∀ {own : List Nat} {σ : L2.St} {E : Ev} {O : List Addr}, own.Nodup → Own F H O → RpS K mg F H (L2.wipe σ own) E O → (∀ i ∈ own, RpO K mg F H (σ[i]?.join) (E1[i]?.join) []) →
    ∃ O', RpS K mg F H σ (backE E1 E own) O' ∧ Own F H O' ∧ ∀ a ∈ O', a ∈ O
  | [], σ, E, O, _, w, h, _ => ⟨O, h, w, fun _ m => m⟩
  | i :: own, σ, E, O, nd, w, h, hr => by
    obtain ⟨n1, n2⟩ := List.nodup_cons.mp nd
    have h' : RpS K mg F H ((L2.wipe σ own).set i none) E O := h
    obtain ⟨O1, A, O2, eq, go⟩ := h'.put (i := i) (hr i List.mem_cons_self)
    subst eq
    have e : ((L2.wipe σ own).set i none).set i (σ[i]?.join) = L2.wipe σ own := by
      rw [List.set_set]
      by_cases hl : i < (L2.wipe σ own).length
      · refine set_same ?_
        rw [wipe_get n1]
        have hl' : i < σ.length := by rw [wipe_length] at hl; exact hl
        rw [List.getElem?_eq_getElem hl']; rfl
      · exact List.set_eq_of_length_le (by omega)
    have nd1 := List.nodup_append.mp w.nd
    have nd2 := List.nodup_append.mp nd1.2.1
    have hs : ∀ b ∈ O1 ++ O2, b ∈ O1 ++ (A ++ O2) := fun b m => by
      rcases List.mem_append.mp m with m | m
      · exact List.mem_append_left _ m
      · exact List.mem_append_right _ (List.mem_append_right _ m)
    have hn : (O1 ++ O2).Nodup := List.nodup_append.mpr ⟨nd1.1, nd2.2.1, fun a x b y e => nd1.2.2 a x b (List.mem_append_right _ y) e⟩
    have g : RpS K mg F H (L2.wipe σ own) (E.set i (E1[i]?.join)) (O1 ++ O2) := by
      rcases go with ⟨g, _⟩ | ⟨_, g⟩
      · rw [List.nil_append, e] at g; exact g
      · rw [e] at g; exact g
    obtain ⟨O', k1, k2, k3⟩ := RpS.back n2 (w.sub hn hs) g fun j m => hr j (List.mem_cons_of_mem _ m)
    exact ⟨O', k1, k2, fun a m => hs a (k3 a m)⟩
theorem RpS.getO : ∀ {E : Ev} {σ : L2.St} {O : List Addr} (i : Nat), RpS K mg F H σ E O → ∃ A, RpO K mg F H (σ[i]?.join) (E[i]?.join) A
  | _, _, _, i, .nil => ⟨[], by simp; exact .none⟩
  | _, _, _, 0, .cons h1 _ => ⟨_, by simpa using h1⟩
  | _, _, _, i + 1, .cons _ h2 => by
    obtain ⟨A, r⟩ := RpS.getO i h2
    exact ⟨A, by simpa using r⟩
theorem wipe_tch {own ts : List Nat} {σ σ' : L2.St} (c : Tch ts σ σ') (h : ∀ i ∈ ts, i ∈ own) : L2.wipe σ' own = L2.wipe σ own := by
  refine List.ext_getElem? fun i => ?_
  by_cases hi : i ∈ own
  · have w : ∀ (τ : L2.St), (L2.wipe τ own)[i]? = if i < τ.length then some none else none := by
      intro τ
      clear c h
      induction own with
      | nil => cases hi
      | cons j own ih =>
        unfold L2.wipe
        by_cases hj : j = i
        · subst hj
          by_cases hl : j < τ.length
          · rw [List.getElem?_set_self (by rw [wipe_length]; exact hl), if_pos hl]
          · rw [List.getElem?_eq_none (by rw [List.length_set, wipe_length]; omega), if_neg hl]
        · rw [List.getElem?_set_ne hj]
          exact ih ((List.mem_cons.mp hi).resolve_left fun e => hj e.symm)
    rw [w, w, c.len]
  · rw [wipe_get hi, wipe_get hi]
    exact c.eq i fun m => hi (h i m)
/-- one list written -/
theorem wr1_ext (hF : F a = none) (e : H a = some (.lst vs)) : Ext F H [a] F (upd H a (.lst us)) [a] :=
  ⟨fun _ _ e => e, fun b o e n => by rw [upd_ne (fun z => n (by simp [z]))]; exact e, fun b e => by
    by_cases hb : b = a
    · subst hb; rw [upd_same]; simp
    · rw [upd_ne hb]; exact e, fun _ e => .inl e, fun _ m => .inl m⟩
theorem wr1_own (w : Own F H A) (hF : F a = none) : Own F (upd H a (.lst us)) A where
  le := fun b o e => by
    have n : b ≠ a := fun z => by rw [z, hF] at e; cases e
    rw [upd_ne n]
    exact w.le b o e
  nd := w.nd
  out := w.out
  alive := fun b m => by
    by_cases hb : b = a
    · subst hb; rw [upd_same]; simp
    · rw [upd_ne hb]; exact w.alive b m
end
section
variable {X : Cx}
theorem comp_core {K : PySem.W.Frag} {mg : Md} {wi : TI} {tg : TG} {tt : TT} {te : TE} {own ts : List Nat} {fi g ft fe} (qi : Di K mg wi fi) (qg : Dg K mg tg ts g) (qt : Td K mg tt ft) (qe : De K mg te fe) (hts : ∀ i ∈ ts, i ∈ own) (hnd : own.Nodup) :
    De K mg (tLc wi tg tt te own) (eComp own fi g ft fe) := by
  intro F H O σ E d E' e w s Q hQ
  unfold eComp at e
  split at e
  · rename_i xs E1 ei
    split at e
    · rename_i hz
      split at e
      · rename_i ds E2 ec
        split at e
        · rename_i hlen
          cases e
          refine qi F H O σ E xs E1 ei w s _ fun J F1 H1 O1 x1 w1 s1 ok => ?_
          intro Dn hD
          obtain ⟨Ow, sw, ww, mw⟩ := s1.wipe w1 own
          have hF1 : F1 Dn = none := none_of_le w1.le hD
          have y1 : Qx F1 H1 F1 (upd H1 Dn (.lst [])) := Qx.new w1.le hD
          have ww0 : Own F1 (upd H1 Dn (.lst [])) ((Dn :: []) ++ Ow) := own_new (A := []) ww hD
          refine ⟨fun i m H2 => m = xs.length - i ∧ i ≤ xs.length ∧ ∃ F2 O2 Ec vs dsf A rest, (∀ a u, F1 a = some u → F2 a = some u) ∧ Own F2 H2 ((Dn :: A) ++ O2) ∧ RpS K mg F2 H2 (L2.wipe σ own) Ec O2 ∧ H2 Dn = some (.lst vs) ∧ RpL K mg F2 H2 vs dsf A ∧
              compL own g ft fe (xs.drop i) Ec = some (rest, E2) ∧ dsf ++ rest = ds ∧ Ext F1 H1 Ow F2 H2 ((Dn :: A) ++ O2),
            ⟨xs.length, rfl, Nat.zero_le _, F1, Ow, wipeE E1 own, [], [], [], ds, fun _ _ e => e, ww0, y1.rps sw, upd_same, .nil, ec, rfl, Ext.fresh (C := [Dn]) y1 fun c m => by simp at m; subst m; exact hD⟩, ?_⟩
          rintro i m H2 ⟨rfl, hi, F2, O2, Ec, vs, dsf, A, rest, f2, w2, s2, h2, rl, e2, eds, x2⟩
          have hlv := rl.length
          have wO2 := w2.right
          by_cases hlt : i < xs.length
          · have hx : xs[i]? = some xs[i] := List.getElem?_eq_getElem hlt
            obtain ⟨go, yl⟩ := ok.go F2 H2 i _ f2 w2.le hx
            rw [List.drop_eq_getElem_cons hlt] at e2
            refine .inr ⟨go, fun H3 => xs.length - (i + 1) < xs.length - i ∧ i + 1 ≤ xs.length ∧ ∃ F3 O3 Ec vs dsf A rest, (∀ a u, F1 a = some u → F3 a = some u) ∧ Own F3 H3 ((Dn :: A) ++ O3) ∧ RpS K mg F3 H3 (L2.wipe σ own) Ec O3 ∧ H3 Dn = some (.lst vs) ∧ RpL K mg F3 H3 vs dsf A ∧
                compL own g ft fe (xs.drop (i + 1)) Ec = some (rest, E2) ∧ dsf ++ rest = ds ∧ Ext F1 H1 Ow F3 H3 ((Dn :: A) ++ O3),
              fun H3 ⟨a1, a2, a3⟩ => ⟨_, a1, rfl, a2, a3⟩, fun v H3 y => ?_⟩
            obtain ⟨F3, q3, r3⟩ := yl v H3 y
            unfold compL at e2
            split at e2
            · rename_i E4 eg
              refine qg F3 H3 [] O2 (L2.wipe σ own) Ec E4 v _ eg (q3.own wO2) r3 (q3.rps s2) _ fun σ4 F4 H4 O4 c4 x4 w4 s4 => ?_
              have x24 : Ext F2 H2 O2 F4 H4 O4 := (q3.extO (O := O2)).trans x4
              have wt : L2.wipe σ4 own = L2.wipe σ own := (wipe_tch c4 hts).trans (by
                have : ∀ (τ : L2.St) (vs : List Nat), L2.wipe (L2.wipe τ vs) vs = L2.wipe τ vs := fun τ vs => by
                  have c : Tch vs τ (L2.wipe τ vs) := ⟨wipe_length τ vs, fun i h => wipe_get h⟩
                  exact wipe_tch c fun _ m => m
                exact this σ own)
              refine ⟨wt, ?_⟩
              have w24 : Own F4 H4 ((Dn :: A) ++ O4) := w2.frame x24 w4
              have h4 : H4 Dn = some (.lst vs) := x24.hle _ _ h2 (w2.apart Dn List.mem_cons_self)
              have rl4 := rl.ext x24 fun b m => w2.apart b (List.mem_cons_of_mem _ m)
              have xx4 : Ext F1 H1 Ow F4 H4 ((Dn :: A) ++ O4) := x2.trans (x24.frame w2)
              have f4 : ∀ a u, F1 a = some u → F4 a = some u := fun a u z => x24.fle a u (f2 a u z)
              split at e2
              · rename_i E5 et
                refine qt F4 H4 O4 σ4 E4 false E5 et w4 s4 _ fun F5 H5 O5 x5 w5 s5 => ?_
                rw [if_neg Bool.false_ne_true]
                have w25 := w24.frame x5 w5
                obtain ⟨O6, s6, w6, m6⟩ := s5.wipe w5 own
                rw [wt] at s6
                have x6 : Ext F4 H4 O4 F5 H5 O6 := x5.sub (fun _ m => m) fun b m => .inl (m6 b m)
                refine ⟨by omega, hlt, F5, O6, wipeE E5 own, vs, dsf, A, rest, fun a u z => x5.fle a u (f4 a u z), w24.frame x6 w6, s6, x5.hle _ _ h4 (w24.apart Dn List.mem_cons_self), rl4.ext x5 fun b m => w24.apart b (List.mem_cons_of_mem _ m), e2, eds, xx4.trans (x6.frame w24)⟩
              · rename_i E5 et
                split at e2
                · rename_i dy E6 ey
                  split at e2
                  · rename_i ds' E7 er
                    cases e2
                    refine qt F4 H4 O4 σ4 E4 true E5 et w4 s4 _ fun F5 H5 O5 x5 w5 s5 => ?_
                    rw [if_pos rfl]
                    have w25 := w24.frame x5 w5
                    have h5 : H5 Dn = some (.lst vs) := x5.hle _ _ h4 (w24.apart Dn List.mem_cons_self)
                    have rl5 := rl4.ext x5 fun b m => w24.apart b (List.mem_cons_of_mem _ m)
                    have xx5 := xx4.trans (x5.frame w24)
                    refine qe F5 H5 O5 σ4 E5 dy E6 ey w5 s5 _ fun y F6 H6 Ay O6 x6 w6 r6 s6 => ?_
                    have w26 := w25.frame x6 w6
                    have h6 : H6 Dn = some (.lst vs) := x6.hle _ _ h5 (w25.apart Dn List.mem_cons_self)
                    have rl6 := rl5.ext x6 fun b m => w25.apart b (List.mem_cons_of_mem _ m)
                    have xx6 := xx5.trans (x6.frame w25)
                    have hF6 : F6 Dn = none := w26.out Dn (List.mem_append_left _ List.mem_cons_self)
                    obtain ⟨O7, s7, w7, m7⟩ := s6.wipe w6.right own
                    rw [wt] at s7
                    have ldy : vs.length < sizeLine := by
                      rw [hlv]
                      have := congrArg List.length eds
                      rw [List.length_append, List.length_cons] at this
                      omega
                    have pm : ((Dn :: A) ++ (Ay ++ O6)).Perm ((Dn :: (A ++ Ay)) ++ O6) := by
                      rw [← List.append_assoc]
                      exact List.Perm.refl _
                    have w27 := w26.perm pm
                    have sub7 : ∀ b ∈ (Dn :: (A ++ Ay)) ++ O7, b ∈ (Dn :: (A ++ Ay)) ++ O6 := fun b m => by
                      rcases List.mem_append.mp m with m | m
                      · exact List.mem_append_left _ m
                      · exact List.mem_append_right _ (m7 b m)
                    have nd27 := List.nodup_append.mp w27.nd
                    have w28 : Own F6 H6 ((Dn :: (A ++ Ay)) ++ O7) := w27.sub (List.nodup_append.mpr ⟨nd27.1, w7.nd, fun a x b y e => nd27.2.2 a x b (m7 b y) e⟩) sub7
                    have nDn := (List.nodup_cons.mp (List.nodup_append.mp w28.nd).1).1
                    have wx := wr1_ext (us := vs ++ [y]) hF6 h6
                    refine ⟨vs, h6, ldy, by omega, hlt, F6, O7, wipeE E6 own, vs ++ [y], dsf ++ [dy], A ++ Ay, ds', fun a u z => x6.fle a u (x5.fle a u (f4 a u z)), wr1_own w28 hF6, s7.ext wx fun b m q => ?_, upd_same, ?_, er, ?_, ?_⟩
                    · simp at q
                      subst q
                      exact w28.apart b List.mem_cons_self m
                    · have ry : RpL K mg F6 H6 [y] [dy] (Ay ++ []) := .cons r6 .nil
                      rw [List.append_nil] at ry
                      exact (rl6.append ry).ext wx fun b m q => by
                        simp at q
                        subst q
                        exact nDn m
                    · rw [List.append_assoc]; exact eds
                    · refine (xx6.perm (List.Perm.refl _) pm).trans ?_
                      exact wx.sub (fun b m => by simp at m; subst m; exact List.mem_append_left _ List.mem_cons_self) fun b m => .inr (sub7 b m)
                  · cases e2
                · cases e2
              · cases e2
            · cases e2
          · have e' : i = xs.length := by omega
            subst e'
            rw [List.drop_length] at e2
            cases e2
            rw [List.append_nil] at eds
            subst eds
            refine .inl ⟨ok.stop F2 H2 _ f2 w2.le rfl, ?_⟩
            have hF2 : F2 Dn = none := w2.out Dn (List.mem_append_left _ List.mem_cons_self)
            obtain ⟨O3, s3, w3, m3⟩ := RpS.back (E1 := E1) hnd wO2 s2 fun j hj => by
              obtain ⟨B, ro⟩ := s1.getO j
              cases q : E1[j]? with
              | none => exact .none
              | some y =>
                cases y with
                | none => exact .none
                | some dj =>
                  rw [q] at ro
                  have hzj := List.all_eq_true.mp hz j hj
                  rw [q] at hzj
                  generalize hv : σ[j]?.join = xv at ro
                  have ro' : RpO K mg F1 H1 xv (some dj) B := ro
                  cases ro' with
                  | some rj =>
                    have zB := rj.fz hzj
                    subst zB
                    exact .some (rj.up f2)
            have nd2 := List.nodup_append.mp w2.nd
            have w4 : Own F2 H2 ((Dn :: A) ++ O3) := w2.sub (List.nodup_append.mpr ⟨nd2.1, w3.nd, fun a x b y e => nd2.2.2 a x b (m3 b y) e⟩) fun b m => by
              rcases List.mem_append.mp m with m | m
              · exact List.mem_append_left _ m
              · exact List.mem_append_right _ (m3 b m)
            refine hQ (.ref Dn) F2 H2 (Dn :: A) O3 ?_ w4 (.lstO h2 hF2 (by rw [hlv]; exact hlen) rl) s3
            refine x1.trans (x2.sub mw fun b m => .inl ?_)
            rcases List.mem_append.mp m with m | m
            · exact List.mem_append_left _ m
            · exact List.mem_append_right _ (m3 b m)
        · cases e
      · cases e
    · cases e
  · cases e
/-- the family within a comprehension's block -/
def Fm.blk (Y : Fm) (scope : Scope) : Fm := { Y with sc := relS scope Y.sc, fn := fun x => scope.names.lookup x == some .cell }
theorem Fm.Is.blk {Y : Fm} {X : Cx} (h : Y.Is X) {scope : Scope} (s : Shared) (H : Hp) (C : Addr) (cl : List (Str × Addr)) (fp : List Addr) : (Y.blk scope).Is (X.blk s H scope (compEnvC scope cl C X.env) fp) where
  prog := h.prog
  w := h.w
  K := h.K
  mg := h.mg
  base := h.base
  N := h.N
  sc := by
    show relS scope X.env.scope = relS scope Y.sc
    rw [h.sc]
  fn := rfl
  calm := h.calm
  room := h.room
  guards := h.guards
  xe := rfl
/-- as a value -/
theorem pd_comp {Y : Fm} {elt tg iter : Expr} {ifs : List Expr} {scope : Scope} {own : List (Str × Nat)} {ts : List Nat} {pos : Pos} {fi g ft fe} (hN : Y.N.Nodup) (hi : ID Y tg iter fi) (ok : BlkOk Y.N Y.sc scope own)
    (hg : GD (Y.blk scope) tg ts g) (ht : TsD (Y.blk scope) ifs ft) (he : PD (Y.blk scope) elt fe)
    (hts : ∀ i ∈ ts, i ∈ own.map (·.2)) (hnd : (own.map (·.2)).Nodup) (hs : ∀ X : Cx, ∀ x, foldedSetIterable iter X.env x = pure x := by intro _ _; rfl) :
    PD Y (.ListComp elt [⟨tg, iter, ifs, 0⟩] scope pos) (eComp (own.map (·.2)) fi g ft fe) := by
  obtain ⟨_, pi, qi⟩ := hi
  obtain ⟨_, pg, qg⟩ := hg
  obtain ⟨_, pt, qt⟩ := ht
  obtain ⟨_, pe, qe⟩ := he
  refine ⟨_, fun X h => pe_lc h.calm (h.nd hN) (pi X h) (by rw [h.N, h.sc]; exact ok) (fun s H C cl fp => pg _ (h.blk s H C cl fp)) (fun s H C cl fp => pt _ (h.blk s H C cl fp)) (fun s H C cl fp => pe _ (h.blk s H C cl fp)) (hs X), comp_core qi qg qt qe hts hnd⟩
/-- name = [..] on one line, the name a local -/
theorem sd_setComp {Y : Fm} {lk : Lks} {i : Nat} {y : Str} {py : Pos} {elt tg iter : Expr} {ifs : List Expr} {scope : Scope} {own : List (Str × Nat)} {ts : List Nat} {pos spos : Pos} {fi g ft fe} (hN : Y.N.Nodup) (hy : Y.N[i]? = some y) (hyl : Y.sc.names.lookup y = some .local)
    (hk : Y.sc.kind = .function) (hl : (py.line == pos.line) = true) (ha : (scope.names.any fun (n, k) => n == y && (k == .local || k == .cell)) = false) (hi : ID Y tg iter fi) (ok : BlkOk Y.N Y.sc scope own)
    (hg : GD (Y.blk scope) tg ts g) (ht : TsD (Y.blk scope) ifs ft) (he : PD (Y.blk scope) elt fe)
    (hts : ∀ i ∈ ts, i ∈ own.map (·.2)) (hnd : (own.map (·.2)).Nodup) (hs : ∀ X : Cx, ∀ x, foldedSetIterable iter X.env x = pure x := by intro _ _; rfl) :
    SD Y (.Assign [.Name y py] (.ListComp elt [⟨tg, iter, ifs, 0⟩] scope pos) spos) lk (sAsg lk [i] (eComp (own.map (·.2)) fi g ft fe) (gdName i)) := by
  obtain ⟨_, pi, qi⟩ := hi
  obtain ⟨_, pg, qg⟩ := hg
  obtain ⟨_, pt, qt⟩ := ht
  obtain ⟨_, pe, qe⟩ := he
  refine ⟨_, fun X h => ps_setLc h.calm (h.nd hN) (h.nm hy) (by rw [h.sc]; exact hyl) (sw_true (by rw [h.sc]; exact hk) (by rw [h.sc]; exact hyl) hl ha) (pi X h) (by rw [h.N, h.sc]; exact ok) (fun s H C cl fp => pg _ (h.blk s H C cl fp)) (fun s H C cl fp => pt _ (h.blk s H C cl fp)) (fun s H C cl fp => pe _ (h.blk s H C cl fp)) (hs X), ds_asg (comp_core qi qg qt qe hts hnd) ?_⟩
  intro F H A O σ E E' v d e w r s Q h
  cases e
  obtain ⟨O', s', w', m⟩ := s.assign (i := i) w r
  exact h _ F H O' Tch.set (Ext.refl.sub (fun b h => h) fun b h => .inr (m b h)) w' s'
end
end Dm

namespace Dm
open PySem PySem.Spec L2
open PyProof.Rows hiding St
/-! ### defs -/
def lkOf (ds : List D) : Lks := fun i => match ds[i]? with | some d => !isFz d | none => false
def outsD : List D → Ev → Option (List D)
  | [], _ => some []
  | d :: ds, e :: E => match outsD ds E with
    | some r => if isFz d = true then some (d :: r) else (match e with | some d' => some (d' :: r) | none => none)
    | none => none
  | _ :: _, [] => none
/-- what a def's body makes of the arguments: the answer, and the arguments behind it -/
def runD (n np : Nat) (b : Lks → Ev → Option Out) (ds : List D) : Option (D × List D) := if ds.length = np then (match b (lkOf ds) (ds.map some ++ List.replicate (n - np) none) with
  | some (.ret d E) => (match outsD ds E with | some os => some (d, os) | none => none)
  | some (.nx E) => (match outsD ds E with | some os => some (.non, os) | none => none)
  | _ => none) else none
abbrev Fs := List D → Option (D × List D)
def SpD (K : PySem.W.Frag) (mg : Md) (g : Fs) (np : Nat) (vs : List V) (H : Hp) (Q : VK) : Prop := ∃ F ds O ret outs, g ds = some (ret, outs) ∧ ds.length = np ∧ Own F H O ∧ RpL K mg F H vs ds O ∧
  ∀ v F' H' A O', Ext F H O F' H' (A ++ O') → Own F' H' (A ++ O') → Rp K mg F' H' v ret A → RpL K mg F' H' vs outs O' → Q v H'
structure FnG (P : Program) (w : World) (K : PySem.W.Frag) (mg : Str → Option Value) (base : Heap) (k : Nat) (f : Addr) (fd : FuncData) (ps : List Str) (g : Fs) : Prop where
  run : ∀ (A : Around) (outer : List Env) (s : Shared) (H : Hp) (args : Args) (us : List Value) (vs : List V) (Q : VK), Room k A → A.guards = some [] → Env0 P w K mg base A outer s H → BindsTo s fd args (ps.zip us) → Vals vs us → SpD K ⟨mg, P, w⟩ g ps.length vs H Q →
    codeAny (model P w) A (.call (.ref f) args) (CR CX0 outer P w H s Q E0) s
section
variable {P : Program} {w : World} {K : PySem.W.Frag} {mg : Str → Option Value} {base : Heap}
theorem FnG.mono {j k : Nat} {f : Addr} {fd : FuncData} {ps : List Str} {g : Fs} (G : FnG P w K mg base j f fd ps g) (h : j ≤ k) : FnG P w K mg base k f fd ps g :=
  ⟨fun A outer s H args us vs Q hr => G.run A outer s H args us vs Q (hr.mono h)⟩
theorem rps_start {md : Md} {F H : Hp} {vs : List V} {ds : List D} {O : List Addr} (n : Nat) (r : RpL K md F H vs ds O) : RpS K md F H (vs.map some ++ List.replicate n none) (ds.map some ++ List.replicate n none) O := by
  have nones : ∀ n : Nat, RpS K md F H (List.replicate n none) (List.replicate n none) [] := by
    intro n
    induction n with
    | zero => exact .nil
    | succ n ih => exact .cons (O1 := []) (O2 := []) .none ih
  have go : ∀ {ds : List D} {vs : List V} {O : List Addr}, RpL K md F H vs ds O → RpS K md F H (vs.map some ++ List.replicate n none) (ds.map some ++ List.replicate n none) O := by
    intro ds
    induction ds with
    | nil => intro vs O h; cases h; exact nones n
    | cons d ds ih =>
      intro vs O h
      cases h with
      | cons h1 h2 => exact .cons (.some h1) (ih h2)
  exact go r
theorem RpS.outs {md : Md} {F H F' H' : Hp} (f : ∀ a o, F a = some o → F' a = some o) : ∀ {ds outs : List D} {vs : List V} {σ : L2.St} {E : Ev} {O O' : List Addr}, RpL K md F H vs ds O → RpS K md F' H' σ E O' → outsD ds E = some outs →
    (∀ (i : Nat) (d : D), ds[i]? = some d → isFz d = false → ∃ v, vs[i]? = some v ∧ σ[i]? = some (some v)) → ∃ O2, RpL K md F' H' vs outs O2 ∧ O2.Sublist O'
  | [], _, _, _, _, _, O', .nil, _, e, _ => by cases e; exact ⟨[], .nil, List.nil_sublist _⟩
  | d :: ds, outs, _, _, [], _, _, _, .nil, e, _ => by cases e
  | d :: ds, outs, _, _, e0 :: E, _, _, .cons (v := v) (vs := vs) h1 h2, .cons (σ := σ) (O1 := P1) (O2 := P2) k1 k2, e, hl => by
    unfold outsD at e
    split at e
    · rename_i r er
      obtain ⟨O2, r2, s2⟩ := RpS.outs f h2 k2 er fun i d hi hz => by
        obtain ⟨v', q1, q2⟩ := hl (i + 1) d (by simpa using hi) hz
        exact ⟨v', by simpa using q1, by simpa using q2⟩
      split at e
      · rename_i z
        cases e
        have zA := h1.fz z
        subst zA
        exact ⟨O2, .cons (O1 := []) (h1.up f) r2, s2.trans (List.sublist_append_right _ _)⟩
      · rename_i z
        split at e
        · rename_i d'
          cases e
          obtain ⟨v', q1, q2⟩ := hl 0 d rfl (by simpa using z)
          simp at q1 q2
          subst q1 q2
          cases k1 with
          | some k1 => exact ⟨P1 ++ O2, .cons k1 r2, List.Sublist.append (List.Sublist.refl _) s2⟩
        · cases e
    · cases e
/-- THE RULE for a def -/
theorem fnG_of {x qual : Str} {st : Stmt} {f : Addr} {fd : FuncData} {N ps : List Str} {k : Nat} {b : Lks → Ev → Option Out} (F : Fun K x qual st f fd) (S : FnScope N ps (defScope st))
    (hb : ∀ lk, SDs ⟨P, w, K, mg, base, N, defScope st, fun _ => true, k⟩ (defBody st) lk (b lk)) : FnG P w K mg base (k + 1) f fd ps (runD N.length ps.length b) := by
  obtain ⟨oc, od, kV, doc, pm, an, cdv, ct, osl, rfl, lkp, hcd⟩ := F.ex
  refine ⟨fun A outer s H args us vs Q hr hg e0 hbd r hsp => ?_⟩
  obtain ⟨F0, ds, O, ret, outs, eg, hds, wO, rl, hQ⟩ := hsp
  have hvl := rl.length
  have hl : vs.length = ps.length := hvl.trans hds
  have KX : K.In s.heap := e0.mod.kin.keeps fun b o e => (e0.bs b o e).1
  have lim : s.heap.NoLimit := e0.mod.nolimit.keeps fun b o e => (e0.bs b o e).1
  have hkind : ∀ y ∈ ps.zip us, (defScope st).names.lookup y.1 = some .local ∨ ((defScope st).names.lookup y.1 = some .cell ∧ ((cellsFrom (s.heap.objs.size + 1) (defScope st).names []).lookup y.1).isSome = true) := by
    rintro ⟨n, v⟩ hy
    exact (S.par n (List.of_mem_zip hy).1).imp id fun q => ⟨q, PySem.W.cellsFrom_some _ _ _ (.inl q)⟩
  refine codeAny_call_function hr.depth (KX _ _ lkp) rfl S.co S.gen rfl (PySem.W.codeRec_of KX hcd) (hbd _ _ _ _ ?_)
  refine wpAny_newFunctionEnv_cells S.kind hkind fun env he s1 x1 => ?_
  subst he
  refine ⟨lim.keeps x1.toInCall.keep, codeAny_func ?_⟩
  generalize hX : (cxOf CX0 P w K mg base N qual (defScope st) f cdv A outer s H E0).nox = X
  obtain ⟨t, p, q⟩ := hb (lkOf ds)
  have hIs : Fm.Is ⟨P, w, K, mg, base, N, defScope st, fun _ => true, k⟩ X := by
    subst hX
    exact ⟨rfl, rfl, rfl, rfl, rfl, rfl, rfl, rfl, rfl, hr.deeper _, hg, rfl⟩
  have I0 : Inv (cxOf CX0 P w K mg base N qual (defScope st) f cdv A outer s H E0) [] (L2.start N vs) H s1 := inv_start S hr.hd e0 hl r x1
  have I : Inv X [] (L2.start N vs) H s1 := by
    subst hX
    exact I0.wish _
  have hbody := p X hIs
  subst hX
  have fin : ∀ {σ' : L2.St} {H' : Hp} {v : V} {u : Value} {s' : Shared}, Inv (cxOf CX0 P w K mg base N qual (defScope st) f cdv A outer s H E0).nox [] σ' H' s' → RelV v u → Q v H' → CE outer P w H s Q u s' :=
    fun {σ' H' v u s'} J rv q => ⟨v, H', J.os, J.bare, J.base, J.hok, rv, q⟩
  have lenN : L2.start N vs = vs.map some ++ List.replicate (N.length - ps.length) none := by
    unfold L2.start
    rw [hl]
  have s0 : RpS K ⟨mg, P, w⟩ F0 H (L2.start N vs) (ds.map some ++ List.replicate (N.length - ps.length) none) O := by
    rw [lenN]
    exact rps_start _ rl
  have locked : ∀ {σ' : L2.St}, Lk (lkOf ds) (L2.start N vs) σ' → ∀ (i : Nat) (d : D), ds[i]? = some d → isFz d = false → ∃ v, vs[i]? = some v ∧ σ'[i]? = some (some v) := by
    intro σ' l i d hi hz
    have hk : lkOf ds i = true := by
      unfold lkOf
      rw [hi]
      show (!isFz d) = true
      rw [hz]; rfl
    obtain ⟨v, B, e1, _, _⟩ := rl.get hi
    refine ⟨v, e1, (l.eq i hk).trans ?_⟩
    rw [lenN]
    have hlt : i < (vs.map some).length := by
      rw [List.length_map]
      exact (List.getElem?_eq_some_iff.mp e1).1
    rw [List.getElem?_append_left hlt, List.getElem?_map, e1]; rfl
  -- what the body's end gives
  unfold runD at eg
  rw [if_pos hds] at eg
  have done : ∀ {v : V} {σ' : L2.St} {F' H' : Hp} {A' O' : List Addr} {d : D} {E' : Ev} {os : List D}, outsD ds E' = some os → some (d, os) = some (ret, outs) → Lk (lkOf ds) (L2.start N vs) σ' → Ext F0 H O F' H' (A' ++ O') → Own F' H' (A' ++ O') → Rp K ⟨mg, P, w⟩ F' H' v d A' → RpS K ⟨mg, P, w⟩ F' H' σ' E' O' → Q v H' := by
    intro v σ' F' H' A' O' d E' os eo er l x w' rd s'
    cases er
    obtain ⟨O2, r2, sb⟩ := RpS.outs x.fle rl s' eo (locked l)
    have nd := List.nodup_append.mp w'.nd
    have sub : ∀ b ∈ A' ++ O2, b ∈ A' ++ O' := fun b m => by
      rcases List.mem_append.mp m with m | m
      · exact List.mem_append_left _ m
      · exact List.mem_append_right _ (sb.subset m)
    refine hQ v F' H' A' O2 (x.sub (fun _ m => m) fun b m => .inl (sub b m)) (w'.sub (List.nodup_append.mpr ⟨nd.1, nd.2.1.sublist sb, fun a y b z e => nd.2.2 a y b (sb.subset z) e⟩) sub) rd r2
  refine wpAny_mono (hbody.run [] s1 (L2.start N vs) H { nx := fun _ H' => Q .non H', rt := Q } I ?_) (fun fl s' hs => ?_) fun e s' hs => False.elim hs
  · split at eg
    · rename_i d E' eb
      split at eg
      · rename_i os eo
        exact q F0 H O _ _ _ eb wO s0 _ fun v σ' F' H' A' O' l x w' rd s' => done eo eg l x w' rd s'
      · cases eg
    · rename_i E' eb
      split at eg
      · rename_i os eo
        exact q F0 H O _ _ _ eb wO s0 _ fun σ' F' H' O' l x w' s' => done (A' := []) eo eg l x w' .non s'
      · cases eg
    · cases eg
  · cases fl with
    | ret u =>
      obtain ⟨v, σ', H', J, rv, z⟩ := hs
      exact fin J rv z
    | next =>
      obtain ⟨σ', H', J, z⟩ := hs
      exact fin (v := V.non) (u := Value.none) J rfl z
    | brk =>
      obtain ⟨_, _, _, z⟩ := hs
      exact False.elim z
    | cont =>
      obtain ⟨_, _, _, z⟩ := hs
      exact False.elim z
end

/-! ### calls: an argument is a slot (handed on by itself) or a value -/
abbrev ArgV := Sum Nat D
section
variable (K : PySem.W.Frag) (mg : Md)
inductive RpX (F H : Hp) (σ : L2.St) : List V → List ArgV → List Addr → Prop
  | nil : RpX F H σ [] [] []
  | slot {i : Nat} {v : V} {vs : List V} {as : List ArgV} {A : List Addr} : σ[i]? = some (some v) → RpX F H σ vs as A → RpX F H σ (v :: vs) (.inl i :: as) A
  | temp {v : V} {d : D} {vs : List V} {as : List ArgV} {A1 A2 : List Addr} : Rp K mg F H v d A1 → RpX F H σ vs as A2 → RpX F H σ (v :: vs) (.inr d :: as) (A1 ++ A2)
def Dx (t : TA) (f : Ev → Option (List ArgV × Ev)) : Prop := ∀ (F H : Hp) (O : List Addr) (σ : L2.St) (E : Ev) (as : List ArgV) (E' : Ev), f E = some (as, E') → Own F H O → RpS K mg F H σ E O →
  ∀ Q : List V → Hp → Prop, (∀ vs F' H' A O', Ext F H O F' H' (A ++ O') → Own F' H' (A ++ O') → RpX K mg F' H' σ vs as A → RpS K mg F' H' σ E' O' → Q vs H') → t σ H Q
end
def PX (Y : Fm) (es : List Expr) (f : Ev → Option (List ArgV × Ev)) : Prop := ∃ t, (∀ X, Y.Is X → PA X es t) ∧ Dx Y.K Y.mg t f
def xNil : Ev → Option (List ArgV × Ev) := fun E => some ([], E)
def xSlot (i : Nat) (g : Ev → Option (List ArgV × Ev)) : Ev → Option (List ArgV × Ev) := fun E => match E[i]? with | some (some _) => (match g E with | some (as, E1) => some (.inl i :: as, E1) | none => none) | _ => none
def xVal (f : Ev → Option (D × Ev)) (g : Ev → Option (List ArgV × Ev)) : Ev → Option (List ArgV × Ev) := fun E => match f E with | some (d, E1) => (match g E1 with | some (as, E2) => some (.inr d :: as, E2) | none => none) | none => none
def gather : List ArgV → Ev → Option (List D × Ev)
  | [], E => some ([], E)
  | .inr d :: r, E => match gather r E with | some (ds, E') => some (d :: ds, E') | none => none
  | .inl i :: r, E => match E[i]? with
    | some (some d) => if isFz d = true then (match gather r E with | some (ds, E') => some (d :: ds, E') | none => none) else (match gather r (E.set i none) with | some (ds, E') => some (d :: ds, E') | none => none)
    | _ => none
def putBack : List ArgV → List D → Ev → Ev
  | .inr _ :: r, _ :: os, E => putBack r os E
  | .inl i :: r, o :: os, E => putBack r os (E.set i (some o))
  | _, _, E => E
def eCall (g : Fs) (fx : Ev → Option (List ArgV × Ev)) : Ev → Option (D × Ev) := fun E => match fx E with
  | some (as, E1) => (match gather as E1 with
    | some (ds, E2) => (match g ds with | some (ret, outs) => some (ret, putBack as outs E2) | none => none)
    | none => none)
  | none => none
section
variable {K : PySem.W.Frag} {mg : Md} {F H F' H' : Hp} {O O' A B : List Addr} {σ : L2.St}
theorem RpX.ext (x : Ext F H O F' H' O') : ∀ {as : List ArgV} {vs : List V} {A : List Addr}, RpX K mg F H σ vs as A → (∀ a ∈ A, a ∉ O) → RpX K mg F' H' σ vs as A
  | _, _, _, .nil, _ => .nil
  | _, _, _, .slot e h, n => .slot e (RpX.ext x h n)
  | _, _, _, .temp r h, n => .temp (r.ext x fun b m => n b (List.mem_append_left _ m)) (RpX.ext x h fun b m => n b (List.mem_append_right _ m))
theorem px_nil {Y : Fm} : PX Y [] xNil := ⟨_, fun _ _ => pa_nil, fun F H O σ E as E' e w s Q hQ => by cases e; exact hQ [] F H [] O Ext.refl w .nil s⟩
theorem px_slot {Y : Fm} {i : Nat} {x : Str} {px : Pos} {es : List Expr} {g} (hN : Y.N[i]? = some x) (hv : Vis Y.sc x) (h' : PX Y es g) (hd : (x == ("__debug__" : Str)) = false := by decide) (hcd : (x == ("__classdict__" : Str)) = false := by decide)
    (hs : ∀ X : Cx, starEach (.Name x px :: es) X.env = (false, eval (.Name x px) X.env) :: starEach es X.env := by intro _; rfl) : PX Y (.Name x px :: es) (xSlot i g) := by
  obtain ⟨_, p', q'⟩ := h'
  refine ⟨_, fun X h => pa_cons (pe_var (h.nm hN) (h.vis hv) hd hcd) (p' X h) (hs X), fun F H O σ E as E' e w s Q hQ => ?_⟩
  unfold xSlot at e
  split at e
  · rename_i d0 e0
    split at e
    · rename_i as' E1 eg
      cases e
      obtain ⟨v, A0, es0, _⟩ := s.get w e0
      exact ⟨v, es0, q' F H O σ E as' _ eg w s _ fun vs F1 H1 A O1 x1 w1 r1 s1 => hQ (v :: vs) F1 H1 A O1 x1 w1 (.slot es0 r1) s1⟩
    · cases e
  · cases e
theorem px_val {Y : Fm} {e : Expr} {es : List Expr} {f g} (h : PD Y e f) (h' : PX Y es g) (hs : ∀ X : Cx, starEach (e :: es) X.env = (false, eval e X.env) :: starEach es X.env := by intro _; rfl) : PX Y (e :: es) (xVal f g) := by
  obtain ⟨_, p, q⟩ := h
  obtain ⟨_, p', q'⟩ := h'
  refine ⟨_, fun X h => pa_cons (p X h) (p' X h) (hs X), fun F H O σ E as E' e w s Q hQ => ?_⟩
  unfold xVal at e
  split at e
  · rename_i d E1 ed
    split at e
    · rename_i as' E2 eg
      cases e
      refine q F H O σ E d E1 ed w s _ fun v F1 H1 A O1 x1 w1 r1 s1 => q' F1 H1 O1 σ E1 as' _ eg w1.right s1 _ fun vs F2 H2 B O2 x2 w2 r2 s2 => ?_
      refine hQ (v :: vs) F2 H2 (A ++ B) O2 ?_ ?_ (.temp (r1.ext x2 w1.apart) r2) s2
      · rw [List.append_assoc]; exact x1.trans (x2.frame w1)
      · rw [List.append_assoc]; exact w1.frame x2 w2
    · cases e
  · cases e
theorem RpS.pull : ∀ {E : Ev} {σ : L2.St} {O : List Addr} {i : Nat} {d : D}, RpS K mg F H σ E O → E[i]? = some (some d) → ∃ v A O', σ[i]? = some (some v) ∧ Rp K mg F H v d A ∧ RpS K mg F H σ (E.set i none) O' ∧ (A ++ O').Perm O
  | _, _, _, i, d, .nil, e => by simp at e
  | _, _, _, 0, d, .cons (O1 := P1) (O2 := P2) h1 h2, e => by
    simp at e
    subst e
    cases h1 with
    | some r => exact ⟨_, P1, P2, rfl, r, .cons (O1 := []) .none h2, List.Perm.refl _⟩
  | _, _, _, i + 1, d, .cons (O1 := P1) (O2 := P2) h1 h2, e => by
    obtain ⟨v, A, O', es, r, s, p⟩ := RpS.pull (i := i) h2 (by simpa using e)
    refine ⟨v, A, P1 ++ O', by simpa using es, r, .cons h1 s, ?_⟩
    have p1 : (A ++ (P1 ++ O')).Perm (P1 ++ (A ++ O')) := by
      rw [← List.append_assoc, ← List.append_assoc]
      exact List.Perm.append_right O' List.perm_append_comm
    exact p1.trans (List.Perm.append_left P1 p)
theorem gather_ok : ∀ {as : List ArgV} {vs : List V} {A O : List Addr} {E E2 : Ev} {ds : List D}, RpX K mg F H σ vs as A → RpS K mg F H σ E O → gather as E = some (ds, E2) →
    ∃ B O2, RpL K mg F H vs ds B ∧ RpS K mg F H σ E2 O2 ∧ (B ++ O2).Perm (A ++ O)
  | [], _, _, O, E, E2, ds, .nil, s, e => by cases e; exact ⟨[], O, .nil, s, List.Perm.refl _⟩
  | .inr d :: as, _, _, O, E, E2, ds, .temp (A1 := A1) (A2 := A2) r h, s, e => by
    unfold gather at e
    split at e
    · rename_i ds' E' eg
      cases e
      obtain ⟨B, O2, r2, s2, p⟩ := gather_ok h s eg
      refine ⟨A1 ++ B, O2, .cons r r2, s2, ?_⟩
      rw [List.append_assoc, List.append_assoc]
      exact List.Perm.append_left A1 p
    · cases e
  | .inl i :: as, _, A, O, E, E2, ds, .slot (v := v) (vs := vs) ev h, s, e => by
    unfold gather at e
    split at e
    · rename_i d ed
      split at e
      · rename_i hz
        split at e
        · rename_i ds' E' eg
          cases e
          obtain ⟨v', A', O', es, r, _, _⟩ := s.pull ed
          rw [ev] at es
          cases es
          have zA := r.fz hz
          subst zA
          obtain ⟨B, O2, r2, s2, p⟩ := gather_ok h s eg
          exact ⟨B, O2, .cons (O1 := []) r r2, s2, p⟩
        · cases e
      · split at e
        · rename_i ds' E' eg
          cases e
          obtain ⟨v', A', O', es, r, s', p'⟩ := s.pull ed
          rw [ev] at es
          cases es
          obtain ⟨B, O2, r2, s2, p⟩ := gather_ok h s' eg
          refine ⟨A' ++ B, O2, .cons r r2, s2, ?_⟩
          have p1 : (A' ++ (A ++ O')).Perm (A ++ (A' ++ O')) := by
            rw [← List.append_assoc, ← List.append_assoc]
            exact List.Perm.append_right O' List.perm_append_comm
          rw [List.append_assoc]
          exact (List.Perm.append_left A' p).trans (p1.trans (List.Perm.append_left A p'))
        · cases e
    · cases e
theorem putBack_ok : ∀ {as : List ArgV} {vs : List V} {A C O : List Addr} {E : Ev} {os : List D} {Fx Hx : Hp}, RpX K mg Fx Hx σ vs as A → RpL K mg F H vs os C → RpS K mg F H σ E O → Own F H (C ++ O) →
    ∃ O', RpS K mg F H σ (putBack as os E) O' ∧ Own F H O' ∧ ∀ a ∈ O', a ∈ C ++ O
  | [], _, _, _, O, E, os, _, _, h, r, s, w => by
    cases h
    cases r
    exact ⟨O, s, w, fun _ m => m⟩
  | .inr d :: as, _, _, _, O, E, _, _, _, .temp r h, .cons (O1 := C1) (O2 := C2) (ds := os) r1 r2, s, w => by
    rw [List.append_assoc] at w
    obtain ⟨O', s', w', m⟩ := putBack_ok h r2 s w.right
    refine ⟨O', s', w', fun a q => ?_⟩
    rw [List.append_assoc]
    exact List.mem_append_right _ (m a q)
  | .inl i :: as, _, _, _, O, E, _, _, _, .slot ev h, .cons (O1 := C1) (O2 := C2) (ds := os) r1 r2, s, w => by
    have pm : ((C1 ++ C2) ++ O).Perm (C2 ++ (C1 ++ O)) := by
      rw [← List.append_assoc C2 C1 O]
      exact List.Perm.append_right O List.perm_append_comm
    have w2 := w.perm pm
    obtain ⟨O1, s1, w1, m1⟩ := s.assign (i := i) w2.right r1
    rw [set_same ev] at s1
    have w3 : Own F H (C2 ++ O1) := w2.frame (Ext.refl.sub (fun b h => h) fun b h => .inr (m1 b h)) w1
    obtain ⟨O', s', w', m⟩ := putBack_ok h r2 s1 w3
    refine ⟨O', s', w', fun a q => pm.mem_iff.mpr ?_⟩
    rcases List.mem_append.mp (m a q) with z | z
    · exact List.mem_append_left _ z
    · exact List.mem_append_right _ (m1 a z)
/-- what a call gives, by what the def keeps -/
theorem call_core {t : TA} {g : Fs} {n : Nat} {fx} (hlen : ∀ ds r, g ds = some r → ds.length = n) (q : Dx K mg t fx) : De K mg (fun σ H Q => t σ H fun vs H1 => SpD K mg g n vs H1 Q) (eCall g fx) := by
  intro F H O σ E d E' ec w s Q hQ
  unfold eCall at ec
  split at ec
  · rename_i as E1 ea
    split at ec
    · rename_i ds E2 eg
      split at ec
      · rename_i ret outs er
        cases ec
        refine q F H O σ E as E1 ea w s _ fun vs F1 H1 A O1 x1 w1 r1 s1 => ?_
        obtain ⟨B, O2, r2, s2, pm⟩ := gather_ok r1 s1 eg
        have w2 := w1.perm pm.symm
        refine ⟨F1, ds, B, d, outs, er, hlen ds _ er, w2.left, r2, fun v F3 H3 A3 O3 x3 w3 rv ro => ?_⟩
        have w2' := w2.swap
        have w4 := w2'.frame x3 w3
        have s4 := s2.ext x3 w2'.apart
        have x4 : Ext F1 H1 (A ++ O1) F3 H3 (O2 ++ (A3 ++ O3)) := (x3.frame w2').perm (List.perm_append_comm.trans pm) (List.Perm.refl _)
        have pm2 : (O2 ++ (A3 ++ O3)).Perm (A3 ++ (O3 ++ O2)) := by
          refine List.perm_append_comm.trans ?_
          rw [List.append_assoc]
        have w5 := w4.perm pm2
        obtain ⟨O', s', w', m⟩ := putBack_ok r1 ro s4 w5.right
        refine hQ v F3 H3 A3 O' ?_ (w5.frame (Ext.refl.sub (fun b h => h) fun b h => .inr (m b h)) w') rv s'
        refine (x1.trans (x4.perm (List.Perm.refl _) pm2)).sub (fun _ m => m) fun b mb => .inl ?_
        rcases List.mem_append.mp mb with z | z
        · exact List.mem_append_left _ z
        · exact List.mem_append_right _ (m b z)
      · cases ec
    · cases ec
  · cases ec
/-- a call of a def of the module -/
theorem pd_call {Y : Fm} {f : Addr} {fd : FuncData} {ps : List Str} {g : Fs} {x : Str} {p pos : Pos} {e : Expr} {es : List Expr} {fx} (G : FnG Y.prog Y.w Y.K Y.mgf Y.base Y.k f fd ps g) (hg : GlY Y x) (hm : Y.mg x = some (.ref f)) (hk : PySem.W.keepIn Y.K (.ref f) = true) (hb : Binds Y.K fd ps [])
    (ha : PX Y (e :: es) fx) (hdb : (x == ("__debug__" : Str)) = false := by decide) (he : ∀ X : Cx, starEach (e :: es) X.env = (false, eval e X.env) :: starEach es X.env := by intro _; rfl) (hpl : ∀ X : Cx, (backTo pos (starEach es X.env)).any (·.1) = false := by intro _; rfl)
    (hlen : ∀ ds r, g ds = some r → ds.length = ps.length) : PD Y (.Call (.Name x p) (e :: es) [] pos) (eCall g fx) := by
  obtain ⟨t, pa, q⟩ := ha
  refine ⟨fun σ H Q => t σ H fun vs H1 => SpD Y.K Y.mg g ps.length vs H1 Q, fun X h => ⟨fun pins s σ H Q I hw => ?_⟩, call_core hlen q⟩
  · refine wpAny_Call_Name_kw (ld_glob I (h.gl hg) (h.mgN hm) ?_ hdb)
    refine PySem.W.callWith_K (h₀ := X.base) I.ok.mod.kin (by rw [h.K]; exact hk) (thn ((pa X h).run pos pins s σ H _ I hw) fun us s1 ⟨vs, H1, I1, r1, q1⟩ => ⟨I1.kIn, ?_⟩) (he X) (hpl X)
    have hl : (us ++ []).length = ps.length := by
      obtain ⟨F, ds, O, ret, outs, eg, hds, _, rl, _⟩ := q1
      rw [List.append_nil, ← r1.length, rl.length, hds]
    have hb' := hb s1 us (by rw [← h.K]; exact I1.kIn) hl
    rw [List.append_nil] at hb'
    have e0 : Env0 Y.prog Y.w Y.K Y.mg Y.base X.A X.stack s1 H1 := by
      have z := I1.env0
      rw [h.prog, h.w, h.K, h.mg, h.base] at z
      exact z
    have run := G.run X.A X.stack s1 H1 ⟨us, []⟩ us vs Q h.room h.guards e0 hb' r1 q1
    have run' : codeAny (model X.prog X.w) X.A (.call (.ref f) ⟨us, []⟩) (CR CX0 X.stack X.prog X.w H1 s1 Q E0) s1 := by
      rw [h.prog, h.w]; exact run
    refine wpAny_call (codeAny_mono run' fun r s' hq => ?_)
    cases r with
    | error e => exact False.elim hq
    | ok fl =>
      cases fl with
      | ret u => exact I1.after hq
      | next => exact False.elim hq
      | brk => exact False.elim hq
      | cont => exact False.elim hq
end
end Dm

namespace Dm
open PySem PySem.Spec L2
open PyProof.Rows hiding St
/-! ### enumerate and zip over lists and tuples in any mix -/
inductive Kd where
  | lst | tup
def SqK (K : PySem.W.Frag) : Kd → Hp → Addr → List V → Prop
  | .lst => SqL K
  | .tup => SqT K
def IsItK : Kd → Heap → Addr → Addr → Nat → Prop
  | .lst => fun h it a i => h.IsListIter it a i
  | .tup => fun h it a i => h.IsTupleIter it a i
def IsSqK : Kd → Heap → Addr → Array Value → Prop
  | .lst => fun h a xs => h.IsList a xs
  | .tup => fun h a xs => h.IsTuple a xs
def itO : Kd → Addr → Obj
  | .lst => fun a => { cls := .type "list_iterator", data := .fields #[.ref a, .int 0 0] }
  | .tup => fun a => { cls := .type "tuple_iterator", data := .fields #[.ref a, .int 0 0] }
theorem drawsK {prog : Program} {w : World} {A : Around} (hh : A.handled = none) (k : Kd) (it a : Addr) (hne : a ≠ it) (items : Array Value) :
    Draws prog w A it [it, a] items.size (fun i v => items[i]? = some v) (fun i h => IsItK k h it a i ∧ IsSqK k h a items) := by
  cases k
  · exact Draws.list hh it a hne items
  · exact Draws.tuple hh it a hne items
theorem beginsK (k : Kd) (a : Addr) (items : Array Value) : Begins (.ref a) (itO k a) fun h => IsSqK k h a items := by
  cases k
  · exact begins_list a items
  · exact begins_tuple a items
theorem itO_is {k : Kd} {h : Heap} {it a : Addr} (e : h.get? it = some (itO k a)) : IsItK k h it a 0 := by
  cases k
  · exact ⟨_, e, rfl, rfl⟩
  · exact ⟨_, e, rfl, rfl⟩
theorem IsItK.obj {k : Kd} {h : Heap} {it a : Addr} {i : Nat} (x : IsItK k h it a i) : ∃ o, h.get? it = some o ∧ ∀ v, o.data ≠ .cell v := by
  cases k
  · obtain ⟨o, e, _, d⟩ := x; exact ⟨o, e, fun v q => by rw [d] at q; cases q⟩
  · obtain ⟨o, e, _, d⟩ := x; exact ⟨o, e, fun v q => by rw [d] at q; cases q⟩
theorem IsItK.at {k : Kd} {h h' : Heap} {it a : Addr} {i : Nat} (x : IsItK k h it a i) (q : ∀ o, h.get? it = some o → h'.get? it = some o) : IsItK k h' it a i := by
  cases k
  · obtain ⟨o, e, c, d⟩ := x; exact ⟨o, q o e, c, d⟩
  · obtain ⟨o, e, c, d⟩ := x; exact ⟨o, q o e, c, d⟩
section
variable {X : Cx} {pins : List (Addr × Obj)} {σ : L2.St} {H : Hp} {s : Shared}
theorem inv_sq {k : Kd} {a : Addr} {xs : List V} (I : Inv X pins σ H s) (h : SqK X.K k H a xs) : ∃ its : List Value, Vals xs its ∧ IsSqK k s.heap a its.toArray ∧ xs.length ≤ sizeLine := by
  cases k
  · obtain ⟨its, r, p, z⟩ := I.list h; exact ⟨its, r, p.isList, z⟩
  · obtain ⟨its, r, p, z⟩ := I.tuple h; exact ⟨its, r, p, z⟩
theorem sq_inj {k : Kd} {a : Addr} {xs ys : List V} (I : Inv X pins σ H s) (h : SqK X.K k H a xs) (h' : SqK X.K k H a ys) : xs = ys := by
  cases k
  · exact I.list_inj h h'
  · exact I.tuple_inj h h'
theorem IsSqK.lt {k : Kd} {h : Heap} {a : Addr} {xs : Array Value} (x : IsSqK k h a xs) : a < h.objs.size := by
  cases k
  · obtain ⟨o, e, _⟩ := x; exact Heap.lt_size e
  · obtain ⟨o, e, _⟩ := x; exact Heap.lt_size e
end
theorem SqK.up {K : PySem.W.Frag} {k : Kd} {H H' : Hp} {a : Addr} {xs : List V} (f : ∀ b o, H b = some o → H' b = some o) (h : SqK K k H a xs) : SqK K k H' a xs := by
  cases k
  · exact SqL.up f h
  · exact SqT.up f h
/-- what leads an iterator of new tuples through one turn: the library's walk, and what its tuple is to the one who walks -/
def Led (X : Cx) (tg : Expr) (J : It) (fp : List Addr) (it : Addr) (tn : Nat → Heap → Prop) (i : Nat) (s : Shared) (H : Hp) : Prop :=
  ∃ n wr fps Y St, GoesN X.prog X.w X.A tg it fps wr n Y St ∧ St i s.heap ∧ wr ⊆ fp ∧ (∀ h, St (i + 1) h → tn (i + 1) h) ∧ (J.stop i H → i = n) ∧
    (J.go i H → i < n ∧ ∀ v h', Y i s.heap v h' → ∃ T xs, v = .ref T ∧ s.heap.objs.size ≤ T ∧ ObjOk X.prog X.w (upd H T (.tup xs)) h' T (.tup xs) ∧ (H T = none → J.yld i H (.ref T) (upd H T (.tup xs))))
theorem turn_by {P : Program} {w : World} {K : PySem.W.Frag} {tg : Expr} {J : It} {fp : List Addr} {it : Addr} {tn : Nat → Heap → Prop} (mem : it ∈ fp) (obj : ∀ i h, tn i h → ∀ b ∈ fp, ∃ o, h.get? b = some o ∧ ∀ v, o.data ≠ .cell v)
    (keep : ∀ i h h', tn i h → (∀ b ∈ fp, ∀ o, h.get? b = some o → h'.get? b = some o) → tn i h') (self : ∀ (A : Around) (i : Nat) (s : Shared) (Q : Value → Shared → Prop) (E : Value → Shared → Prop), tn i s.heap → Q (.ref it) s → wpAny (model P w) A (pyIter (.ref it)) Q E s)
    (led : ∀ X : Cx, X.prog = P → X.w = w → X.K = K → X.calm = true → ∀ i pins s σ H, Inv X pins σ H s → tn i s.heap → J.go i H ∨ J.stop i H → Led X tg J fp it tn i s H) : Turn P w K tg J fp it tn := by
  refine ⟨mem, obj, keep, fun X eP ew eK hc i pins s σ H E I free st go => ?_, fun X eP ew eK hc i pins s σ H E I free st stop => ?_, self⟩
  · obtain ⟨n, wr, fps, Y, St, G, here, sub, next, _, turn⟩ := led X eP ew eK hc i pins s σ H I st (.inl go)
    obtain ⟨lt, gives⟩ := turn go
    rw [← eP, ← ew]
    refine G.goes i s _ E lt here fun v h' tk y st' kept _ => ?_
    obtain ⟨T, xs, rfl, new, ok, yields⟩ := gives v h' y
    refine ⟨.ref T, _, I.turnedNew (fun b o nb e => kept b o (fun m => nb (sub m)) e) free new ok, rfl, yields (I.hok.fresh new), next _ st', fun b mb => ?_⟩
    obtain ⟨o, e, _⟩ := obj i _ st b mb
    rw [upd_ne (Nat.ne_of_lt (Nat.lt_of_lt_of_le (Heap.lt_size e) new))]
    exact (free b mb).1
  · obtain ⟨n, wr, fps, Y, St, G, here, sub, _, last, _⟩ := led X eP ew eK hc i pins s σ H I st (.inr stop)
    cases last stop
    rw [← eP, ← ew]
    exact G.stops s (Inv X pins σ H) E here fun h' tk kept _ => I.turnedL (fun b o nb e => kept b o (fun m => nb (sub m)) e) free
theorem apart_it {k : Kd} {a it : Addr} {h : Heap} {i : Nat} {its : Array Value} (x : IsItK k h it a i) (y : IsSqK k h a its) : a ≠ it := fun e => by
  subst e
  cases k <;> (obtain ⟨_, e1, c1, _⟩ := x; obtain ⟨_, e2, c2, _⟩ := y; cases e1.symm.trans e2; exact absurd (c1.symm.trans c2) (by decide))
/-- the numbered items of a list or tuple -/
def Ien (K : PySem.W.Frag) (k : Kd) (c : Int) (a : Addr) : It where
  go i H := ∃ xs x, SqK K k H a xs ∧ xs[i]? = some x
  yld i H v H' := ∃ T x, v = .ref T ∧ H T = none ∧ H' = upd H T (.tup [.int (c + (i : Nat)), x]) ∧ ∀ xs, SqK K k H a xs → xs[i]? = some x
  stop i H := ∃ xs, SqK K k H a xs ∧ xs.length = i
theorem turn_enumK {P : Program} {w : World} {K : PySem.W.Frag} {elts : List Expr} {kk : Nat} {tpos : Pos} (k : Kd) (c : Int) (a e it : Addr) (hea : e ≠ a) (hei : e ≠ it) :
    Turn P w K (.Tuple elts kk tpos) (Ien K k c a) [e, it] e (fun i h => (∃ old, IsEnum h e it (c + ((i : Nat) : Int)) old) ∧ IsItK k h it a i) := by
  refine turn_by (by simp) (fun i h st => ?_) (fun i h h' st kp => ⟨let ⟨old, x⟩ := st.1; ⟨old, kp e (by simp) _ x⟩, st.2.at (kp it (by simp))⟩) (fun A i s Q E st q => let ⟨_, x⟩ := st.1; wpAny_pyIter_enum x q) ?_
  · obtain ⟨⟨old, x⟩, y⟩ := st
    simp only [List.mem_cons, List.not_mem_nil, or_false, forall_eq_or_imp, forall_eq]
    exact ⟨⟨_, x, fun _ q => nomatch q⟩, y.obj⟩
  · rintro X rfl rfl rfl hc i pins s σ H I ⟨en, itr⟩ goes
    obtain ⟨xs, hq⟩ : ∃ xs, SqK X.K k H a xs := by rcases goes with ⟨xs, _, q, _⟩ | ⟨xs, q, _⟩ <;> exact ⟨xs, q⟩
    obtain ⟨its, rv, p, _⟩ := inv_sq I hq
    have far := apart_it itr p
    refine ⟨_, _, _, _, _, GoesN.enumFrom c (drawsK (A := X.A.in1) (I.ok.hd hc) k it a far its.toArray) e hei (by simp [hei, hea]) (by simp), ⟨en, itr, p⟩, by simp, fun h st => ⟨st.1, st.2.1⟩, fun ⟨ys, hy, l⟩ => ?_, fun ⟨ys, x, hy, ex⟩ => ?_⟩
    · rw [List.size_toArray, ← rv.length, ← sq_inj I hy hq, l]
    · cases sq_inj I hy hq
      obtain ⟨u, eu, ru⟩ := rv.get ex
      refine ⟨by simpa using (List.getElem?_eq_some_iff.mp eu).1, fun v h' ⟨T, t, x', ev, new, ex', tup⟩ => ⟨T, [.int (c + (i : Nat)), x], ev, new, ⟨by show 2 ≤ sizeLine; decide, [.int (c + (i : Nat)) t, u], .cons ⟨_, rfl⟩ (.cons ru .nil), ?_⟩, fun none => ⟨T, x, rfl, none, rfl, fun zs hz => by rw [sq_inj I hz hq]; exact ex⟩⟩⟩
      cases (show some u = some x' by rw [← eu]; simpa using ex')
      exact tup
/-- two lists or tuples side by side -/
def Izp (K : PySem.W.Frag) (k1 k2 : Kd) (a b : Addr) : It where
  go i H := ∃ xs ys x y, SqK K k1 H a xs ∧ SqK K k2 H b ys ∧ xs[i]? = some x ∧ ys[i]? = some y
  yld i H v H' := ∃ T x y, v = .ref T ∧ H T = none ∧ H' = upd H T (.tup [x, y]) ∧ (∀ xs, SqK K k1 H a xs → xs[i]? = some x) ∧ ∀ ys, SqK K k2 H b ys → ys[i]? = some y
  stop i H := ∃ xs ys, SqK K k1 H a xs ∧ SqK K k2 H b ys ∧ min xs.length ys.length = i
theorem turn_zipK {P : Program} {w : World} {K : PySem.W.Frag} {elts : List Expr} {kk : Nat} {tpos : Pos} (k1 k2 : Kd) {a b z TI TO i1 i2 : Addr} (S : ZipSep2 z TI TO i1 i2 [i1, a] [i2, b]) :
    Turn P w K (.Tuple elts kk tpos) (Izp K k1 k2 a b) [z, TI, TO, i1, i2] z (fun i h => IsZip h z TI TO .none ∧ IsTupOf2 h TI (.ref i1) (.ref i2) ∧ (∃ x y, IsTupOf2 h TO x y) ∧ IsItK k1 h i1 a i ∧ IsItK k2 h i2 b i) := by
  refine turn_by (by simp) (fun i h st => ?_) (fun i h h' st kp => ?_) (fun A i s Q E st q => wpAny_pyIter_zip st.1 q) ?_
  · obtain ⟨x1, x2, ⟨_, _, x3⟩, x4, x5⟩ := st
    simp only [List.mem_cons, List.not_mem_nil, or_false, forall_eq_or_imp, forall_eq]
    exact ⟨⟨_, x1, fun _ q => nomatch q⟩, ⟨_, x2, fun _ q => nomatch q⟩, ⟨_, x3, fun _ q => nomatch q⟩, x4.obj, x5.obj⟩
  · obtain ⟨x1, x2, ⟨u, v, x3⟩, x4, x5⟩ := st
    exact ⟨kp z (by simp) _ x1, kp TI (by simp) _ x2, ⟨u, v, kp TO (by simp) _ x3⟩, x4.at (kp i1 (by simp)), x5.at (kp i2 (by simp))⟩
  · rintro X rfl rfl rfl hc i pins s σ H I ⟨x1, x2, x3, x4, x5⟩ goes
    obtain ⟨xs, ys, hx, hy⟩ : ∃ xs ys, SqK X.K k1 H a xs ∧ SqK X.K k2 H b ys := by rcases goes with ⟨xs, ys, _, _, p, q, _⟩ | ⟨xs, ys, p, q, _⟩ <;> exact ⟨xs, ys, p, q⟩
    obtain ⟨us, ru, pu, _⟩ := inv_sq I hx
    obtain ⟨vs, rv, pv, _⟩ := inv_sq I hy
    refine ⟨_, _, _, _, _, GoesN.zip2 S (drawsK (A := X.A.in1) (I.ok.hd hc) k1 i1 a (apart_it x4 pu) us.toArray) (drawsK (A := X.A.in1) (I.ok.hd hc) k2 i2 b (apart_it x5 pv) vs.toArray), ⟨x1, x2, x3, ⟨x4, pu⟩, x5, pv⟩, fun c m => ?_, fun h st => ⟨st.1, st.2.1, st.2.2.1, st.2.2.2.1.1, st.2.2.2.2.1⟩, fun ⟨l, m, hl, hm, e⟩ => ?_, fun ⟨l, m, x, y, hl, hm, ex, ey⟩ => ?_⟩
    · simp only [List.mem_cons, List.not_mem_nil, or_false] at m ⊢
      rcases m with m | m | m | m <;> simp [m]
    · rw [List.size_toArray, List.size_toArray, ← ru.length, ← rv.length, ← sq_inj I hl hx, ← sq_inj I hm hy, e]
    · cases sq_inj I hl hx
      cases sq_inj I hm hy
      obtain ⟨u, eu, r1⟩ := ru.get ex
      obtain ⟨v, ev, r2⟩ := rv.get ey
      refine ⟨Nat.lt_min.mpr ⟨by simpa using (List.getElem?_eq_some_iff.mp eu).1, by simpa using (List.getElem?_eq_some_iff.mp ev).1⟩, fun t h' ⟨T, p, q, et, new, ep, eq, tup⟩ => ⟨T, [x, y], et, new, ⟨by show 2 ≤ sizeLine; decide, [u, v], .cons r1 (.cons r2 .nil), ?_⟩, fun none => ⟨T, x, y, rfl, none, rfl, fun zs hz => by rw [sq_inj I hz hx]; exact ex, fun zs hz => by rw [sq_inj I hz hy]; exact ey⟩⟩⟩
      cases (show some u = some p by rw [← eu]; simpa using ep)
      cases (show some v = some q by rw [← ev]; simpa using eq)
      exact tup
/-! the calls -/
set_option maxHeartbeats 1000000 in
theorem meets_enum1 {v : Value} {o : Obj} {H : Heap → Prop} (B : Begins v o H) :
    Meets (Builtin.«enumerate.__new__» ⟨[.type "enumerate", v], []⟩) (fun _ R s => H s.heap ∧
      R (.ok (.ret (.ref (s.heap.push o).objs.size))) { s with heap := (s.heap.push o).push { cls := .type "enumerate", data := .fields #[.none, .bool false, .ref s.heap.objs.size, rawInt 0, .none, .none] } }) :=
  .of_wp fun prog w A R s h => by
    obtain ⟨hp, g, d, tk, os⟩ := s; obtain ⟨h1, h⟩ := h
    have hsub := sub_enumerate
    have q1 : ∀ {A' : Around} {E : Value → Shared → Prop} {Q : Value → Shared → Prop}, Q (.ref hp.objs.size) ⟨hp.push o, g, d, tk, os⟩ → wpAny (model prog w) A' (pyIter v) Q E ⟨hp, g, d, tk, os⟩ :=
      fun q => B.iter prog w _ _ ⟨hp, g, d, tk, os⟩ _ h1 q
    wp_walk using q1
    refine wpAny_stack_any fun st => wpAny_pure ?_
    split
    · rename_i c _ _ _ _ _
      cases (c == Value.type "enumerate")
      · wp_walk using q1
        exact ⟨_, rfl, h⟩
      · wp_walk using q1
        exact ⟨_, rfl, h⟩
    · wp_walk using q1
      exact ⟨_, rfl, h⟩
section
variable {prog : Program} {w : World} {A : Around} {E : Value → Shared → Prop} {s : Shared}
theorem enum1_begins {v : Value} {o : Obj} {H : Heap → Prop} {Q : Value → Shared → Prop} (B : Begins v o H) (h1 : H s.heap)
    (h : ∀ h', IsEnum h' (s.heap.objs.size + 1) s.heap.objs.size 0 .none → h'.get? s.heap.objs.size = some o → h'.objs.size = s.heap.objs.size + 2 →
      (∀ b o, s.heap.get? b = some o → h'.get? b = some o) → Q (.ref (s.heap.objs.size + 1)) { s with heap := h' }) :
    wpAny (model prog w) A (call (.type "enumerate") [v]) Q E s := by
  refine callType_new F.called_enumerate (by decide) (F.typeCall_enumerate_1 _) (F.newCall_enumerate_1 _) (fun obj => F.args_object_init_2 obj _) F.entry_enumerate_new
    (meets_enum1 B) ⟨h1, ?_⟩
  have hz : (s.heap.push o).objs.size = s.heap.objs.size + 1 := Heap.size_push ..
  show _ ∧ _
  rw [hz]
  have he : IsEnum ((s.heap.push o).push { cls := .type "enumerate", data := .fields #[.none, .bool false, .ref s.heap.objs.size, rawInt 0, .none, .none] }) (s.heap.objs.size + 1) s.heap.objs.size 0 .none := by
    have := Heap.get?_push_size (s.heap.push o) (o := { cls := .type "enumerate", data := .fields #[.none, .bool false, .ref s.heap.objs.size, rawInt 0, .none, .none] }) rfl
    rw [hz] at this; exact this
  refine ⟨⟨_, he, rfl⟩, h _ he (Heap.get?_push_of_some _ (Heap.get?_push_size _ B.free)) (by rw [Heap.size_push, hz]) fun b o x => Heap.get?_push_of_some _ (Heap.get?_push_of_some _ x)⟩
end
theorem newly {X : Cx} {pins : List (Addr × Obj)} {σ : L2.St} {H : Hp} {s : Shared} {l : List Addr} (I : Inv X pins σ H s) (n : ∀ b ∈ l, s.heap.objs.size ≤ b) : ∀ b ∈ l, FpOk X pins H b := fun b m =>
  I.fpOk (n b m) (I.hok.fresh (n b m))
def wEnum (K : PySem.W.Frag) (ta : TA) : TI := fun σ H R => ta σ H fun vs H1 => ∃ k a xs, vs = [.ref a] ∧ SqK K k H1 a xs ∧ R (Ien K k 0 a) H1
theorem pi_enumK {X : Cx} {e : Expr} {ta : TA} {p pos tpos : Pos} {elts : List Expr} {kk : Nat} (hg : Gl X "enumerate") (hm : X.mg "enumerate" = none) (ha : PA X [e] ta) (hs : starEach [e] X.env = [(false, eval e X.env)] := by rfl) :
    PI X (.Tuple elts kk tpos) (.Call (.Name "enumerate" p) [e] [] pos) (wEnum X.K ta) := by
  refine ⟨fun pins s σ H R I h => ?_⟩
  refine Call_ (ld_blt I hg hm boot_enumerate (PyProof.Rows.callWith_type1 (thn (ha.run pos pins s σ H _ I h) fun us s1 ⟨vs, H1, I1, r1, q1⟩ => ?_) hs rfl))
  obtain ⟨k, a, xs, ex, hq, q⟩ := q1
  subst ex
  cases r1 with
  | cons r rr =>
    cases rr
    cases r
    obtain ⟨its, rv, p', hz⟩ := inv_sq I1 hq
    refine enum1_begins (beginsK k a its.toArray) p' fun h' he hit hsz hk => wpAny_pyIter_enum he ?_
    have I2 : Inv X pins σ H1 { s1 with heap := h' } := I1.kept (t' := s1.toks) hk
    refine ⟨_, [s1.heap.objs.size + 1, s1.heap.objs.size], _, _, H1, rfl, I2, turn_enumK k 0 a (s1.heap.objs.size + 1) s1.heap.objs.size (Nat.ne_of_gt (Nat.lt_succ_of_lt p'.lt)) (Nat.succ_ne_self _), ⟨⟨.none, by simpa using he⟩, itO_is hit⟩, newly I1 (by simp), q⟩
def wZip (K : PySem.W.Frag) (ta : TA) : TI := fun σ H R => ta σ H fun vs H1 => ∃ k1 k2 a b xs ys, vs = [.ref a, .ref b] ∧ SqK K k1 H1 a xs ∧ SqK K k2 H1 b ys ∧ R (Izp K k1 k2 a b) H1
theorem pi_zipK {X : Cx} {e e2 : Expr} {ta : TA} {p pos tpos : Pos} {elts : List Expr} {kk : Nat} (hg : Gl X "zip") (hm : X.mg "zip" = none) (ha : PA X [e, e2] ta)
    (hs : starEach [e, e2] X.env = (false, eval e X.env) :: starEach [e2] X.env := by rfl) (hpl : (backTo pos (starEach [e2] X.env)).any (·.1) = false := by rfl) :
    PI X (.Tuple elts kk tpos) (.Call (.Name "zip" p) [e, e2] [] pos) (wZip X.K ta) := by
  refine ⟨fun pins s σ H R I h => ?_⟩
  refine Call_ (ld_blt I hg hm PyProof.Rows.boot_zip (PyProof.Rows.callWith_type1 (thn (ha.run pos pins s σ H _ I h) fun us s1 ⟨vs, H1, I1, r1, q1⟩ => ?_) hs hpl))
  obtain ⟨k1, k2, a, b, xs, ys, ex, hqx, hqy, q⟩ := q1
  subst ex
  cases r1 with
  | cons r rr =>
    cases rr with
    | cons r' rr =>
      cases rr
      cases r
      cases r'
      obtain ⟨its, rv, p1, _⟩ := inv_sq I1 hqx
      obtain ⟨its2, rv2, p2, _⟩ := inv_sq I1 hqy
      refine zip_begins2 (beginsK k1 a its.toArray) (beginsK k2 b its2.toArray) p1 p2 fun h' hz hTI hTO h1 h2 hsz hk => wpAny_pyIter_zip hz ?_
      have I2 : Inv X pins σ H1 { s1 with heap := h' } := I1.kept (t' := s1.toks) hk
      refine ⟨_, [s1.heap.objs.size + 4, s1.heap.objs.size + 2, s1.heap.objs.size + 3, s1.heap.objs.size, s1.heap.objs.size + 1], _, _, H1, rfl, I2, turn_zipK k1 k2 (zip_sep2 (fp1 := [a]) (fp2 := [b]) (fun c m => List.mem_singleton.mp m ▸ p1.lt) (fun c m => List.mem_singleton.mp m ▸ p2.lt)),
        ⟨hz, hTI, ⟨_, _, hTO⟩, itO_is h1, itO_is h2⟩, newly I1 (by simp), q⟩
end Dm

namespace Dm
open PySem PySem.Spec L2
open PyProof.Rows hiding St
/-! ### enumerate, zip on data -/
def seqD : D → Option (List D)
  | .lst _ xs => some (frozL xs)
  | .scr xs => some xs
  | .tup xs => some (frozL xs)
  | _ => none
def enumD : Int → List D → List D
  | _, [] => []
  | k, x :: xs => .tup [.int k, x] :: enumD (k + 1) xs
def zipD : List D → List D → List D
  | x :: xs, y :: ys => .tup [x, y] :: zipD xs ys
  | _, _ => []
theorem enumD_get : ∀ {xs : List D} {k : Int} {i : Nat} {d : D}, (enumD k xs)[i]? = some d → ∃ x, xs[i]? = some x ∧ d = .tup [.int (k + (i : Nat)), x]
  | [], _, _, _, e => by simp [enumD] at e
  | x :: xs, k, 0, d, e => by
    simp [enumD] at e
    exact ⟨x, rfl, by rw [← e]; simp⟩
  | x :: xs, k, i + 1, d, e => by
    obtain ⟨y, h1, h2⟩ := enumD_get (xs := xs) (k := k + 1) (i := i) (d := d) (by simpa [enumD] using e)
    refine ⟨y, by simpa using h1, ?_⟩
    rw [h2]
    have : k + 1 + ((i : Nat) : Int) = k + ((i + 1 : Nat) : Int) := by omega
    rw [this]
theorem enumD_length : ∀ (xs : List D) (k : Int), (enumD k xs).length = xs.length
  | [], _ => rfl
  | x :: xs, k => by simp [enumD, enumD_length xs]
theorem zipD_get : ∀ {xs ys : List D} {i : Nat} {d : D}, (zipD xs ys)[i]? = some d → ∃ x y, xs[i]? = some x ∧ ys[i]? = some y ∧ d = .tup [x, y]
  | [], ys, _, _, e => by simp [zipD] at e
  | x :: xs, [], _, _, e => by simp [zipD] at e
  | x :: xs, y :: ys, 0, d, e => by
    simp [zipD] at e
    exact ⟨x, y, rfl, rfl, e.symm⟩
  | x :: xs, y :: ys, i + 1, d, e => by
    obtain ⟨a, b, h1, h2, h3⟩ := zipD_get (xs := xs) (ys := ys) (i := i) (d := d) (by simpa [zipD] using e)
    exact ⟨a, b, by simpa using h1, by simpa using h2, h3⟩
theorem zipD_length : ∀ (xs ys : List D), (zipD xs ys).length = min xs.length ys.length
  | [], ys => by simp [zipD]
  | x :: xs, [] => by simp [zipD]
  | x :: xs, y :: ys => by
    have := zipD_length xs ys
    simp only [zipD, List.length_cons, this]
    omega
def iEnum (g : Ev → Option (List D × Ev)) : Ev → Option (List D × Ev) := fun E => match g E with
  | some ([d], E1) => (match seqD d with | some xs => some (enumD 0 xs, E1) | none => none)
  | _ => none
def iZip (g : Ev → Option (List D × Ev)) : Ev → Option (List D × Ev) := fun E => match g E with
  | some ([d, d2], E1) => (match seqD d, seqD d2 with | some xs, some ys => some (zipD xs ys, E1) | _, _ => none)
  | _ => none
section
variable {K : PySem.W.Frag} {mg : Md} {F H F' H' : Hp} {O O' A B C : List Addr} {σ : L2.St} {E : Ev} {v : V} {d : D} {vs : List V} {ds : List D}
/-- a frozen thing that is walked -/
theorem seq_fz (f : ∀ a o, F a = some o → H a = some o) (r : Rp K mg F H v (froz d) []) {xs : List D} (e : seqD d = some xs) : ∃ k a us, v = .ref a ∧ SqK K k F a us ∧ RpL K mg F H us xs [] := by
  cases d <;> simp only [seqD] at e <;> try (cases e; done)
  · cases e
    have r' : Rp K mg F H v (.tup (frozL _)) [] := r
    generalize hz : ([] : List Addr) = Z at r'
    cases r' with
    | tup ea z rl => subst hz; exact ⟨.tup, _, _, rfl, ea, rl⟩
  · cases e
    have r' : Rp K mg F H v (.lst false (frozL _)) [] := r
    cases r' with
    | lstF ea z rl => exact ⟨.lst, _, _, rfl, SqL.of ea, rl⟩
  · cases e
    have r' : Rp K mg F H v (.scr _) [] := r
    cases r' with
    | scr ea z rl => exact ⟨.lst, _, _, rfl, ea, rl⟩
theorem fz_nil {vs : List V} {ds : List D} (h : RpL K mg F H vs ds []) {i : Nat} {x : D} (e : ds[i]? = some x) : ∃ u, vs[i]? = some u ∧ Rp K mg F H u x [] := by
  obtain ⟨u, B, hu, ru, mB⟩ := h.get e
  have eB : B = [] := List.eq_nil_iff_forall_not_mem.mpr fun b m => by have := mB b m; cases this
  subst eB
  exact ⟨u, hu, ru⟩
theorem ien_ok {k : Kd} {c : Int} {a : Addr} {F0 : Hp} (e : SqK K k F0 a vs) (r : RpL K mg F0 H vs ds []) : ItOk K mg (Ien K k c a) F0 (enumD c ds) where
  go := fun F H2 i x f g hx => by
    obtain ⟨y, hy, ex⟩ := enumD_get hx
    subst ex
    obtain ⟨u, hu, ru⟩ := fz_nil r hy
    have es : SqK K k H2 a vs := SqK.up (fun b o q => g b o (f b o q)) e
    refine ⟨⟨vs, u, es, hu⟩, fun v H' y' => ?_⟩
    obtain ⟨T, x', ev, hT, eH, q⟩ := y'
    have := (q vs es).symm.trans hu
    cases this
    subst ev eH
    have qx : Qx F H2 (upd F T (.tup [.int (c + (i : Nat)), u])) (upd H2 T (.tup [.int (c + (i : Nat)), u])) := Qx.newF g hT
    refine ⟨_, qx, ?_⟩
    have : RpL K mg F H2 [.int (c + (i : Nat)), u] [.int (c + (i : Nat)), y] [] := .cons (O1 := []) (.int _) (.cons (O1 := []) (ru.up f) .nil)
    exact .tup (SqT.of upd_same) (by show 2 ≤ sizeLine; decide) (qx.rpl this)
  stop := fun F H2 i f g hi => ⟨vs, SqK.up (fun b o q => g b o (f b o q)) e, by rw [r.length, ← enumD_length ds c]; exact hi⟩
theorem izp_ok {k1 k2 : Kd} {a b : Addr} {F0 H1 : Hp} {us : List V} {es : List D} (e1 : SqK K k1 F0 a vs) (r1 : RpL K mg F0 H vs ds []) (e2 : SqK K k2 F0 b us) (r2 : RpL K mg F0 H1 us es []) : ItOk K mg (Izp K k1 k2 a b) F0 (zipD ds es) where
  go := fun F H2 i x f g hx => by
    obtain ⟨y, z, hy, hz, ex⟩ := zipD_get hx
    subst ex
    obtain ⟨u, hu, ru⟩ := fz_nil r1 hy
    obtain ⟨w, hw, rw'⟩ := fz_nil r2 hz
    have es1 : SqK K k1 H2 a vs := SqK.up (fun b o q => g b o (f b o q)) e1
    have es2 : SqK K k2 H2 b us := SqK.up (fun b o q => g b o (f b o q)) e2
    refine ⟨⟨vs, us, u, w, es1, es2, hu, hw⟩, fun v H' y' => ?_⟩
    obtain ⟨T, x', w', ev, hT, eH, q1, q2⟩ := y'
    have t1 := (q1 vs es1).symm.trans hu
    have t2 := (q2 us es2).symm.trans hw
    cases t1
    cases t2
    subst ev eH
    have qx : Qx F H2 (upd F T (.tup [u, w])) (upd H2 T (.tup [u, w])) := Qx.newF g hT
    refine ⟨_, qx, ?_⟩
    have : RpL K mg F H2 [u, w] [y, z] [] := .cons (O1 := []) (ru.up f) (.cons (O1 := []) (rw'.up f) .nil)
    exact .tup (SqT.of upd_same) (by show 2 ≤ sizeLine; decide) (qx.rpl this)
  stop := fun F H2 i f g hi => ⟨vs, us, SqK.up (fun b o q => g b o (f b o q)) e1, SqK.up (fun b o q => g b o (f b o q)) e2, by rw [r1.length, r2.length, ← zipD_length ds es]; exact hi⟩
/-- freezing what was made for the walk -/
theorem frz_walk (w : Own F H (A ++ O)) (s : RpS K mg F H σ E O) : Ext F H (A ++ O) (frz F H A) H O ∧ Own (frz F H A) H O ∧ RpS K mg (frz F H A) H σ E O := by
  have wA := w.left
  have x2 := frz_ext wA
  have w2 : Own (frz F H A) H (O ++ []) := w.swap.frame x2 (Own.nil (frz_le wA))
  rw [List.append_nil] at w2
  exact ⟨x2.sub (fun b m => List.mem_append_left _ m) fun b m => .inr (List.mem_append_right _ m), w2, s.ext x2 w.swap.apart⟩
end
theorem id_enum {Y : Fm} {e : Expr} {p pos tpos : Pos} {elts : List Expr} {kk : Nat} {g} (hg : GlY Y "enumerate") (hm : Y.mg "enumerate" = none) (ha : PDa Y [e] g) (hs : ∀ X : Cx, starEach [e] X.env = [(false, eval e X.env)] := by intro _; rfl) :
    ID Y (.Tuple elts kk tpos) (.Call (.Name "enumerate" p) [e] [] pos) (iEnum g) := by
  obtain ⟨t, p, q⟩ := ha
  refine ⟨_, fun X h => h.K ▸ pi_enumK (h.gl hg) (h.mgN hm) (p X h) (hs X), fun F H O σ E xs E' e w s R hR => ?_⟩
  unfold iEnum at e
  split at e
  · rename_i d E1 ed
    split at e
    · rename_i ys ey
      cases e
      refine q F H O σ E _ _ ed w s _ fun vs F1 H1 A O1 x1 w1 r1 s1 => ?_
      obtain ⟨x3, w2, s2⟩ := frz_walk w1 s1
      have r2 := r1.freeze w1.left
      obtain ⟨v, ev, rv⟩ := RpL.one_inv (by simpa [frozL] using r2)
      subst ev
      obtain ⟨k, a, us, ea, hq, hr⟩ := seq_fz (frz_le w1.left) rv ey
      subst ea
      exact ⟨k, a, us, rfl, SqK.up (frz_le w1.left) hq, hR _ _ _ O1 (x1.trans x3) w2 s2 (ien_ok hq hr)⟩
    · cases e
  · cases e
theorem id_zip {Y : Fm} {e e2 : Expr} {p pos tpos : Pos} {elts : List Expr} {kk : Nat} {g} (hg : GlY Y "zip") (hm : Y.mg "zip" = none) (ha : PDa Y [e, e2] g) (hs : ∀ X : Cx, starEach [e, e2] X.env = (false, eval e X.env) :: starEach [e2] X.env := by intro _; rfl)
    (hpl : ∀ X : Cx, (backTo pos (starEach [e2] X.env)).any (·.1) = false := by intro _; rfl) :
    ID Y (.Tuple elts kk tpos) (.Call (.Name "zip" p) [e, e2] [] pos) (iZip g) := by
  obtain ⟨t, p, q⟩ := ha
  refine ⟨_, fun X h => h.K ▸ pi_zipK (h.gl hg) (h.mgN hm) (p X h) (hs X) (hpl X), fun F H O σ E xs E' e w s R hR => ?_⟩
  unfold iZip at e
  split at e
  · rename_i d d2 E1 ed
    split at e
    · rename_i ys zs ey ez
      cases e
      refine q F H O σ E _ _ ed w s _ fun vs F1 H1 A O1 x1 w1 r1 s1 => ?_
      obtain ⟨x3, w2, s2⟩ := frz_walk w1 s1
      have r2 := r1.freeze w1.left
      have r3 : RpL Y.K Y.mg (frz F1 H1 A) H1 vs [froz d, froz d2] [] := by simpa [frozL] using r2
      cases vs with
      | nil => have := r3.length; simp at this
      | cons v1 vs =>
        obtain ⟨p1, r4⟩ := r3.split
        obtain ⟨v2, ev, _⟩ := r4.one_inv
        subst ev
        obtain ⟨p2, _⟩ := r4.split
        obtain ⟨k, a, us, ea, hq, hr⟩ := seq_fz (frz_le w1.left) p1 ey
        obtain ⟨k2, b, us2, eb, hq2, hr2⟩ := seq_fz (frz_le w1.left) p2 ez
        subst ea eb
        exact ⟨k, k2, a, b, us, us2, rfl, SqK.up (frz_le w1.left) hq, SqK.up (frz_le w1.left) hq2, hR _ _ _ O1 (x1.trans x3) w2 s2 (izp_ok hq hr hq2 hr2)⟩
    · cases e
  · cases e
end Dm

namespace Dm
open PySem PySem.Spec L2
open PyProof.Rows hiding St
/-! ### walking an owned list that stands in a slot (it is not frozen) -/
def lkP (lk : Lks) (i : Nat) : Lks := fun j => lk j || j == i
theorem lkP_self (lk : Lks) (i : Nat) : lkP lk i i = true := by simp [lkP]
theorem Lk.ofP {lk : Lks} {i : Nat} {σ σ' : L2.St} (h : Lk (lkP lk i) σ σ') : Lk lk σ σ' := ⟨h.len, fun j hj => h.eq j (by simp [lkP, hj])⟩
def forQ (i : Nat) (g : D → Ev → Option Ev) (body : Ev → Option Out) : Nat → Nat → Ev → Option Out
  | 0, _, _ => none
  | n + 1, k, E => match E[i]? with
    | some (some (.lst _ xs)) => (match xs[k]? with
      | none => some (.nx E)
      | some x => if isFz x = true then (match g x E with
        | some E1 => (match body E1 with
          | some (.nx E2) => forQ i g body n (k + 1) E2
          | some (.ct E2) => forQ i g body n (k + 1) E2
          | some (.bk E2) => some (.nx E2)
          | some (.ret d E2) => some (.ret d E2)
          | none => none)
        | none => none) else none)
    | _ => none
def sForQ (lk : Lks) (i : Nat) (ts : List Nat) (g : D → Ev → Option Ev) (body : Lks → Ev → Option Out) : Ev → Option Out := fun E => if ts.all (fun j => !(lkP lk i) j) = true then (match E[i]? with
  | some (some (.lst true xs)) => if isFzL xs = true then forQ i g (body (lkP lk i)) whileFuel 0 E else (match iSeq (eVar i) E with | some (xs, E1) => forL g (body (lkP lk i)) xs E1 | none => none)
  | _ => (match iSeq (eVar i) E with | some (xs, E1) => forL g (body (lkP lk i)) xs E1 | none => none)) else none
section
variable {K : PySem.W.Frag} {mg : Md} {F H F' H' : Hp} {O O' A B C : List Addr} {σ : L2.St} {E : Ev} {v : V} {d : D} {vs : List V} {ds xs : List D} {a : Addr} {i k : Nat} {b : Bool} {x : D}
theorem slot_lst (w : Own F H O) (s : RpS K mg F H σ E O) (e : E[i]? = some (some (.lst b xs))) : ∃ a vs B, σ[i]? = some (some (.ref a)) ∧ H a = some (.lst vs) ∧ RpL K mg F H vs xs B := by
  obtain ⟨v0, A0, es0, r0⟩ := s.get w e
  obtain ⟨a0, us0, As0, ev0, h0, _, r1, _⟩ := r0.lst_inv w.le
  subst ev0
  exact ⟨a0, us0, As0, es0, h0, r1⟩
theorem slot_go (w : Own F H O) (s : RpS K mg F H σ E O) (es : σ[i]? = some (some (.ref a))) (e : E[i]? = some (some (.lst b xs))) (ek : xs[k]? = some x) (hz : isFz x = true) : (Itl K a).go k H ∧ ∀ v H', (Itl K a).yld k H v H' → H' = H ∧ Rp K mg F H v x [] := by
  obtain ⟨a', us, B, es', h0, rl⟩ := slot_lst w s e
  rw [es] at es'
  cases es'
  obtain ⟨u, B', hu, ru, _⟩ := rl.get ek
  have zB := ru.fz hz
  subst zB
  refine ⟨⟨us, u, SqL.of h0, hu⟩, fun v H' y => ?_⟩
  obtain ⟨y1, y2⟩ := y
  have := (y2 us (SqL.of h0)).symm.trans hu
  cases this
  exact ⟨y1, ru⟩
theorem slot_stop (w : Own F H O) (s : RpS K mg F H σ E O) (es : σ[i]? = some (some (.ref a))) (e : E[i]? = some (some (.lst b xs))) (ek : xs[k]? = none) : (Itl K a).stop k H := by
  obtain ⟨a', us, B, es', h0, rl⟩ := slot_lst w s e
  rw [es] at es'
  cases es'
  exact ⟨us, SqL.of h0, by rw [rl.length]; exact List.getElem?_eq_none_iff.mp ek⟩
end
section
variable {Y : Fm} {lk : Lks} {pos : Pos}
theorem forL_turns {K : PySem.W.Frag} {mg : Md} {tg : TG} {tb : TS} {ts : List Nat} {g gb} {J : It} {F1 H1 : Hp} {O1 : List Addr} {σ : L2.St} {E1 : Ev} {o : Out} {N : Ends} {xs : List D} (qg : Dg K mg tg ts g) (qb : Ds K mg tb lk gb) (hl : ts.all (fun i => !lk i) = true) (ok : ItOk K mg J F1 xs) (w1 : Own F1 H1 O1) (s1 : RpS K mg F1 H1 σ E1 O1) (e : forL g gb xs E1 = some o) (h : EndP K mg F1 H1 O1 σ lk o N) :
    ∃ W : Nat → Nat → L2.St → Hp → Prop, (∃ m, W 0 m σ H1) ∧ ∀ i m σ H, W i m σ H →
      (J.stop i H ∧ N.nx σ H) ∨ (J.go i H ∧ ∃ Nv : L2.St → Hp → Prop, (∀ σ' H', Nv σ' H' → ∃ m', m' < m ∧ W (i + 1) m' σ' H') ∧ ∀ x H', J.yld i H x H' → tg x σ H' fun σ2 H2 => tb { N with nx := Nv, ct := Nv, bk := N.nx } σ2 H2) := by
      refine ⟨fun i m σ2 H2 => m = xs.length - i ∧ i ≤ xs.length ∧ ∃ F2 O2 E2, (∀ a u, F1 a = some u → F2 a = some u) ∧ Own F2 H2 O2 ∧ RpS K mg F2 H2 σ2 E2 O2 ∧ forL g gb (xs.drop i) E2 = some o ∧ EndP K mg F2 H2 O2 σ2 lk o N,
        ⟨xs.length, rfl, Nat.zero_le _, F1, O1, E1, fun _ _ e => e, w1, s1, e, h⟩, ?_⟩
      rintro i m σ2 H2 ⟨rfl, hi, F2, O2, E2, f2, w2, s2, e2, h2⟩
      by_cases hlt : i < xs.length
      · have hx : xs[i]? = some xs[i] := List.getElem?_eq_getElem hlt
        obtain ⟨go, yl⟩ := ok.go F2 H2 i _ f2 w2.le hx
        rw [List.drop_eq_getElem_cons hlt] at e2
        refine .inr ⟨go, fun σ3 H3 => xs.length - (i + 1) < xs.length - i ∧ i + 1 ≤ xs.length ∧ ∃ F3 O3 E3, (∀ a u, F1 a = some u → F3 a = some u) ∧ Own F3 H3 O3 ∧ RpS K mg F3 H3 σ3 E3 O3 ∧ forL g gb (xs.drop (i + 1)) E3 = some o ∧ EndP K mg F3 H3 O3 σ3 lk o N,
          fun σ3 H3 ⟨a1, a2, a3⟩ => ⟨_, a1, rfl, a2, a3⟩, fun v H3 y => ?_⟩
        obtain ⟨F3, q3, r3⟩ := yl v H3 y
        unfold forL at e2
        split at e2
        · rename_i E3 eg
          refine qg F3 H3 [] O2 σ2 E2 E3 v _ eg (q3.own w2) r3 (q3.rps s2) _ fun σ4 F4 H4 O4 c4 x4 w4 s4 => ?_
          have x24 : Ext F2 H2 O2 F4 H4 O4 := (q3.extO (O := O2)).trans x4
          have l24 : Lk lk σ2 σ4 := c4.lk (all_lk hl)
          have h4 := h2.from l24 x24
          have f4 : ∀ a u, F1 a = some u → F4 a = some u := fun a u z => x24.fle a u (f2 a u z)
          split at e2
          · rename_i E5 eb
            refine qb F4 H4 O4 σ4 E3 _ eb w4 s4 _ fun σ5 F5 H5 O5 l5 x5 w5 s5 => ?_
            exact ⟨by omega, hlt, F5, O5, E5, fun a u z => x5.fle a u (f4 a u z), w5, s5, e2, h4.from l5 x5⟩
          · rename_i E5 eb
            refine qb F4 H4 O4 σ4 E3 _ eb w4 s4 _ fun σ5 F5 H5 O5 l5 x5 w5 s5 => ?_
            exact ⟨by omega, hlt, F5, O5, E5, fun a u z => x5.fle a u (f4 a u z), w5, s5, e2, h4.from l5 x5⟩
          · rename_i E5 eb
            cases e2
            exact qb F4 H4 O4 σ4 E3 _ eb w4 s4 _ h4
          · rename_i d E5 eb
            cases e2
            exact qb F4 H4 O4 σ4 E3 _ eb w4 s4 _ h4
          · cases e2
        · cases e2
      · have e' : i = xs.length := by omega
        subst e'
        rw [List.drop_length] at e2
        cases e2
        exact .inl ⟨ok.stop F2 H2 _ f2 w2.le rfl, h2 σ2 F2 H2 O2 .refl Ext.refl w2 s2⟩
theorem forQ_turns {K : PySem.W.Frag} {mg : Md} {tg : TG} {tb : TS} {ts : List Nat} {g gb} {j : Nat} {a : Addr} {F1 H1 : Hp} {O1 : List Addr} {σ : L2.St} {E1 : Ev} {o : Out} {N : Ends} (hj : lk j = true) (qg : Dg K mg tg ts g) (qb : Ds K mg tb lk gb) (hl : ts.all (fun i => !lk i) = true) (w1 : Own F1 H1 O1) (s1 : RpS K mg F1 H1 σ E1 O1) (es : σ[j]? = some (some (.ref a))) {n : Nat} (e : forQ j g gb n 0 E1 = some o) (h : EndP K mg F1 H1 O1 σ lk o N) :
    ∃ W : Nat → Nat → L2.St → Hp → Prop, (∃ m, W 0 m σ H1) ∧ ∀ i m σ H, W i m σ H →
      ((Itl K a).stop i H ∧ N.nx σ H) ∨ ((Itl K a).go i H ∧ ∃ Nv : L2.St → Hp → Prop, (∀ σ' H', Nv σ' H' → ∃ m', m' < m ∧ W (i + 1) m' σ' H') ∧ ∀ x H', (Itl K a).yld i H x H' → tg x σ H' fun σ2 H2 => tb { N with nx := Nv, ct := Nv, bk := N.nx } σ2 H2) := by
      refine ⟨fun i m σ2 H2 => ∃ F2 O2 E2, Own F2 H2 O2 ∧ RpS K mg F2 H2 σ2 E2 O2 ∧ σ2[j]? = some (some (.ref a)) ∧ forQ j g gb m i E2 = some o ∧ EndP K mg F2 H2 O2 σ2 lk o N,
        ⟨n, F1, O1, E1, w1, s1, es, e, h⟩, ?_⟩
      rintro i m σ2 H2 ⟨F2, O2, E2, w2, s2, es2, e2, h2⟩
      cases m with
      | zero => cases e2
      | succ m =>
        unfold forQ at e2
        split at e2
        · rename_i b xs ex
          split at e2
          · rename_i ek
            cases e2
            exact .inl ⟨slot_stop w2 s2 es2 ex ek, h2 σ2 F2 H2 O2 .refl Ext.refl w2 s2⟩
          · rename_i x ek
            split at e2
            · rename_i hz
              obtain ⟨go, yl⟩ := slot_go w2 s2 es2 ex ek hz
              refine .inr ⟨go, fun σ3 H3 => ∃ F3 O3 E3, Own F3 H3 O3 ∧ RpS K mg F3 H3 σ3 E3 O3 ∧ σ3[j]? = some (some (.ref a)) ∧ forQ j g gb m (i + 1) E3 = some o ∧ EndP K mg F3 H3 O3 σ3 lk o N,
                fun σ3 H3 z => ⟨m, Nat.lt_succ_self m, z⟩, fun v H3 y => ?_⟩
              obtain ⟨y1, r3⟩ := yl v H3 y
              subst y1
              split at e2
              · rename_i E3 eg
                refine qg F2 _ [] O2 σ2 E2 E3 v _ eg w2 r3 s2 _ fun σ4 F4 H4 O4 c4 x4 w4 s4 => ?_
                have l24 : Lk lk σ2 σ4 := c4.lk (all_lk hl)
                have h4 := h2.from l24 x4
                have es4 : σ4[j]? = some (some (.ref a)) := (l24.eq j hj).trans es2
                split at e2
                · rename_i E5 eb
                  refine qb F4 H4 O4 σ4 E3 _ eb w4 s4 _ fun σ5 F5 H5 O5 l5 x5 w5 s5 => ?_
                  exact ⟨F5, O5, E5, w5, s5, (l5.eq j hj).trans es4, e2, h4.from l5 x5⟩
                · rename_i E5 eb
                  refine qb F4 H4 O4 σ4 E3 _ eb w4 s4 _ fun σ5 F5 H5 O5 l5 x5 w5 s5 => ?_
                  exact ⟨F5, O5, E5, w5, s5, (l5.eq j hj).trans es4, e2, h4.from l5 x5⟩
                · rename_i E5 eb
                  cases e2
                  exact qb F4 H4 O4 σ4 E3 _ eb w4 s4 _ h4
                · rename_i d E5 eb
                  cases e2
                  exact qb F4 H4 O4 σ4 E3 _ eb w4 s4 _ h4
                · cases e2
              · cases e2
            · cases e2
        · cases e2
theorem EndP.toP {K : PySem.W.Frag} {mg : Md} {F H : Hp} {O : List Addr} {σ : L2.St} {i : Nat} {o : Out} {N : Ends} (h : EndP K mg F H O σ lk o N) : EndP K mg F H O σ (lkP lk i) o N := by
  cases o with
  | nx E' => exact fun σ' F' H' O' l => h σ' F' H' O' l.ofP
  | bk E' => exact fun σ' F' H' O' l => h σ' F' H' O' l.ofP
  | ct E' => exact fun σ' F' H' O' l => h σ' F' H' O' l.ofP
  | ret d E' => exact fun v σ' F' H' A O' l => h v σ' F' H' A O' l.ofP
theorem sd_forQ {i : Nat} {x : Str} {px : Pos} {tg : Expr} {body : List Stmt} {ts : List Nat} {g} {gb : Lks → Ev → Option Out} (hN : Y.N[i]? = some x) (hv : Vis Y.sc x) (hg : GD Y tg ts g) (hb : ∀ lk, SDs Y body lk (gb lk))
    (hs : ∀ X : Cx, ∀ y, foldedSetIterable (.Name x px) X.env y = pure y := by intro _ _; rfl) (hd : (x == ("__debug__" : Str)) = false := by decide) (hcd : (x == ("__classdict__" : Str)) = false := by decide) : SD Y (.For tg (.Name x px) body [] pos) lk (sForQ lk i ts g gb) := by
  obtain ⟨wi, pi, qi⟩ := id_seq (tg := tg) (pd_var (Y := Y) (pos := px) hN hv hd hcd)
  obtain ⟨_, pg, qg⟩ := hg
  obtain ⟨_, pb, qb⟩ := hb (lkP lk i)
  refine ⟨_, fun X h => ps_for h.own h.calm (pi_or (h.K ▸ pi_list (pe_var (h.nm hN) (h.vis hv) hd hcd)) (pi X h)) (pg X h) (pb X h) (hs X), fun F H O σ E o e w s N h => ?_⟩
  unfold sForQ at e
  split at e
  · rename_i hl
    split at e
    · rename_i xs ex
      split at e
      · refine .inl ?_
        obtain ⟨a, vs, B, es, h0, rl⟩ := slot_lst w s ex
        exact ⟨_, es, a, rfl, ⟨vs, SqL.of h0⟩, forQ_turns (lkP_self lk i) qg qb hl w s es e h.toP⟩
      · split at e
        · rename_i xs E1 ei
          refine .inr (qi F H O σ E xs E1 ei w s _ fun J F1 H1 O1 x1 w1 s1 ok => ?_)
          exact forL_turns qg qb hl ok w1 s1 e (h.from .refl x1).toP
        · cases e
    · split at e
      · rename_i xs E1 ei
        refine .inr (qi F H O σ E xs E1 ei w s _ fun J F1 H1 O1 x1 w1 s1 ok => ?_)
        exact forL_turns qg qb hl ok w1 s1 e (h.from .refl x1).toP
      · cases e
  · cases e
end
end Dm

namespace Dm
open PySem PySem.Spec L2
open PyProof.Rows hiding St
/-! ### comprehensions over an owned list that stands in a slot -/
def compQ (i : Nat) (own : List Nat) (g : D → Ev → Option Ev) (tt : Ev → Option (Bool × Ev)) (el : Ev → Option (D × Ev)) : Nat → Nat → Ev → Option (List D × Ev)
  | 0, _, _ => none
  | n + 1, k, E => match E[i]? with
    | some (some (.lst _ xs)) => (match xs[k]? with
      | none => some ([], E)
      | some x => if isFz x = true then (match g x E with
        | some E1 => (match tt E1 with
          | some (false, E2) => compQ i own g tt el n (k + 1) (wipeE E2 own)
          | some (true, E2) => (match el E2 with
            | some (d, E3) => (match compQ i own g tt el n (k + 1) (wipeE E3 own) with
              | some (ds, E4) => some (d :: ds, E4)
              | none => none)
            | none => none)
          | none => none)
        | none => none) else none)
    | _ => none
def eCompQ (own : List Nat) (i : Nat) (g : D → Ev → Option Ev) (tt : Ev → Option (Bool × Ev)) (el : Ev → Option (D × Ev)) : Ev → Option (D × Ev) := fun E => match E[i]? with
  | some (some (.lst true xs)) => if isFzL xs = true then (if ownFz E own = true then (match compQ i own g tt el whileFuel 0 (wipeE E own) with
    | some (ds, E2) => (if ds.length ≤ sizeLine then some (.lst true ds, backE E E2 own) else none)
    | none => none) else none) else eComp own (iSeq (eVar i)) g tt el E
  | _ => eComp own (iSeq (eVar i)) g tt el E
theorem comp_coreQ {K : PySem.W.Frag} {mg : Md} {ws : TI} {tg : TG} {tt : TT} {te : TE} {own ts : List Nat} {j : Nat} {g ft fe} (qs : Di K mg ws (iSeq (eVar j))) (qg : Dg K mg tg ts g) (qt : Td K mg tt ft) (qe : De K mg te fe) (hts : ∀ i ∈ ts, i ∈ own) (hnd : own.Nodup) (hj : j ∉ own) :
    De K mg (tLc (fun σ H R => (tVar j σ H fun x H1 => ∃ a, x = .ref a ∧ (∃ xs, SqL K H1 a xs) ∧ R (Itl K a) H1) ∨ ws σ H R) tg tt te own) (eCompQ own j g ft fe) := by
  intro F H O σ E d E' e w s Q hQ
  unfold eCompQ at e
  split at e
  · rename_i xs0 ex0
    split at e
    · obtain ⟨a, vs0, B0, es0, h0, _⟩ := slot_lst w s ex0
      refine .inl ⟨_, es0, a, rfl, ⟨vs0, SqL.of h0⟩, ?_⟩
      split at e
      · rename_i hz
        split at e
        · rename_i ds E2 ec
          split at e
          · rename_i hlen
            cases e
            intro Dn hD
            obtain ⟨Ow, sw, ww, mw⟩ := s.wipe w own
            have hF : F Dn = none := none_of_le w.le hD
            have y1 : Qx F H F (upd H Dn (.lst [])) := Qx.new w.le hD
            have ww0 : Own F (upd H Dn (.lst [])) ((Dn :: []) ++ Ow) := own_new (A := []) ww hD
            refine ⟨fun i m H2 => ∃ F2 O2 Ec vs dsf A rest, (∀ a u, F a = some u → F2 a = some u) ∧ Own F2 H2 ((Dn :: A) ++ O2) ∧ RpS K mg F2 H2 (L2.wipe σ own) Ec O2 ∧ H2 Dn = some (.lst vs) ∧ RpL K mg F2 H2 vs dsf A ∧
                compQ j own g ft fe m i Ec = some (rest, E2) ∧ dsf ++ rest = ds ∧ Ext F H Ow F2 H2 ((Dn :: A) ++ O2),
              ⟨whileFuel, F, Ow, wipeE E own, [], [], [], ds, fun _ _ e => e, ww0, y1.rps sw, upd_same, .nil, ec, rfl, Ext.fresh (C := [Dn]) y1 fun c m => by simp at m; subst m; exact hD⟩, ?_⟩
            rintro i m H2 ⟨F2, O2, Ec, vs, dsf, A, rest, f2, w2, s2, h2, rl, e2, eds, x2⟩
            have hlv := rl.length
            have wO2 := w2.right
            have esj : (L2.wipe σ own)[j]? = some (some (.ref a)) := (wipe_get hj).trans es0
            cases m with
            | zero => cases e2
            | succ m =>
            unfold compQ at e2
            split at e2
            · rename_i b xs ex
              split at e2
              · rename_i ek
                cases e2
                rw [List.append_nil] at eds
                subst eds
                refine .inl ⟨slot_stop wO2 s2 esj ex ek, ?_⟩
                have hF2 : F2 Dn = none := w2.out Dn (List.mem_append_left _ List.mem_cons_self)
                obtain ⟨O3, s3, w3, m3⟩ := RpS.back (E1 := E) hnd wO2 s2 fun j hj => by
                  obtain ⟨B, ro⟩ := s.getO j
                  cases q : E[j]? with
                  | none => exact .none
                  | some y =>
                    cases y with
                    | none => exact .none
                    | some dj =>
                      rw [q] at ro
                      have hzj := List.all_eq_true.mp hz j hj
                      rw [q] at hzj
                      generalize hv : σ[j]?.join = xv at ro
                      have ro' : RpO K mg F H xv (some dj) B := ro
                      cases ro' with
                      | some rj =>
                        have zB := rj.fz hzj
                        subst zB
                        exact .some (rj.up f2)
                have nd2 := List.nodup_append.mp w2.nd
                have w4 : Own F2 H2 ((Dn :: A) ++ O3) := w2.sub (List.nodup_append.mpr ⟨nd2.1, w3.nd, fun a x b y e => nd2.2.2 a x b (m3 b y) e⟩) fun b m => by
                  rcases List.mem_append.mp m with m | m
                  · exact List.mem_append_left _ m
                  · exact List.mem_append_right _ (m3 b m)
                refine hQ (.ref Dn) F2 H2 (Dn :: A) O3 ?_ w4 (.lstO h2 hF2 (by rw [hlv]; exact hlen) rl) s3
                refine (x2.sub mw fun b m => .inl ?_)
                rcases List.mem_append.mp m with m | m
                · exact List.mem_append_left _ m
                · exact List.mem_append_right _ (m3 b m)
              · rename_i x ek
                split at e2
                · rename_i hzx
                  obtain ⟨go, yl⟩ := slot_go wO2 s2 esj ex ek hzx
                  refine .inr ⟨go, fun H3 => ∃ F3 O3 Ec vs dsf A rest, (∀ a u, F a = some u → F3 a = some u) ∧ Own F3 H3 ((Dn :: A) ++ O3) ∧ RpS K mg F3 H3 (L2.wipe σ own) Ec O3 ∧ H3 Dn = some (.lst vs) ∧ RpL K mg F3 H3 vs dsf A ∧
                      compQ j own g ft fe m (i + 1) Ec = some (rest, E2) ∧ dsf ++ rest = ds ∧ Ext F H Ow F3 H3 ((Dn :: A) ++ O3),
                    fun H3 z => ⟨m, Nat.lt_succ_self m, z⟩, fun v H3 y => ?_⟩
                  obtain ⟨y1', r3⟩ := yl v H3 y
                  subst y1'
                  split at e2
                  · rename_i E4 eg
                    refine qg F2 _ [] O2 (L2.wipe σ own) Ec E4 v _ eg wO2 r3 s2 _ fun σ4 F4 H4 O4 c4 x24 w4 s4 => ?_
                    have wt : L2.wipe σ4 own = L2.wipe σ own := (wipe_tch c4 hts).trans (by
                      have : ∀ (τ : L2.St) (vs : List Nat), L2.wipe (L2.wipe τ vs) vs = L2.wipe τ vs := fun τ vs => by
                        have c : Tch vs τ (L2.wipe τ vs) := ⟨wipe_length τ vs, fun i h => wipe_get h⟩
                        exact wipe_tch c fun _ m => m
                      exact this σ own)
                    refine ⟨wt, ?_⟩
                    have w24 : Own F4 H4 ((Dn :: A) ++ O4) := w2.frame x24 w4
                    have h4 : H4 Dn = some (.lst vs) := x24.hle _ _ h2 (w2.apart Dn List.mem_cons_self)
                    have rl4 := rl.ext x24 fun b m => w2.apart b (List.mem_cons_of_mem _ m)
                    have xx4 : Ext F H Ow F4 H4 ((Dn :: A) ++ O4) := x2.trans (x24.frame w2)
                    have f4 : ∀ a u, F a = some u → F4 a = some u := fun a u z => x24.fle a u (f2 a u z)
                    split at e2
                    · rename_i E5 et
                      refine qt F4 H4 O4 σ4 E4 false E5 et w4 s4 _ fun F5 H5 O5 x5 w5 s5 => ?_
                      rw [if_neg Bool.false_ne_true]
                      have w25 := w24.frame x5 w5
                      obtain ⟨O6, s6, w6, m6⟩ := s5.wipe w5 own
                      rw [wt] at s6
                      have x6 : Ext F4 H4 O4 F5 H5 O6 := x5.sub (fun _ m => m) fun b m => .inl (m6 b m)
                      refine ⟨F5, O6, wipeE E5 own, vs, dsf, A, rest, fun a u z => x5.fle a u (f4 a u z), w24.frame x6 w6, s6, x5.hle _ _ h4 (w24.apart Dn List.mem_cons_self), rl4.ext x5 fun b m => w24.apart b (List.mem_cons_of_mem _ m), e2, eds, xx4.trans (x6.frame w24)⟩
                    · rename_i E5 et
                      split at e2
                      · rename_i dy E6 ey
                        split at e2
                        · rename_i ds' E7 er
                          cases e2
                          refine qt F4 H4 O4 σ4 E4 true E5 et w4 s4 _ fun F5 H5 O5 x5 w5 s5 => ?_
                          rw [if_pos rfl]
                          have w25 := w24.frame x5 w5
                          have h5 : H5 Dn = some (.lst vs) := x5.hle _ _ h4 (w24.apart Dn List.mem_cons_self)
                          have rl5 := rl4.ext x5 fun b m => w24.apart b (List.mem_cons_of_mem _ m)
                          have xx5 := xx4.trans (x5.frame w24)
                          refine qe F5 H5 O5 σ4 E5 dy E6 ey w5 s5 _ fun y F6 H6 Ay O6 x6 w6 r6 s6 => ?_
                          have w26 := w25.frame x6 w6
                          have h6 : H6 Dn = some (.lst vs) := x6.hle _ _ h5 (w25.apart Dn List.mem_cons_self)
                          have rl6 := rl5.ext x6 fun b m => w25.apart b (List.mem_cons_of_mem _ m)
                          have xx6 := xx5.trans (x6.frame w25)
                          have hF6 : F6 Dn = none := w26.out Dn (List.mem_append_left _ List.mem_cons_self)
                          obtain ⟨O7, s7, w7, m7⟩ := s6.wipe w6.right own
                          rw [wt] at s7
                          have ldy : vs.length < sizeLine := by
                            rw [hlv]
                            have := congrArg List.length eds
                            rw [List.length_append, List.length_cons] at this
                            omega
                          have pm : ((Dn :: A) ++ (Ay ++ O6)).Perm ((Dn :: (A ++ Ay)) ++ O6) := by
                            rw [← List.append_assoc]
                            exact List.Perm.refl _
                          have w27 := w26.perm pm
                          have sub7 : ∀ b ∈ (Dn :: (A ++ Ay)) ++ O7, b ∈ (Dn :: (A ++ Ay)) ++ O6 := fun b m => by
                            rcases List.mem_append.mp m with m | m
                            · exact List.mem_append_left _ m
                            · exact List.mem_append_right _ (m7 b m)
                          have nd27 := List.nodup_append.mp w27.nd
                          have w28 : Own F6 H6 ((Dn :: (A ++ Ay)) ++ O7) := w27.sub (List.nodup_append.mpr ⟨nd27.1, w7.nd, fun a x b y e => nd27.2.2 a x b (m7 b y) e⟩) sub7
                          have nDn := (List.nodup_cons.mp (List.nodup_append.mp w28.nd).1).1
                          have wx := wr1_ext (us := vs ++ [y]) hF6 h6
                          refine ⟨vs, h6, ldy, F6, O7, wipeE E6 own, vs ++ [y], dsf ++ [dy], A ++ Ay, ds', fun a u z => x6.fle a u (x5.fle a u (f4 a u z)), wr1_own w28 hF6, s7.ext wx fun b m q => ?_, upd_same, ?_, er, ?_, ?_⟩
                          · simp at q
                            subst q
                            exact w28.apart b List.mem_cons_self m
                          · have ry : RpL K mg F6 H6 [y] [dy] (Ay ++ []) := .cons r6 .nil
                            rw [List.append_nil] at ry
                            exact (rl6.append ry).ext wx fun b m q => by
                              simp at q
                              subst q
                              exact nDn m
                          · rw [List.append_assoc]; exact eds
                          · refine (xx6.perm (List.Perm.refl _) pm).trans ?_
                            exact wx.sub (fun b m => by simp at m; subst m; exact List.mem_append_left _ List.mem_cons_self) fun b m => .inr (sub7 b m)
                        · cases e2
                      · cases e2
                    · cases e2
                  · cases e2
                · cases e2
            · cases e2
          · cases e
        · cases e
      · cases e
    · exact .inr (comp_core qs qg qt qe hts hnd F H O σ E d E' e w s Q hQ)
  · rcases comp_core qs qg qt qe hts hnd F H O σ E d E' e w s Q hQ with q
    exact .inr q
theorem pd_compQ {Y : Fm} {elt tg : Expr} {j : Nat} {x : Str} {px : Pos} {ifs : List Expr} {scope : Scope} {own : List (Str × Nat)} {ts : List Nat} {pos : Pos} {g ft fe} (hN : Y.N.Nodup) (hj : Y.N[j]? = some x) (hv : Vis Y.sc x) (ok : BlkOk Y.N Y.sc scope own)
    (hg : GD (Y.blk scope) tg ts g) (ht : TsD (Y.blk scope) ifs ft) (he : PD (Y.blk scope) elt fe)
    (hts : ∀ i ∈ ts, i ∈ own.map (·.2)) (hnd : (own.map (·.2)).Nodup) (hjo : j ∉ own.map (·.2)) (hs : ∀ X : Cx, ∀ y, foldedSetIterable (.Name x px) X.env y = pure y := by intro _ _; rfl)
    (hd : (x == ("__debug__" : Str)) = false := by decide) (hcd : (x == ("__classdict__" : Str)) = false := by decide) :
    PD Y (.ListComp elt [⟨tg, .Name x px, ifs, 0⟩] scope pos) (eCompQ (own.map (·.2)) j g ft fe) := by
  obtain ⟨_, pi, qi⟩ := id_seq (tg := tg) (pd_var (Y := Y) (pos := px) hj hv hd hcd)
  obtain ⟨_, pg, qg⟩ := hg
  obtain ⟨_, pt, qt⟩ := ht
  obtain ⟨_, pe, qe⟩ := he
  refine ⟨_, fun X h => pe_lc h.calm (h.nd hN) (pi_or (h.K ▸ pi_list (pe_var (h.nm hj) (h.vis hv) hd hcd)) (pi X h)) (by rw [h.N, h.sc]; exact ok) (fun s H C cl fp => pg _ (h.blk s H C cl fp)) (fun s H C cl fp => pt _ (h.blk s H C cl fp)) (fun s H C cl fp => pe _ (h.blk s H C cl fp)) (hs X), comp_coreQ qi qg qt qe hts hnd hjo⟩
theorem sd_setCompQ {Y : Fm} {lk : Lks} {i j : Nat} {y x : Str} {py px : Pos} {elt tg : Expr} {ifs : List Expr} {scope : Scope} {own : List (Str × Nat)} {ts : List Nat} {pos spos : Pos} {g ft fe} (hN : Y.N.Nodup) (hy : Y.N[i]? = some y) (hyl : Y.sc.names.lookup y = some .local)
    (hk : Y.sc.kind = .function) (hl : (py.line == pos.line) = true) (ha : (scope.names.any fun (n, k) => n == y && (k == .local || k == .cell)) = false) (hj : Y.N[j]? = some x) (hv : Vis Y.sc x) (ok : BlkOk Y.N Y.sc scope own)
    (hg : GD (Y.blk scope) tg ts g) (ht : TsD (Y.blk scope) ifs ft) (he : PD (Y.blk scope) elt fe)
    (hts : ∀ i ∈ ts, i ∈ own.map (·.2)) (hnd : (own.map (·.2)).Nodup) (hjo : j ∉ own.map (·.2)) (hs : ∀ X : Cx, ∀ y, foldedSetIterable (.Name x px) X.env y = pure y := by intro _ _; rfl)
    (hd : (x == ("__debug__" : Str)) = false := by decide) (hcd : (x == ("__classdict__" : Str)) = false := by decide) :
    SD Y (.Assign [.Name y py] (.ListComp elt [⟨tg, .Name x px, ifs, 0⟩] scope pos) spos) lk (sAsg lk [i] (eCompQ (own.map (·.2)) j g ft fe) (gdName i)) := by
  obtain ⟨_, pi, qi⟩ := id_seq (tg := tg) (pd_var (Y := Y) (pos := px) hj hv hd hcd)
  obtain ⟨_, pg, qg⟩ := hg
  obtain ⟨_, pt, qt⟩ := ht
  obtain ⟨_, pe, qe⟩ := he
  refine ⟨_, fun X h => ps_setLc h.calm (h.nd hN) (h.nm hy) (by rw [h.sc]; exact hyl) (sw_true (by rw [h.sc]; exact hk) (by rw [h.sc]; exact hyl) hl ha) (pi_or (h.K ▸ pi_list (pe_var (h.nm hj) (h.vis hv) hd hcd)) (pi X h)) (by rw [h.N, h.sc]; exact ok) (fun s H C cl fp => pg _ (h.blk s H C cl fp)) (fun s H C cl fp => pt _ (h.blk s H C cl fp)) (fun s H C cl fp => pe _ (h.blk s H C cl fp)) (hs X), ds_asg (comp_coreQ qi qg qt qe hts hnd hjo) ?_⟩
  intro F H A O σ E E' v d e w r s Q h
  cases e
  obtain ⟨O', s', w', m⟩ := s.assign (i := i) w r
  exact h _ F H O' Tch.set (Ext.refl.sub (fun b h => h) fun b h => .inr (m b h)) w' s'
end Dm

namespace Dm
open PySem PySem.Spec L2
open PyProof.Rows hiding St
/-! ### operators and built-ins for a family -/
section
variable {Y : Fm}
theorem oy_add : OpY Y (binaryOp .Add) (rAddX Y.K) := by intro X h; rw [← h.K]; exact op_addX
theorem oy_sub : OpY Y (binaryOp .Sub) (rI0 fun i j => V.int (i - j)) := fun _ _ => op_sub
theorem oy_mul : OpY Y (binaryOp .Mult) rMulX := fun _ _ => op_mulX
theorem oy_fdiv : OpY Y (binaryOp .FloorDiv) (rI CDivN fun i j => V.int (i.fdiv j)) := fun _ _ => op_fdivN
theorem oy_mod : OpY Y (binaryOp .Mod) (rI (fun _ j => j ≠ 0) fun i j => V.int (i.fmod j)) := fun _ _ => op_modN
theorem oy_pow : OpY Y (binaryOp .Pow) (rI CPow fun i j => V.int (i ^ j.toNat)) := fun _ _ => op_pow
theorem oy_lt : OpY Y (compareOp .Lt) rLtX := fun _ _ => op_ltX
theorem oy_le : OpY Y (compareOp .LtE) (rI0 fun i j => V.bl (decide (i ≤ j))) := fun _ _ => op_le
theorem oy_gt : OpY Y (compareOp .Gt) (rI0 fun i j => V.bl (decide (j < i))) := fun _ _ => op_gt
theorem oy_ge : OpY Y (compareOp .GtE) (rI0 fun i j => V.bl (decide (j ≤ i))) := fun _ _ => op_ge
theorem oy_eq : OpY Y (compareOp .Eq) (rEqX Y.K) := by intro X h; rw [← h.K]; exact op_eq.or (op_eqD (by have := h.room.un; omega))
theorem oy_ne : OpY Y (compareOp .NotEq) (rNeX Y.K) := by intro X h; rw [← h.K]; exact op_ne.or (op_neD (by have := h.room.un; omega))
theorem oy_is : OpY Y (compareOp .Is) (fun x y H Q => y = .non ∧ Q (.bl (decide (x = .non))) H) := fun _ _ => op_isN
theorem oy_isnot : OpY Y (compareOp .IsNot) (fun x y H Q => y = .non ∧ Q (.bl (!decide (x = .non))) H) := fun _ _ => op_notN
theorem oy_in : OpY Y (compareOp .In) (rInX Y.K Y.mg) := by intro X h; rw [← h.K]; exact op_inX h.room h.prog.symm h.w.symm
theorem oy_notIn : OpY Y (compareOp .NotIn) (rNotInX Y.K Y.mg) := by intro X h; rw [← h.K]; exact op_notInX h.room h.prog.symm h.w.symm
theorem oy_iadd : OpY Y (inplaceOp .Add) rIAddX := fun _ _ => op_iaddX
theorem oy_isub : OpY Y (inplaceOp .Sub) (rI0 fun i j => V.int (i - j)) := fun _ _ => iop_sub
theorem uy_neg : UnY Y (unaryOp .USub) (rU fun i => V.int (-i)) := fun _ _ => un_neg
theorem cy_len : CallY Y (.builtin "len") (rLenX Y.K) := by intro X h; rw [← h.K]; exact call_lenX
theorem cy_isi : CallY Y (.builtin "isinstance") (rIsi Y.K) := by intro X h; rw [← h.K]; exact call_isi
theorem cy_abs : CallY Y (.builtin "abs") (fun xs H Q => ∃ i : Int, xs = [.int i] ∧ Q (.int (if i < 0 then -i else i)) H) := fun _ _ => call_abs
theorem cy_int : CallY Y (.type "int") (fun xs H Q => (∃ i : Int, xs = [.int i] ∧ Q (.int i) H) ∨ ∃ k : Bool, xs = [.bl k] ∧ Q (.int (if k then 1 else 0)) H) := fun _ _ => call_int1
theorem cy_all : CallY Y (.builtin "all") (rAll Y.K) := by intro X h; rw [← h.K]; exact cr_all h.calm
theorem cy_any : CallY Y (.builtin "any") (rAny Y.K) := by intro X h; rw [← h.K]; exact cr_any h.calm
theorem cy_sum : CallY Y (.builtin "sum") (rSum Y.K) := by intro X h; rw [← h.K]; exact cr_sum h.calm
theorem cy_min : CallY Y (.builtin "min") (rMinX Y.K) := by intro X h; rw [← h.K]; exact call_minX h.calm
theorem cy_max : CallY Y (.builtin "max") (rMaxX Y.K) := by intro X h; rw [← h.K]; exact call_maxX h.calm
theorem cy_list : CallY Y (.type "list") (fun xs H Q => ∃ p ys, xs = [V.ref p] ∧ (SqL Y.K H p ys ∨ SqT Y.K H p ys) ∧ ∀ l, H l = none → Q (.ref l) (upd H l (.lst ys))) := by intro X h; rw [← h.K]; exact call_list_of
theorem cy_tuple : CallY Y (.type "tuple") (fun xs H Q => ∃ p ys, xs = [V.ref p] ∧ ((SqL Y.K H p ys ∧ ∀ l, H l = none → Q (.ref l) (upd H l (.tup ys))) ∨ (SqT Y.K H p ys ∧ Q (.ref p) H))) := by intro X h; rw [← h.K]; exact call_tuple_of
theorem cy_repr : CallY Y (.builtin "repr") (rRepr Y.K) := by intro X h; rw [← h.K]; exact call_reprD h.guards (by have := h.room.un; omega)
end
/-! ### truths as values, choices, chains, signs -/
def qvAnd (f g : Ev → Option D) : Ev → Option D := fun E => match f E with | some (.bl true) => g E | some (.bl false) => some (.bl false) | _ => none
def qvOr (f g : Ev → Option D) : Ev → Option D := fun E => match f E with | some (.bl true) => some (.bl true) | some (.bl false) => g E | _ => none
def qvNot (f : Ev → Option D) : Ev → Option D := fun E => match f E with | some (.bl b) => some (.bl (!b)) | _ => none
def evAnd (f g : Ev → Option (D × Ev)) : Ev → Option (D × Ev) := fun E => match f E with | some (.bl true, E1) => g E1 | some (.bl false, E1) => some (.bl false, E1) | _ => none
def evOr (f g : Ev → Option (D × Ev)) : Ev → Option (D × Ev) := fun E => match f E with | some (.bl true, E1) => some (.bl true, E1) | some (.bl false, E1) => g E1 | _ => none
def evNot (f : Ev → Option (D × Ev)) : Ev → Option (D × Ev) := fun E => match f E with | some (.bl b, E1) => some (.bl (!b), E1) | _ => none
def qIf (c : Ev → Option Bool) (f g : Ev → Option D) : Ev → Option D := fun E => match c E with | some true => f E | some false => g E | none => none
def eIf (c : Ev → Option (Bool × Ev)) (f g : Ev → Option (D × Ev)) : Ev → Option (D × Ev) := fun E => match c E with | some (true, E1) => f E1 | some (false, E1) => g E1 | none => none
def qCh (op op' : D → D → Option D) (fa fb fc : Ev → Option D) : Ev → Option D := fun E => match fa E with
  | some x => (match fb E with
    | some y => (match op x y with
      | some (.bl true) => (match fc E with | some z => op' y z | none => none)
      | some (.bl false) => some (.bl false)
      | _ => none)
    | none => none)
  | none => none
def q1f (op : D → Option D) (f : Ev → Option D) : Ev → Option D := fun E => match f E with | some x => op x | none => none
def e1f (op : D → Option D) (f : Ev → Option (D × Ev)) : Ev → Option (D × Ev) := fun E => match f E with | some (x, E1) => (match op x with | some d => some (d, E1) | none => none) | none => none
section
variable {Y : Fm} {a b c : Expr} {rest : List Expr} {pos : Pos} {K : PySem.W.Frag} {mg : Md}
theorem pq_one {op : BoolOp} {f} (h : PQ Y a f) : PQ Y (.BoolOp op [a] pos) f := let ⟨_, p, q⟩ := h; ⟨_, fun X h => pe_one (p X h), q⟩
theorem pd_one {op : BoolOp} {f} (h : PD Y a f) : PD Y (.BoolOp op [a] pos) f := let ⟨_, p, q⟩ := h; ⟨_, fun X h => pe_one (p X h), q⟩
theorem qt_and {t u : TE} {f g} (h : Qt K mg t f) (h' : Qt K mg u g) : Qt K mg (tAndV t u) (qvAnd f g) := by
  intro F H O σ E d e w s Q hQ
  unfold qvAnd at e
  split at e
  · rename_i ef
    refine h F H O σ E _ ef w s _ fun v F' H' A q r => ⟨true, r.bl_inv, ?_⟩
    rw [if_pos rfl]
    exact h' F' H' O σ E d e (q.own w) (q.rps s) Q fun v2 F2 H2 A2 q2 r2 => hQ v2 F2 H2 A2 (q.trans q2) r2
  · rename_i ef
    cases e
    refine h F H O σ E _ ef w s _ fun v F' H' A q r => ⟨false, r.bl_inv, ?_⟩
    rw [if_neg Bool.false_ne_true]
    exact hQ _ F' H' [] q (.bl _)
  · cases e
theorem qt_or {t u : TE} {f g} (h : Qt K mg t f) (h' : Qt K mg u g) : Qt K mg (tOrV t u) (qvOr f g) := by
  intro F H O σ E d e w s Q hQ
  unfold qvOr at e
  split at e
  · rename_i ef
    cases e
    refine h F H O σ E _ ef w s _ fun v F' H' A q r => ⟨true, r.bl_inv, ?_⟩
    rw [if_pos rfl]
    exact hQ _ F' H' [] q (.bl _)
  · rename_i ef
    refine h F H O σ E _ ef w s _ fun v F' H' A q r => ⟨false, r.bl_inv, ?_⟩
    rw [if_neg Bool.false_ne_true]
    exact h' F' H' O σ E d e (q.own w) (q.rps s) Q fun v2 F2 H2 A2 q2 r2 => hQ v2 F2 H2 A2 (q.trans q2) r2
  · cases e
theorem qt_not {t : TE} {f} (h : Qt K mg t f) : Qt K mg (tNotV t) (qvNot f) := by
  intro F H O σ E d e w s Q hQ
  unfold qvNot at e
  split at e
  · rename_i ef
    cases e
    exact h F H O σ E _ ef w s _ fun v F' H' A q r => ⟨_, r.bl_inv, hQ _ F' H' [] q (.bl _)⟩
  · cases e
theorem de_and {t u : TE} {f g} (h : De K mg t f) (h' : De K mg u g) : De K mg (tAndV t u) (evAnd f g) := by
  intro F H O σ E d E' e w s Q hQ
  unfold evAnd at e
  split at e
  · rename_i E1 ef
    refine h F H O σ E _ _ ef w s _ fun v F' H' A O' x w' r s' => ⟨true, r.bl_inv, ?_⟩
    rw [if_pos rfl]
    obtain ⟨_, z⟩ := r.isBl
    subst z
    exact h' F' H' O' σ E1 d E' e w' s' Q fun v2 F2 H2 A2 O2 x2 w2 r2 s2 => hQ v2 F2 H2 A2 O2 (x.trans x2) w2 r2 s2
  · rename_i E1 ef
    cases e
    refine h F H O σ E _ _ ef w s _ fun v F' H' A O' x w' r s' => ⟨false, r.bl_inv, ?_⟩
    rw [if_neg Bool.false_ne_true]
    obtain ⟨_, z⟩ := r.isBl
    subst z
    exact hQ _ F' H' [] O' x w' (.bl _) s'
  · cases e
theorem de_or {t u : TE} {f g} (h : De K mg t f) (h' : De K mg u g) : De K mg (tOrV t u) (evOr f g) := by
  intro F H O σ E d E' e w s Q hQ
  unfold evOr at e
  split at e
  · rename_i E1 ef
    cases e
    refine h F H O σ E _ _ ef w s _ fun v F' H' A O' x w' r s' => ⟨true, r.bl_inv, ?_⟩
    rw [if_pos rfl]
    obtain ⟨_, z⟩ := r.isBl
    subst z
    exact hQ _ F' H' [] O' x w' (.bl _) s'
  · rename_i E1 ef
    refine h F H O σ E _ _ ef w s _ fun v F' H' A O' x w' r s' => ⟨false, r.bl_inv, ?_⟩
    rw [if_neg Bool.false_ne_true]
    obtain ⟨_, z⟩ := r.isBl
    subst z
    exact h' F' H' O' σ E1 d E' e w' s' Q fun v2 F2 H2 A2 O2 x2 w2 r2 s2 => hQ v2 F2 H2 A2 O2 (x.trans x2) w2 r2 s2
  · cases e
theorem de_not {t : TE} {f} (h : De K mg t f) : De K mg (tNotV t) (evNot f) := by
  intro F H O σ E d E' e w s Q hQ
  unfold evNot at e
  split at e
  · rename_i b E1 ef
    cases e
    refine h F H O σ E _ _ ef w s _ fun v F' H' A O' x w' r s' => ⟨_, r.bl_inv, ?_⟩
    obtain ⟨_, z⟩ := r.isBl
    subst z
    exact hQ _ F' H' [] O' x w' (.bl _) s'
  · cases e
theorem pq_and {f g} (h : PQ Y a f) (h' : PQ Y (.BoolOp .And (b :: rest) pos) g) : PQ Y (.BoolOp .And (a :: b :: rest) pos) (qvAnd f g) := let ⟨_, p, q⟩ := h; let ⟨_, p', q'⟩ := h'; ⟨_, fun X h => pe_and (p X h) (p' X h), qt_and q q'⟩
theorem pq_or {f g} (h : PQ Y a f) (h' : PQ Y (.BoolOp .Or (b :: rest) pos) g) : PQ Y (.BoolOp .Or (a :: b :: rest) pos) (qvOr f g) := let ⟨_, p, q⟩ := h; let ⟨_, p', q'⟩ := h'; ⟨_, fun X h => pe_or (p X h) (p' X h), qt_or q q'⟩
theorem pq_not {f} (h : PQ Y a f) : PQ Y (.UnaryOp .Not a pos) (qvNot f) := let ⟨_, p, q⟩ := h; ⟨_, fun X h => pe_not (p X h), qt_not q⟩
theorem pd_and {f g} (h : PD Y a f) (h' : PD Y (.BoolOp .And (b :: rest) pos) g) : PD Y (.BoolOp .And (a :: b :: rest) pos) (evAnd f g) := let ⟨_, p, q⟩ := h; let ⟨_, p', q'⟩ := h'; ⟨_, fun X h => pe_and (p X h) (p' X h), de_and q q'⟩
theorem pd_or {f g} (h : PD Y a f) (h' : PD Y (.BoolOp .Or (b :: rest) pos) g) : PD Y (.BoolOp .Or (a :: b :: rest) pos) (evOr f g) := let ⟨_, p, q⟩ := h; let ⟨_, p', q'⟩ := h'; ⟨_, fun X h => pe_or (p X h) (p' X h), de_or q q'⟩
theorem pd_not {f} (h : PD Y a f) : PD Y (.UnaryOp .Not a pos) (evNot f) := let ⟨_, p, q⟩ := h; ⟨_, fun X h => pe_not (p X h), de_not q⟩
theorem pq_if {k f g} (h : TQ Y c k) (h1 : PQ Y a f) (h2 : PQ Y b g) : PQ Y (.IfExp c a b pos) (qIf k f g) := by
  obtain ⟨_, p, q⟩ := h
  obtain ⟨_, p1, q1⟩ := h1
  obtain ⟨_, p2, q2⟩ := h2
  refine ⟨_, fun X h => pe_ifExp (p X h) (p1 X h) (p2 X h), fun F H O σ E d e w s Q hQ => ?_⟩
  unfold qIf at e
  split at e
  · rename_i ec
    refine q F H O σ E true ec w s _ fun F' H' x => ?_
    rw [if_pos rfl]
    exact q1 F' H' O σ E d e (x.own w) (x.rps s) Q fun v2 F2 H2 A2 x2 r2 => hQ v2 F2 H2 A2 (x.trans x2) r2
  · rename_i ec
    refine q F H O σ E false ec w s _ fun F' H' x => ?_
    rw [if_neg Bool.false_ne_true]
    exact q2 F' H' O σ E d e (x.own w) (x.rps s) Q fun v2 F2 H2 A2 x2 r2 => hQ v2 F2 H2 A2 (x.trans x2) r2
  · cases e
theorem pd_if {k f g} (h : TD Y c k) (h1 : PD Y a f) (h2 : PD Y b g) : PD Y (.IfExp c a b pos) (eIf k f g) := by
  obtain ⟨_, p, q⟩ := h
  obtain ⟨_, p1, q1⟩ := h1
  obtain ⟨_, p2, q2⟩ := h2
  refine ⟨_, fun X h => pe_ifExp (p X h) (p1 X h) (p2 X h), fun F H O σ E d E' e w s Q hQ => ?_⟩
  unfold eIf at e
  split at e
  · rename_i E1 ec
    refine q F H O σ E true E1 ec w s _ fun F' H' O' x w' s' => ?_
    rw [if_pos rfl]
    exact q1 F' H' O' σ E1 d E' e w' s' Q fun v2 F2 H2 A2 O2 x2 w2 r2 s2 => hQ v2 F2 H2 A2 O2 (x.trans x2) w2 r2 s2
  · rename_i E1 ec
    refine q F H O σ E false E1 ec w s _ fun F' H' O' x w' s' => ?_
    rw [if_neg Bool.false_ne_true]
    exact q2 F' H' O' σ E1 d E' e w' s' Q fun v2 F2 H2 A2 O2 x2 w2 r2 s2 => hQ v2 F2 H2 A2 O2 (x.trans x2) w2 r2 s2
  · cases e
theorem qt_ch {ta tb tc : TE} {fa fb fc : Ev → Option D} {r r' : R2} {op op' : D → D → Option D} (hr : R2ok K mg r op) (hr' : R2ok K mg r' op') (ha : Qt K mg ta fa) (hb : Qt K mg tb fb) (hc : Qt K mg tc fc) : Qt K mg (tChain r r' ta tb tc) (qCh op op' fa fb fc) := by
  intro F H O σ E d e w s Q hQ
  unfold qCh at e
  split at e
  · rename_i dx ex
    split at e
    · rename_i dy ey
      split at e
      · rename_i eo
        split at e
        · rename_i dz ez
          refine q2 ha hb ex ey w s _ fun x y F' H' A B q rx ry => hr F' H' x y dx dy _ A B eo q.le rx ry _ fun v F2 H2 C q2 _ _ rv => ⟨true, rv.bl_inv, ?_⟩
          rw [if_pos rfl]
          have q12 := q.trans q2
          exact hc F2 H2 O σ E dz ez (q12.own w) (q12.rps s) _ fun z F3 H3 D3 q3 rz => hr' F3 H3 y z dy dz d _ _ e q3.le (q3.rp (q2.rp ry)) rz Q fun v4 F4 H4 C4 q4 _ _ r4 => hQ v4 F4 H4 C4 (q12.trans (q3.trans q4)) r4
        · cases e
      · rename_i eo
        cases e
        refine q2 ha hb ex ey w s _ fun x y F' H' A B q rx ry => hr F' H' x y dx dy _ A B eo q.le rx ry _ fun v F2 H2 C q2 _ _ rv => ⟨false, rv.bl_inv, ?_⟩
        rw [if_neg Bool.false_ne_true]
        exact hQ _ F2 H2 [] (q.trans q2) (.bl _)
      · cases e
    · cases e
  · cases e
theorem pq_chain {op op' : CmpOp} {r r' : R2} {f f' : D → D → Option D} {fa fb fc} (ho : OpY Y (compareOp op) r) (hr : R2ok Y.K Y.mg r f) (ho' : OpY Y (compareOp op') r') (hr' : R2ok Y.K Y.mg r' f') (ha : PQ Y a fa) (hb : PQ Y b fb) (hc : PQ Y c fc)
    (hm : lastMarks [op, op'] [b, c] = false := by with_unfolding_all rfl) : PQ Y (.Compare a [op, op'] [b, c] pos) (qCh f f' fa fb fc) :=
  let ⟨_, p1, q1⟩ := ha; let ⟨_, p2, q2⟩ := hb; let ⟨_, p3, q3⟩ := hc; ⟨_, fun X h => pe_chain (ho X h) (ho' X h) (p1 X h) (p2 X h) (p3 X h) hm, qt_ch hr hr' q1 q2 q3⟩
theorem tq_chain {op op' : CmpOp} {r r' : R2} {f f' : D → D → Option D} {fa fb fc} (ho : OpY Y (compareOp op) r) (hr : R2ok Y.K Y.mg r f) (ho' : OpY Y (compareOp op') r') (hr' : R2ok Y.K Y.mg r' f') (ha : PQ Y a fa) (hb : PQ Y b fb) (hc : PQ Y c fc)
    (hm : lastMarks [op, op'] [b, c] = false := by with_unfolding_all rfl) : TQ Y (.Compare a [op, op'] [b, c] pos) (tqf (qCh f f' fa fb fc)) :=
  let ⟨_, p1, q1⟩ := ha; let ⟨_, p2, q2⟩ := hb; let ⟨_, p3, q3⟩ := hc; ⟨_, fun X h => pt_chain (ho X h) (ho' X h) (p1 X h) (p2 X h) (p3 X h) hm, tq_b (qt_ch hr hr' q1 q2 q3)⟩
theorem pq_un {op : UnaryOp} {r : V → Hp → VK → Prop} {g : D → Option D} {f} (ho : UnY Y (unaryOp op) r) (hr : R1ok Y.K Y.mg r g) (ha : PQ Y a f) : PQ Y (.UnaryOp op a pos) (q1f g f) := by
  obtain ⟨_, p, q⟩ := ha
  refine ⟨_, fun X h => pe_un (ho X h) (p X h), fun F H O σ E d e w s Q hQ => ?_⟩
  unfold q1f at e
  split at e
  · rename_i dx ex
    exact q F H O σ E dx ex w s _ fun v F' H' A x rv => hr F' H' v dx d A e x.le rv Q fun u F2 H2 C x2 _ _ r2 => hQ u F2 H2 C (x.trans x2) r2
  · cases e
theorem pd_un {op : UnaryOp} {r : V → Hp → VK → Prop} {g : D → Option D} {f} (ho : UnY Y (unaryOp op) r) (hr : R1ok Y.K Y.mg r g) (ha : PD Y a f) : PD Y (.UnaryOp op a pos) (e1f g f) := by
  obtain ⟨_, p, q⟩ := ha
  refine ⟨_, fun X h => pe_un (ho X h) (p X h), fun F H O σ E d E' e w s Q hQ => ?_⟩
  unfold e1f at e
  split at e
  · rename_i dx E1 ex
    split at e
    · rename_i d' eo
      cases e
      refine q F H O σ E dx _ ex w s _ fun v F' H' A O' x w' rv s' => hr F' H' v dx d A eo w'.le rv Q fun u F2 H2 C x2 nd hf r2 => ?_
      exact hQ u F2 H2 C O' ((x.sub (fun _ m => m) fun b m => .inl (List.mem_append_right _ m)).trans (Ext.fresh (O := O') x2 hf)) (w'.right.fresh x2 nd hf r2.alive) r2 (x2.rps s')
    · cases e
  · cases e
end
/-! ### displays, quietly (items frozen) -/
def qTup (g : Ev → Option (List D)) : Ev → Option D := fun E => match g E with | some ds => (if isFzL ds = true ∧ ds.length ≤ sizeLine then some (.tup ds) else none) | none => none
def qLst (g : Ev → Option (List D)) : Ev → Option D := fun E => match g E with | some ds => (if isFzL ds = true ∧ ds.length ≤ sizeLine then some (.lst true ds) else none) | none => none
section
variable {Y : Fm} {es : List Expr} {pos : Pos}
theorem pq_tup {k} {g} (h : PQa Y es g) : PQ Y (.Tuple es k pos) (qTup g) := by
  obtain ⟨_, p, q⟩ := h
  refine ⟨_, fun X h => pe_tup (p X h), fun F H O σ E d e w s Q hQ => ?_⟩
  unfold qTup at e
  split at e
  · rename_i ds ed
    split at e
    · rename_i z
      cases e
      refine q F H O σ E ds ed w s _ fun vs F' H' A x r => ⟨by rw [r.length]; exact z.2, fun p hp => ?_⟩
      exact mk_tup x.le hp (by rw [r.length]; exact z.2) (r.nilOf z.1) fun v F2 H2 C x2 _ _ r2 => hQ v F2 H2 C (x.trans x2) r2
    · cases e
  · cases e
theorem pq_lst {g} (h : PQa Y es g) : PQ Y (.List es pos) (qLst g) := by
  obtain ⟨_, p, q⟩ := h
  refine ⟨_, fun X h => pe_lst (p X h), fun F H O σ E d e w s Q hQ => ?_⟩
  unfold qLst at e
  split at e
  · rename_i ds ed
    split at e
    · rename_i z
      cases e
      refine q F H O σ E ds ed w s _ fun vs F' H' A x r => ⟨by rw [r.length]; exact z.2, fun p hp => ?_⟩
      exact mk_lst x.le hp (by rw [r.length]; exact z.2) (r.nilOf z.1) fun v F2 H2 C x2 _ _ r2 => hQ v F2 H2 C (x.trans x2) r2
    · cases e
  · cases e
end
/-! ### return of a local name: the slot is given away -/
def sRetV (lk : Lks) (i : Nat) : Ev → Option Out := fun E => match E[i]? with
  | some (some d) => if isFz d = true then some (.ret d E) else if lk i = true then some (.ret (froz d) (E.set i (some (froz d)))) else some (.ret d (E.set i none))
  | _ => none
section
variable {Y : Fm} {lk : Lks} {pos : Pos}
theorem RpS.move {K : PySem.W.Frag} {mg : Md} {F H : Hp} {O : List Addr} {σ : L2.St} {E : Ev} {i : Nat} {d : D} (w : Own F H O) (s : RpS K mg F H σ E O) (e : E[i]? = some (some d)) : ∃ v A O', σ[i]? = some (some v) ∧ Rp K mg F H v d A ∧ RpS K mg F H σ (E.set i none) O' ∧ Own F H (A ++ O') ∧ ∀ b ∈ A ++ O', b ∈ O := by
  obtain ⟨v, A, O', es, r, s', pm⟩ := s.pull e
  exact ⟨v, A, O', es, r, s', w.perm pm.symm, fun b m => pm.mem_iff.mp m⟩
theorem sd_retV {i : Nat} {x : Str} {px : Pos} (hN : Y.N[i]? = some x) (hv : Vis Y.sc x) (hd : (x == ("__debug__" : Str)) = false := by decide) (hcd : (x == ("__classdict__" : Str)) = false := by decide) : SD Y (.Return (some (.Name x px)) pos) lk (sRetV lk i) := by
  refine ⟨_, fun X h => ps_ret (pe_var (h.nm hN) (h.vis hv) hd hcd), fun F H O σ E o e w s N h => ?_⟩
  unfold sRetV at e
  split at e
  · rename_i d ed
    split at e
    · rename_i z
      cases e
      obtain ⟨v, A, es, rv⟩ := s.get w ed
      have zA := rv.fz z
      subst zA
      exact ⟨v, es, h v σ F H [] O .refl Ext.refl w rv s⟩
    · split at e
      · cases e
        obtain ⟨v, A, es, rv, wA, sA, go⟩ := s.change w ed
        have rz := rv.freeze wA
        obtain ⟨O', s', w', x'⟩ := go _ _ _ _ (frz_ext wA) (Own.nil (frz_le wA)) rz
        exact ⟨v, es, h v σ _ _ [] O' .refl x' w' rz s'⟩
      · cases e
        obtain ⟨v, A, O', es, rv, s', w', sb⟩ := s.move w ed
        exact ⟨v, es, h v σ F H A O' .refl (Ext.refl.sub (fun _ m => m) fun b m => .inl (sb b m)) w' rv s'⟩
  · cases e
/-! a, b, c = x, y, z -/
def sPar3 (lk : Lks) (i j l : Nat) (f : Ev → Option (List D × Ev)) : Ev → Option Out := fun E => if (!lk i && !lk j && !lk l) = true then (match f E with | some ([d1, d2, d3], E1) => some (.nx (((E1.set i (some d1)).set j (some d2)).set l (some d3))) | _ => none) else none
theorem sd_par3 {i j l : Nat} {x y z : Str} {a b c : Expr} {px py pz pt : Pos} {kt k2 pt2} {f} (hN : Y.N.Nodup) (hi : Y.N[i]? = some x) (hj : Y.N[j]? = some y) (hl : Y.N[l]? = some z) (hij : i ≠ j) (hil : i ≠ l) (hjl : j ≠ l)
    (hx : Y.sc.names.lookup x = some .local) (hy : Y.sc.names.lookup y = some .local) (hz : Y.sc.names.lookup z = some .local) (ha : PDa Y [a, b, c] f)
    (hw : ∀ X, Y.Is X → swappedStores [.Tuple [.Name x px, .Name y py, .Name z pz] kt pt] (.Tuple [a, b, c] k2 pt2) X.env = pure (some [x, y, z]))
    (hs : ∀ X, Y.Is X → swapsWithSole [.Tuple [.Name x px, .Name y py, .Name z pz] kt pt] (.Tuple [a, b, c] k2 pt2) pos.line X.env = pure false := by intro _ _; rfl) :
    SD Y (.Assign [.Tuple [.Name x px, .Name y py, .Name z pz] kt pt] (.Tuple [a, b, c] k2 pt2) pos) lk (sPar3 lk i j l f) := by
  obtain ⟨_, p, q⟩ := ha
  refine ⟨_, fun X h => ps_par3 h.calm (h.nd hN) (h.nm hi) (h.nm hj) (h.nm hl) hij hil hjl (by rw [h.sc]; exact hx) (by rw [h.sc]; exact hy) (by rw [h.sc]; exact hz) (p X h) (hw X h) (hs X h), fun F H O σ E o e w s N h => ?_⟩
  unfold sPar3 at e
  split at e
  · rename_i hl'
    simp only [Bool.and_eq_true, Bool.not_eq_true'] at hl'
    split at e
    · rename_i d1 d2 d3 E1 ed
      cases e
      refine q F H O σ E _ E1 ed w s _ fun vs F' H' A O' x w' r s' => ?_
      cases r with
      | @cons v1 vs1 _ _ A1 A23 r1 r23 =>
        cases r23 with
        | @cons v2 vs2 _ _ A2 A3 r2 r3' =>
          obtain ⟨v3, e3, r3⟩ := r3'.one_inv
          subst e3
          refine ⟨v1, v2, v3, rfl, ?_⟩
          have pm : ((A1 ++ (A2 ++ A3)) ++ O').Perm (A3 ++ (A2 ++ (A1 ++ O'))) := by
            have p1 : (A1 ++ (A2 ++ A3)).Perm (A3 ++ (A2 ++ A1)) := by
              refine List.perm_append_comm.trans ?_
              rw [← List.append_assoc]
              exact List.Perm.append_right A1 List.perm_append_comm
            have p2 := List.Perm.append_right O' p1
            have e : (A3 ++ (A2 ++ A1)) ++ O' = A3 ++ (A2 ++ (A1 ++ O')) := by simp only [List.append_assoc]
            rw [e] at p2
            exact p2
          have w2 := w'.perm pm
          obtain ⟨O1, s1, w1, m1⟩ := s'.assign (i := i) w2.right.right r1
          have w3 : Own F' H' (A2 ++ O1) := w2.right.frame (Ext.refl.sub (fun b h => h) fun b h => .inr (m1 b h)) w1
          obtain ⟨O2, s2, w4, m2⟩ := s1.assign (i := j) w3 r2
          have w5 : Own F' H' (A3 ++ O2) := w2.frame (Ext.refl.sub (fun b h => h) fun b h => .inr (by
            rcases List.mem_append.mp (m2 b h) with m | m
            · exact List.mem_append_left _ m
            · exact List.mem_append_right _ (m1 b m))) w4
          obtain ⟨O3, s3, w6, m3⟩ := s2.assign (i := l) w5 r3
          refine h _ F' H' O3 ⟨by rw [List.length_set, List.length_set, List.length_set], fun k hk => ?_⟩ (x.sub (fun _ m => m) fun b m => .inl ?_) w6 s3
          · have n1 : i ≠ k := fun z => by rw [z, hk] at hl'; cases hl'.1.1
            have n2 : j ≠ k := fun z => by rw [z, hk] at hl'; cases hl'.1.2
            have n3 : l ≠ k := fun z => by rw [z, hk] at hl'; cases hl'.2
            rw [List.getElem?_set_ne n3, List.getElem?_set_ne n2, List.getElem?_set_ne n1]
          · refine pm.mem_iff.mpr ?_
            rcases List.mem_append.mp (m3 b m) with m | m
            · exact List.mem_append_left _ m
            · refine List.mem_append_right _ ?_
              rcases List.mem_append.mp (m2 b m) with m | m
              · exact List.mem_append_left _ m
              · exact List.mem_append_right _ (m1 b m)
    · cases e
  · cases e
/-! whose values the compiler swaps hangs on the scope alone -/
def envOf (sc : Scope) : Env := { scope := sc, locals := 0, globals := 0, cells := [] }
theorem sw_scope {ts : List Expr} {e : Expr} {X : Cx} (h : Y.Is X) : swappedStores ts e X.env = swappedStores ts e (envOf Y.sc) := by
  have h1 : X.env.blockKind = (envOf Y.sc).blockKind := by
    unfold Env.blockKind envOf
    rw [h.sc]
  have h2 : ∀ x, X.env.kindOf x = (envOf Y.sc).kindOf x := fun x => by
    unfold Env.kindOf envOf
    rw [h.sc]
  unfold swappedStores
  simp only [h1, h2]
end
end Dm

namespace Dm
open PySem PySem.Spec L2
open PyProof.Rows hiding St
/-! ### the defs of the module by name -/
/-- a def stands in the module -/
def Top (K : PySem.W.Frag) (mg : Str → Option Value) (x : Str) (st : Stmt) (ps : List Str) : Prop :=
  ∃ a fd, Fun K x x st a fd ∧ mg x = some (.ref a) ∧ Binds K fd ps []
/-- .. and keeps to g -/
def Ca (P : Program) (w : World) (K : PySem.W.Frag) (mg : Str → Option Value) (base : Heap) (k : Nat) (x : Str) (ps : List Str) (g : Fs) : Prop :=
  ∃ a fd, FnG P w K mg base k a fd ps g ∧ mg x = some (.ref a) ∧ PySem.W.keepIn K (.ref a) = true ∧ Binds K fd ps []
section
variable {P : Program} {w : World} {K : PySem.W.Frag} {mg : Str → Option Value} {base : Heap}
theorem Ca.mono {j k : Nat} {x : Str} {ps : List Str} {g : Fs} (c : Ca P w K mg base j x ps g) (h : j ≤ k) : Ca P w K mg base k x ps g :=
  let ⟨a, fd, G, r⟩ := c; ⟨a, fd, G.mono h, r⟩
theorem ca_of {x : Str} {st : Stmt} {N ps : List Str} {k : Nat} {b : Lks → Ev → Option Out} (T : Top K mg x st ps) (S : FnScope N ps (defScope st))
    (hb : ∀ lk, SDs ⟨P, w, K, mg, base, N, defScope st, fun _ => true, k⟩ (defBody st) lk (b lk)) : Ca P w K mg base (k + 1) x ps (runD N.length ps.length b) :=
  let ⟨a, fd, F, hm, hB⟩ := T; ⟨a, fd, fnG_of F S hb, hm, F.kp, hB⟩
theorem runD_len {n np : Nat} {b : Lks → Ev → Option Out} {ds : List D} {r : D × List D} (h : runD n np b ds = some r) : ds.length = np := by
  unfold runD at h
  split at h
  · assumption
  · cases h
theorem pd_callC {Y : Fm} {ps : List Str} {n np : Nat} {b : Lks → Ev → Option Out} {x : Str} {p pos : Pos} {e : Expr} {es : List Expr} {fx} (G : Ca Y.prog Y.w Y.K Y.mgf Y.base Y.k x ps (runD n np b)) (hg : GlY Y x) (ha : PX Y (e :: es) fx) (hn : ps.length = np := by rfl)
    (hdb : (x == ("__debug__" : Str)) = false := by decide) (he : ∀ X : Cx, starEach (e :: es) X.env = (false, eval e X.env) :: starEach es X.env := by intro _; rfl) (hpl : ∀ X : Cx, (backTo pos (starEach es X.env)).any (·.1) = false := by intro _; rfl) :
    PD Y (.Call (.Name x p) (e :: es) [] pos) (eCall (runD n np b) fx) :=
  let ⟨_, _, G, hm, hk, hB⟩ := G; pd_call G hg hm hk hB ha hdb he hpl fun _ _ h => (runD_len h).trans hn.symm
theorem top_mk {x : Str} {st : Stmt} {ps : List Str} {f : Addr} {oc : Value} {od an : Option Addr} {osl : Array (Option Value)} {kV doc pm cdv ct : Value} (hm : mg x = some (.ref f))
    (l : K.lookup f = some ⟨oc, od, .func (PySem.W.fnOf x x (defArgs st) (defBody st) (defScope st) .none kV doc pm an cdv ct), osl⟩) (c : PySem.W.codeIn K cdv x = true) (k : PySem.W.keepIn K (.ref f) = true)
    (h : ∀ (kV doc pm : Value) (an : Option Addr) (cdv ct : Value) (us : List Value), us.length = ps.length → bindArgs (PySem.W.fnOf x x (defArgs st) (defBody st) (defScope st) .none kV doc pm an cdv ct) ⟨us, []⟩ = pure (ps.zip us)) : Top K mg x st ps :=
  have F := fun_mk l c k
  ⟨f, _, F, hm, F.binds h⟩
end
/-- whether a value's comprehension swaps with its target hangs on the scope alone -/
theorem swl_scope {Y : Fm} {e : Expr} {t : Option Expr} {n : Nat} {X : Cx} (h : Y.Is X) : swapsWith e t n X.env = swapsWith e t n (envOf Y.sc) := by
  have h1 : X.env.blockKind = (envOf Y.sc).blockKind := by
    unfold Env.blockKind envOf
    rw [h.sc]
  have h2 : ∀ x, X.env.kindOf x = (envOf Y.sc).kindOf x := fun x => by
    unfold Env.kindOf envOf
    rw [h.sc]
  have h3 : X.env.scope = (envOf Y.sc).scope := h.sc
  unfold swapsWith
  simp only [h1, h2, h3]

/-! ### the law's head -/
theorem ints_rpl {K : PySem.W.Frag} {mg : Md} {F H : Hp} : ∀ ns : List Int, RpL K mg F H (ns.map V.int) (ns.map D.int) []
  | [] => .nil
  | n :: ns => .cons (O1 := []) (.int n) (ints_rpl ns)
theorem headG {P : Program} {w : World} {K : PySem.W.Frag} {mg mb : Str → Option Value} {k : Nat} {fa a : Addr} {fd : FuncData} {x : Str} {g : Fs} {s : Shared} {vs : List Value} {ns : List Int}
    (hK : K.In s.heap) (hn : s.heap.Ns mainGlobals mg) (hb : s.heap.Ns builtinsNs mb) (hbb : ∀ y : Str, y ≠ "__name__" → mb y = bootBuiltins y) (hl : s.heap.NoLimit) (hgen : s.gens = #[])
    (ho : s.heap.get? a = some { cls := .type "list", data := .seq vs.toArray }) (hi : IntsAre vs ns) (hz : ns.length ≤ sizeLine) (room : Room k callerA)
    (G : ∀ base : Heap, K.In base → base.Ns mainGlobals mg → FnG P w K mg base k fa fd [x] g) (bd : ∀ (s : Shared) (u : Value), BindsTo s fd ⟨[u], []⟩ [(x, u)])
    (hg : g [.scr (ns.map D.int)] = some (.bl true, [.scr (ns.map D.int)])) :
    codeAny (model P w) callerA (.call (.ref fa) ⟨[.ref a], []⟩) (fun r s' => r = .ok (.ret (.bool true)) ∧ OldK s.heap s'.heap ∧ s'.os = s.os ∧ AllBare s'.gens) s := by
  have vals : Vals (ns.map V.int) vs := vals_ints hi
  -- the walk from a heap H that tracks at most the script
  have walk : ∀ H : Hp, Only H → SqL K H a (ns.map V.int) → HOk P w H s.heap → (∀ c, H c ≠ none → c = a ∧ K.lookup a = none) →
      codeAny (model P w) callerA (.call (.ref fa) ⟨[.ref a], []⟩) (fun r s' => r = .ok (.ret (.bool true)) ∧ OldK s.heap s'.heap ∧ s'.os = s.os ∧ AllBare s'.gens) s := by
    intro H only seq ok track
    have dictFree : ∀ {c : Addr} {o : Obj} {es : Array DictEntry} {ep : Nat}, s.heap.get? c = some o → o.data = .dict es ep → H c = none := by
      intro c o es ep e d
      refine Classical.byContradiction fun n => ?_
      obtain ⟨e', _⟩ := track c n
      subst e'
      rw [ho] at e
      cases e
      cases (show Data.seq vs.toArray _ = Data.dict es ep from d)
    have ns' : ∀ {c : Addr} {m : Str → Option Value}, s.heap.Ns c m → (hidT s.heap H).Ns c m := by
      rintro c m ⟨o, es, ep, e, d, r⟩
      exact ⟨o, es, ep, hidT_get e (dictFree e d), d, r⟩
    have inK : K.In (hidT s.heap H) := by
      intro c o e
      refine hidT_get (hK c o e) (Classical.byContradiction fun n => ?_)
      obtain ⟨e', q⟩ := track c n
      subst e'
      rw [q] at e
      cases e
    have md : Mod K mg (hidT s.heap H) := ⟨inK, ns' hn, ⟨mb, ns' hb, hbb⟩, let ⟨mc, h1, h2⟩ := hl; ⟨mc, ns' h1, h2⟩⟩
    have env : Env0 P w K mg (hidT s.heap H) callerA [] s H :=
      ⟨rfl, md, fun _ _ e => of_hidT e, Nat.le_of_eq (hidT_size _ _), trivial, fun c hc => (List.not_mem_nil (a := c) hc).elim, ok, .of_eq hgen⟩
    have spec : SpD K ⟨mg, P, w⟩ g 1 [.ref a] H (fun v _ => v = .bl true) := by
      refine ⟨H, [.scr (ns.map D.int)], [], .bl true, [.scr (ns.map D.int)], hg, rfl, Own.nil (fun _ _ e => e), ?_, fun v F' H' A O' _ _ r _ => r.bl_inv⟩
      exact .cons (O1 := []) (.scr seq (by rw [List.length_map]; exact hz) (ints_rpl ns)) .nil
    refine codeAny_mono ((G _ inK (ns' hn)).run callerA [] s H ⟨[.ref a], []⟩ [.ref a] [.ref a] _ room rfl env (bd s (.ref a)) (.cons rfl .nil) spec) fun r s' h => ?_
    cases r with
    | error e => exact False.elim h
    | ok fl =>
      cases fl with
      | next => exact False.elim h
      | brk => exact False.elim h
      | cont => exact False.elim h
      | ret u =>
        obtain ⟨v, H', os, bare, und, ok', rv, q⟩ := h
        subst q
        have eu : u = Value.bool true := rv
        subst eu
        refine ⟨rfl, OldK.of_keep fun c o e => ?_, os, bare⟩
        by_cases hc : H c = none
        · exact und.keep c o e hc (fun z => (List.not_mem_nil (a := c) z).elim) (by simp)
        · rcases only c with z | ⟨ob, xs, z⟩
          · exact absurd z hc
          · have e1 := (ok c _ z).1
            have e2 := (ok' c _ (und.frzs c ob _ z)).1
            rw [e] at e1
            cases e1
            exact e2
  by_cases hk : K.lookup a = none
  · let H1 : Hp := fun c => if c = a then some (.frz { cls := .type "list", data := .seq vs.toArray } (.lst (ns.map V.int))) else none
    have hne : ∀ c, c ≠ a → H1 c = none := fun c n => if_neg n
    refine walk H1 (fun c => ?_) (.inl (.inr ⟨_, if_pos rfl⟩)) (fun c u z => ?_) fun c n => ⟨Classical.byContradiction fun q => n (hne c q), hk⟩
    · by_cases hc : c = a
      · exact .inr ⟨_, _, if_pos hc⟩
      · exact .inl (hne c hc)
    · have hc : c = a := Classical.byContradiction fun q => by rw [hne c q] at z; cases z
      have z' := (if_pos hc).symm.trans z
      cases z'
      subst hc
      exact ⟨ho, by rw [List.length_map]; exact hz, vs, _, vals, ho⟩
  · obtain ⟨o, ek⟩ : ∃ o, K.lookup a = some o := by
      cases q : K.lookup a with
      | none => exact absurd q hk
      | some o => exact ⟨o, rfl⟩
    have e := hK a o ek
    rw [ho] at e
    cases e
    exact walk (fun _ => none) (fun _ => .inl rfl) (.inr ⟨_, vs.toArray, _, ek, rfl, rfl, rfl, by rw [List.size_toArray, hi.length]; exact hz, by simpa using vals⟩)
      (fun c u z => by cases (show (none : Option HO) = some u from z)) fun c n => absurd rfl n
theorem walkG {l : PySem.W.OpenLaw} {n k : Nat} {q : Program} {loose : List Str} {XP : (Str → Option Value) → Heap → Prop} {YP : World → Heap → Prop} {d : DefRec} {K : Params → PySem.W.Frag} {x : Str} {g : Fs}
    (hm : l.most = some n) (hz : n ≤ sizeLine) (hdf : d.params.defaults = []) (room : Room k callerA) (hY : ∀ (w : World) (h : Heap), YP w h → (K w.params).In h)
    (F : ∀ (w : World) (mg : Str → Option Value) (fa : Addr) (h : Heap), (K w.params).In h → h.Ns mainGlobals mg → mg d.name = some (.ref fa) →
      ∃ fd : FuncData, (∀ (s : Shared) (u : Value), BindsTo s fd ⟨[u], []⟩ [(x, u)]) ∧ ∀ base : Heap, (K w.params).In base → base.Ns mainGlobals mg → FnG l.prog w (K w.params) mg base k fa fd [x] g)
    (hg : ∀ ns : List Int, ns.length ≤ n → g [.scr (ns.map D.int)] = some (.bl true, [.scr (ns.map D.int)])) :
    PySem.W.WalkO q loose XP YP l.row.toRowW d [] (fun f vs => PySem.call f vs) := by
  refine Att.attach_call hm hdf fun w s₀ s mg mb fa o pm cd doc a vs ns Gr Y _ _ _ hmg ho hi hlen hgen => ?_
  have hK := hY w _ Y
  obtain ⟨fd, bd, G⟩ := F w mg fa _ hK Gr.T.g hmg
  exact headG hK Gr.T.g Gr.T.b Gr.T.builtins Gr.T.nolimit hgen ho hi (Nat.le_trans hlen hz) room G bd (hg ns hlen)
end Dm

namespace Dm
open PySem PySem.Spec L2
open PyProof.Rows hiding St
/-! ### the list's methods by name -/
section
variable {Y : Fm} {i : Nat} {x : Str} {px apos cpos : Pos} {e : Expr} {es : List Expr} {g : Ev → Option (List D × Ev)} {name : Str} {id : String} {r : V → List V → Hp → VK → Prop} {op : List D → List D → Option (D × List D)}
theorem pd_mt1 (slot : Slot "list" name id) (hty : typeOf (.builtin id) = pure (.type "method_descriptor")) (hm : ∀ X, Y.Is X → MtR X id r) (hr : RMok Y.K Y.mg r op) (hN : Y.N[i]? = some x) (hv : Vis Y.sc x) (ha : PDa Y (e :: es) g)
    (hd : (x == ("__debug__" : Str)) = false := by decide) (hcd : (x == ("__classdict__" : Str)) = false := by decide)
    (hbase : ∀ X : Cx, attributeBase (.Name x px) name X.env (eval (.Name x px) X.env) = eval (.Name x px) X.env := by intro _; rfl)
    (hfew : ∀ X : Cx, ((backTo cpos (starEach (e :: es) X.env)).all (fun x => !x.1) && (backToKw cpos (keywordEach [] X.env)).all (fun x => x.1.isSome)
      && decide ((e :: es).length + ([] : List Keyword).length + (if ([] : List Keyword).isEmpty then 0 else 1) < 30)) = true := by intro _; rfl)
    (hline : (apos.endLine == cpos.line) = true := by rfl) (hs : ∀ X : Cx, starEach (e :: es) X.env = (false, eval e X.env) :: starEach es X.env := by intro _; rfl) (hplain : ∀ X : Cx, (backTo cpos (starEach es X.env)).any (·.1) = false := by intro _; rfl) :
    PD Y (.Call (.Attribute (.Name x px) name apos) (e :: es) [] cpos) (eMt i op g) := by
  refine pd_bm hr ha fun t X h p => ?_
  have q := pe_bm (name := name) (apos := apos) (cpos := cpos) PySem.F.plainAttrs_list slot hty (hm X h) (pe_var (pos := px) (h.nm hN) (h.vis hv) hd hcd) p (hbase X) (hfew X) hline (hs X) (hplain X)
  rw [h.K] at q
  exact q
theorem pd_mt0 (slot : Slot "list" name id) (hty : typeOf (.builtin id) = pure (.type "method_descriptor")) (hm : ∀ X, Y.Is X → MtR X id r) (hr : RMok Y.K Y.mg r op) (hN : Y.N[i]? = some x) (hv : Vis Y.sc x)
    (hd : (x == ("__debug__" : Str)) = false := by decide) (hcd : (x == ("__classdict__" : Str)) = false := by decide)
    (hbase : ∀ X : Cx, attributeBase (.Name x px) name X.env (eval (.Name x px) X.env) = eval (.Name x px) X.env := by intro _; rfl)
    (hline : (apos.endLine == cpos.line) = true := by rfl) :
    PD Y (.Call (.Attribute (.Name x px) name apos) [] [] cpos) (eMt i op eNil) := by
  refine ⟨_, fun X h => ?_, de_mt (t := fun _ H Q => Q [] H) hr fun F H O σ E ds E' e w s Q hQ => by cases e; exact hQ [] F H [] O Ext.refl w .nil s⟩
  have q := pe_bm0 (name := name) (apos := apos) (cpos := cpos) PySem.F.plainAttrs_list slot hty (hm X h) (pe_var (pos := px) (h.nm hN) (h.vis hv) hd hcd) (hbase X) hline
  rw [h.K] at q
  exact q
end
section
variable {Y : Fm}
theorem my_append : ∀ X, Y.Is X → MtR X "list.append" rAppend := fun _ _ => mt_append
theorem my_extend : ∀ X, Y.Is X → MtR X "list.extend" rExtend := fun _ _ => mt_extend
theorem my_pop : ∀ X, Y.Is X → MtR X "list.pop" rPop := fun _ _ => mt_pop
theorem my_popAt : ∀ X, Y.Is X → MtR X "list.pop" rPopAt := fun _ _ => mt_popAt
theorem my_reverse : ∀ X, Y.Is X → MtR X "list.reverse" rReverse := fun _ _ => mt_reverse
end
theorem bb_len : bootBuiltins "len" = some (.builtin "len") := by decide +kernel
theorem bb_isinstance : bootBuiltins "isinstance" = some (.builtin "isinstance") := by decide +kernel
theorem bb_abs : bootBuiltins "abs" = some (.builtin "abs") := by decide +kernel
theorem bb_all : bootBuiltins "all" = some (.builtin "all") := by decide +kernel
theorem bb_any : bootBuiltins "any" = some (.builtin "any") := by decide +kernel
theorem bb_sum : bootBuiltins "sum" = some (.builtin "sum") := by decide +kernel
theorem bb_min : bootBuiltins "min" = some (.builtin "min") := by decide +kernel
theorem bb_max : bootBuiltins "max" = some (.builtin "max") := by decide +kernel
theorem bb_repr : bootBuiltins "repr" = some (.builtin "repr") := by decide +kernel
theorem bb_int : bootBuiltins "int" = some (.type "int") := by decide +kernel
theorem bb_bool : bootBuiltins "bool" = some (.type "bool") := by decide +kernel
theorem bb_str : bootBuiltins "str" = some (.type "str") := by decide +kernel
theorem bb_list : bootBuiltins "list" = some (.type "list") := by decide +kernel
theorem bb_tuple : bootBuiltins "tuple" = some (.type "tuple") := by decide +kernel
theorem bb_dict : bootBuiltins "dict" = some (.type "dict") := by decide +kernel
end Dm
namespace Dm
open PySem PySem.Spec L2
def blkChk (N : List Str) (sc scope : Scope) (own : List (Str × Nat)) : Bool :=
  decide (scope.kind = .function) && (scope.names.all fun y => decide (scope.names.lookup y.1 = some y.2)) && (own.all fun p => decide (N[p.2]? = some p.1)) &&
  (scope.names.all fun y => !decide (y.2 = .free) || decide (sc.names.lookup y.1 = some .cell) || decide (sc.names.lookup y.1 = some .free)) &&
  (scope.names.all fun y => !(decide (y.2 = .local) || decide (y.2 = .cell)) || decide (y.1 ∈ own.map (·.1)) || !decide (y.1 ∈ N))
theorem blk_mk {N : List Str} {sc scope : Scope} {own : List (Str × Nat)} (h : blkChk N sc scope own = true) : BlkOk N sc scope own := by
  unfold blkChk at h
  simp only [Bool.and_eq_true, List.all_eq_true, Bool.or_eq_true, Bool.not_eq_true', decide_eq_true_eq, decide_eq_false_iff_not, Bool.or_eq_false_iff] at h
  obtain ⟨⟨⟨⟨h1, h2⟩, h3⟩, h4⟩, h5⟩ := h
  refine ⟨h1, h2, h3, fun y hy e => ?_, fun y hy e => ?_⟩
  · rcases h4 y hy with (q | q) | q
    · exact absurd e q
    · exact .inl q
    · exact .inr q
  · rcases h5 y hy with (q | q) | q
    · rcases e with e | e
      · exact absurd e q.1
      · exact absurd e q.2
    · exact .inl q
    · exact .inr q
end Dm

namespace Dm
open PySem
/-! ### helps for the plain mathematics -/
theorem outsD_same : ∀ (ds : List D) (E : Ev), outsD ds (ds.map some ++ E) = some ds
  | [], _ => rfl
  | d :: ds, E => by
    show outsD (d :: ds) (some d :: (ds.map some ++ E)) = _
    unfold outsD
    rw [outsD_same ds E]
    by_cases h : isFz d = true
    · simp [h]
    · simp [h]
theorem runD_same {n np : Nat} {b : Lks → Ev → Option Out} {ds : List D} {d : D} (E' : Ev) (hl : ds.length = np) (h : b (lkOf ds) (ds.map some ++ List.replicate (n - np) none) = some (.ret d (ds.map some ++ E'))) : runD n np b ds = some (d, ds) := by
  unfold runD
  rw [if_pos hl, h]
  show (match outsD ds (ds.map some ++ E') with | some os => some (d, os) | none => none) = _
  rw [outsD_same]
mutual
theorem froz_fz : ∀ d : D, isFz d = true → froz d = d
  | .tup xs, h => by
    simp only [isFz] at h
    simp only [froz, frozL_fz xs h]
  | .lst o xs, h => by
    simp only [isFz, Bool.and_eq_true, Bool.not_eq_true'] at h
    rw [h.1]
    simp only [froz, frozL_fz xs h.2]
  | .dic o ks vs, h => by
    simp only [isFz, Bool.and_eq_true, Bool.not_eq_true'] at h
    rw [h.1]
    simp only [froz, frozL_fz vs h.2]
  | .scr _, _ => by simp only [froz]
  | .non, _ => by simp only [froz]
  | .bl _, _ => by simp only [froz]
  | .int _, _ => by simp only [froz]
  | .str _, _ => by simp only [froz]
  | .fn _, _ => by simp only [froz]
  | .ty _, _ => by simp only [froz]
  | .ins o _ _ vs, h => by
    simp only [isFz, Bool.and_eq_true, Bool.not_eq_true'] at h
    rw [h.1]
    simp only [froz, frozL_fz vs h.2]
theorem frozL_fz : ∀ xs : List D, isFzL xs = true → frozL xs = xs
  | [], _ => by simp only [frozL]
  | x :: xs, h => by
    simp only [isFzL, Bool.and_eq_true] at h
    simp only [frozL, froz_fz x h.1, frozL_fz xs h.2]
end
theorem isFzL_map {α : Type} (f : α → D) (h : ∀ a, isFz (f a) = true) (xs : List α) : isFzL (xs.map f) = true := by
  rw [isFzL_all, List.all_map, List.all_eq_true]
  exact fun a _ => h a
theorem frozL_mapT {α : Type} (f : α → D) (h : ∀ a, isFz (f a) = true) (xs : List α) : frozL (xs.map f) = xs.map f := frozL_fz _ (isFzL_map f h xs)
theorem fz_int (i : Int) : isFz (.int i) = true := rfl
theorem fz_ints (ns : List Int) : isFzL (ns.map D.int) = true := isFzL_map _ fz_int ns
theorem frozL_ints (ns : List Int) : frozL (ns.map D.int) = ns.map D.int := frozL_mapT _ fz_int ns
/-! statements -/
theorem sSeq_nx {g1 g2 : Ev → Option Out} {E E1 : Ev} {r : Option Out} (h : g1 E = some (.nx E1)) (h2 : g2 E1 = r) : sSeq g1 g2 E = r := by
  unfold sSeq
  rw [h]
  exact h2
theorem sSeq_ret {g1 g2 : Ev → Option Out} {E E1 : Ev} {d : D} (h : g1 E = some (.ret d E1)) : sSeq g1 g2 E = some (.ret d E1) := by
  unfold sSeq
  rw [h]
theorem sIf_t {c : Ev → Option (Bool × Ev)} {g1 g2 : Ev → Option Out} {E E1 : Ev} {r : Option Out} (h : c E = some (true, E1)) (h2 : g1 E1 = r) : sIf c g1 g2 E = r := by
  unfold sIf
  rw [h]
  exact h2
theorem sIf_f {c : Ev → Option (Bool × Ev)} {g1 g2 : Ev → Option Out} {E E1 : Ev} {r : Option Out} (h : c E = some (false, E1)) (h2 : g2 E1 = r) : sIf c g1 g2 E = r := by
  unfold sIf
  rw [h]
  exact h2
theorem sRet_of {f : Ev → Option (D × Ev)} {E E1 : Ev} {d : D} (h : f E = some (d, E1)) : sRet f E = some (.ret d E1) := by
  unfold sRet
  rw [h]
theorem sExpr_of {f : Ev → Option (D × Ev)} {E E1 : Ev} {d : D} (h : f E = some (d, E1)) : sExpr f E = some (.nx E1) := by
  unfold sExpr
  rw [h]
theorem sAsg_of {lk : Lks} {ts : List Nat} {f : Ev → Option (D × Ev)} {g : D → Ev → Option Ev} {E E1 E2 : Ev} {d : D} (hl : ts.all (fun i => !lk i) = true) (h : f E = some (d, E1)) (h2 : g d E1 = some E2) : sAsg lk ts f g E = some (.nx E2) := by
  unfold sAsg
  rw [if_pos hl, h]
  show (match g d E1 with | some E2 => some (Out.nx E2) | none => none) = _
  rw [h2]
theorem sPar_of {lk : Lks} {i j : Nat} {f : Ev → Option (List D × Ev)} {E E1 : Ev} {d1 d2 : D} (hl : (!lk i && !lk j) = true) (h : f E = some ([d1, d2], E1)) : sPar lk i j f E = some (.nx ((E1.set i (some d1)).set j (some d2))) := by
  unfold sPar
  rw [if_pos hl, h]
theorem eCons_of {f : Ev → Option (D × Ev)} {g : Ev → Option (List D × Ev)} {E E1 E2 : Ev} {d : D} {ds : List D} (h : f E = some (d, E1)) (h2 : g E1 = some (ds, E2)) : eCons f g E = some (d :: ds, E2) := by
  unfold eCons
  rw [h]
  show (match g E1 with | some (ds, E2) => some (d :: ds, E2) | none => none) = _
  rw [h2]
theorem eCall_of {g : Fs} {fx : Ev → Option (List ArgV × Ev)} {E E1 E2 : Ev} {as : List ArgV} {ds os : List D} {d : D} (h : fx E = some (as, E1)) (h2 : gather as E1 = some (ds, E2)) (h3 : g ds = some (d, os)) : eCall g fx E = some (d, putBack as os E2) := by
  unfold eCall
  rw [h]
  show (match gather as E1 with | some (ds, E2) => (match g ds with | some (ret, outs) => some (ret, putBack as outs E2) | none => none) | none => none) = _
  rw [h2]
  show (match g ds with | some (ret, outs) => some (ret, putBack as outs E2) | none => none) = _
  rw [h3]
theorem eIf_t {c : Ev → Option (Bool × Ev)} {f g : Ev → Option (D × Ev)} {E E1 : Ev} {r : Option (D × Ev)} (h : c E = some (true, E1)) (h2 : f E1 = r) : eIf c f g E = r := by
  unfold eIf
  rw [h]
  exact h2
theorem eIf_f {c : Ev → Option (Bool × Ev)} {f g : Ev → Option (D × Ev)} {E E1 : Ev} {r : Option (D × Ev)} (h : c E = some (false, E1)) (h2 : g E1 = r) : eIf c f g E = r := by
  unfold eIf
  rw [h]
  exact h2
theorem e1L_of {op : List D → Option D} {g : Ev → Option (List D × Ev)} {E E1 : Ev} {ds : List D} {d : D} (h : g E = some (ds, E1)) (h2 : op ds = some d) : e1L op g E = some (d, E1) := by
  unfold e1L
  rw [h]
  show (match op ds with | some d => some (d, E1) | none => none) = _
  rw [h2]
theorem e2f_of {op : D → D → Option D} {f g : Ev → Option (D × Ev)} {E E1 E2 : Ev} {x y d : D} (h : f E = some (x, E1)) (h2 : g E1 = some (y, E2)) (h3 : op x y = some d) : e2f op f g E = some (d, E2) := by
  unfold e2f
  rw [h]
  show (match g E1 with | some (y, E2) => (match op x y with | some d => some (d, E2) | none => none) | none => none) = _
  rw [h2]
  show (match op x y with | some d => some (d, E2) | none => none) = _
  rw [h3]
theorem n2f_of {op : D → D → Option D} {f g : Ev → Option D} {E : Ev} {x y d : D} (h : f E = some x) (h2 : g E = some y) (h3 : op x y = some d) : n2f op f g E = some (d, E) := by
  unfold n2f
  rw [h, h2]
  show (match op x y with | some d => some (d, E) | none => none) = _
  rw [h3]
theorem q2f_of {op : D → D → Option D} {f g : Ev → Option D} {E : Ev} {x y d : D} (h : f E = some x) (h2 : g E = some y) (h3 : op x y = some d) : q2f op f g E = some d := by
  unfold q2f
  rw [h, h2]
  exact h3
theorem q1L_of {op : List D → Option D} {g : Ev → Option (List D)} {E : Ev} {ds : List D} {d : D} (h : g E = some ds) (h2 : op ds = some d) : q1L op g E = some d := by
  unfold q1L
  rw [h]
  exact h2
theorem n1L_of {op : List D → Option D} {g : Ev → Option (List D)} {E : Ev} {ds : List D} {d : D} (h : g E = some ds) (h2 : op ds = some d) : n1L op g E = some (d, E) := by
  unfold n1L
  rw [h]
  show (match op ds with | some d => some (d, E) | none => none) = _
  rw [h2]
theorem eOf_of {f : Ev → Option D} {E : Ev} {d : D} (h : f E = some d) (hz : isFz d = true) : eOf f E = some (d, E) := by
  unfold eOf
  rw [h]
  show (if isFz d = true then some (d, E) else none) = _
  rw [if_pos hz]
theorem eVar_fz {i : Nat} {E : Ev} {d : D} (h : E[i]? = some (some d)) (hz : isFz d = true) : eVar i E = some (d, E) := by
  unfold eVar
  rw [h]
  show (if isFz d = true then some (d, E) else _) = _
  rw [if_pos hz]
theorem eMt_of {i : Nat} {op : List D → List D → Option (D × List D)} {g : Ev → Option (List D × Ev)} {E E1 : Ev} {xs0 xs xs' ds : List D} {d : D} (h0 : E[i]? = some (some (.lst true xs0))) (h : g E = some (ds, E1)) (h1 : E1[i]? = some (some (.lst true xs))) (h2 : op xs ds = some (d, xs')) :
    eMt i op g E = some (d, E1.set i (some (.lst true xs'))) := by
  unfold eMt
  rw [h0]
  show (match g E with | some (ds, E1) => (match E1[i]? with | some (some (.lst true xs)) => (match op xs ds with | some (d, xs') => some (d, E1.set i (some (.lst true xs'))) | none => none) | _ => none) | none => none) = _
  rw [h]
  show (match E1[i]? with | some (some (.lst true xs)) => (match op xs ds with | some (d, xs') => some (d, E1.set i (some (.lst true xs'))) | none => none) | _ => none) = _
  rw [h1]
  show (match op xs ds with | some (d, xs') => some (d, E1.set i (some (.lst true xs'))) | none => none) = _
  rw [h2]
theorem tdf_of {f : Ev → Option (D × Ev)} {E E1 : Ev} {b : Bool} (h : f E = some (.bl b, E1)) : tdf f E = some (b, E1) := by
  unfold tdf
  rw [h]
  rfl
theorem tqf_of {f : Ev → Option D} {E : Ev} {b : Bool} (h : f E = some (.bl b)) : tqf f E = some b := by
  unfold tqf
  rw [h]
  rfl
theorem tOfQ_of {f : Ev → Option Bool} {E : Ev} {b : Bool} (h : f E = some b) : tOfQ f E = some (b, E) := by
  unfold tOfQ
  rw [h]
theorem dNot_of {f : Ev → Option (Bool × Ev)} {E E1 : Ev} {b : Bool} (h : f E = some (b, E1)) : dNot f E = some (!b, E1) := by
  unfold dNot
  rw [h]
theorem qNot_of {f : Ev → Option Bool} {E : Ev} {b : Bool} (h : f E = some b) : qNot f E = some (!b) := by
  unfold qNot
  rw [h]
theorem dOr_t {f g : Ev → Option (Bool × Ev)} {E E1 : Ev} (h : f E = some (true, E1)) : dOr f g E = some (true, E1) := by
  unfold dOr
  rw [h]
theorem dOr_f {f g : Ev → Option (Bool × Ev)} {E E1 : Ev} {r} (h : f E = some (false, E1)) (h2 : g E1 = r) : dOr f g E = r := by
  unfold dOr
  rw [h]
  exact h2
theorem dAnd_t {f g : Ev → Option (Bool × Ev)} {E E1 : Ev} {r} (h : f E = some (true, E1)) (h2 : g E1 = r) : dAnd f g E = r := by
  unfold dAnd
  rw [h]
  exact h2
theorem dAnd_f {f g : Ev → Option (Bool × Ev)} {E E1 : Ev} (h : f E = some (false, E1)) : dAnd f g E = some (false, E1) := by
  unfold dAnd
  rw [h]
theorem qAnd_of {f g : Ev → Option Bool} {E : Ev} {a b : Bool} (h : f E = some a) (h2 : a = true → g E = some b) : qAnd f g E = some (a && b) := by
  unfold qAnd
  rw [h]
  cases a
  · rfl
  · rw [Bool.true_and]; exact h2 rfl
theorem qOr_of {f g : Ev → Option Bool} {E : Ev} {a b : Bool} (h : f E = some a) (h2 : a = false → g E = some b) : qOr f g E = some (a || b) := by
  unfold qOr
  rw [h]
  cases a
  · rw [Bool.false_or]; exact h2 rfl
  · rfl
theorem qvAnd_of {f g : Ev → Option D} {E : Ev} {a b : Bool} (h : f E = some (.bl a)) (h2 : a = true → g E = some (.bl b)) : qvAnd f g E = some (.bl (a && b)) := by
  unfold qvAnd
  rw [h]
  cases a
  · rfl
  · rw [Bool.true_and]; exact h2 rfl
theorem qvOr_of {f g : Ev → Option D} {E : Ev} {a b : Bool} (h : f E = some (.bl a)) (h2 : a = false → g E = some (.bl b)) : qvOr f g E = some (.bl (a || b)) := by
  unfold qvOr
  rw [h]
  cases a
  · rw [Bool.false_or]; exact h2 rfl
  · rfl
theorem evAnd_of {f g : Ev → Option (D × Ev)} {E E1 : Ev} {a b : Bool} (h : f E = some (.bl a, E1)) (h2 : a = true → g E1 = some (.bl b, E1)) : evAnd f g E = some (.bl (a && b), E1) := by
  unfold evAnd
  rw [h]
  cases a
  · rfl
  · rw [Bool.true_and]; exact h2 rfl
/-! comprehensions over typed lists, without lasting changes -/
theorem compL_typed {α : Type} {own : List Nat} {g : D → Ev → Option Ev} {tt : Ev → Option (Bool × Ev)} {el : Ev → Option (D × Ev)} (enc : α → D) (b : α → Bool) (y : α → D) {E0 : Ev} : ∀ (ts : List α),
    (∀ t ∈ ts, ∃ E1 E2, g (enc t) E0 = some E1 ∧ tt E1 = some (b t, E2) ∧ (b t = false → wipeE E2 own = E0) ∧ (b t = true → ∃ E3, el E2 = some (y t, E3) ∧ wipeE E3 own = E0)) →
    compL own g tt el (ts.map enc) E0 = some ((ts.filter b).map y, E0)
  | [], _ => rfl
  | t :: ts, h => by
    obtain ⟨E1, E2, h1, h2, h3, h4⟩ := h t List.mem_cons_self
    have ih := compL_typed enc b y ts fun t m => h t (List.mem_cons_of_mem _ m)
    rw [List.map_cons, compL, h1]
    show (match tt E1 with | some (false, E2) => _ | some (true, E2) => _ | none => _) = _
    rw [h2]
    cases hb : b t with
    | false =>
      show compL own g tt el (ts.map enc) (wipeE E2 own) = _
      rw [h3 hb, ih, List.filter_cons_of_neg (by rw [hb]; exact Bool.false_ne_true)]
    | true =>
      obtain ⟨E3, h5, h6⟩ := h4 hb
      show (match el E2 with | some (d, E3) => (match compL own g tt el (ts.map enc) (wipeE E3 own) with | some (ds, E4) => some (d :: ds, E4) | none => none) | none => none) = _
      rw [h5]
      show (match compL own g tt el (ts.map enc) (wipeE E3 own) with | some (ds, E4) => some (y t :: ds, E4) | none => none) = _
      rw [h6, ih, List.filter_cons_of_pos hb, List.map_cons]
theorem eComp_typed {α : Type} {own : List Nat} {fi : Ev → Option (List D × Ev)} {g : D → Ev → Option Ev} {tt : Ev → Option (Bool × Ev)} {el : Ev → Option (D × Ev)} (enc : α → D) (b : α → Bool) (y : α → D) (ts : List α) {E E1 E0 E' : Ev}
    (hi : fi E = some (ts.map enc, E1)) (ho : ownFz E1 own = true) (hw : wipeE E1 own = E0) (hb : backE E1 E0 own = E') (hl : ts.length ≤ sizeLine)
    (h : ∀ t ∈ ts, ∃ E1 E2, g (enc t) E0 = some E1 ∧ tt E1 = some (b t, E2) ∧ (b t = false → wipeE E2 own = E0) ∧ (b t = true → ∃ E3, el E2 = some (y t, E3) ∧ wipeE E3 own = E0)) :
    eComp own fi g tt el E = some (.lst true ((ts.filter b).map y), E') := by
  unfold eComp
  rw [hi]
  show (if ownFz E1 own = true then (match compL own g tt el (ts.map enc) (wipeE E1 own) with | some (ds, E2) => (if ds.length ≤ sizeLine then some (D.lst true ds, backE E1 E2 own) else none) | none => none) else none) = _
  rw [if_pos ho, hw, compL_typed enc b y ts h]
  show (if ((ts.filter b).map y).length ≤ sizeLine then some (D.lst true ((ts.filter b).map y), backE E1 E0 own) else none) = _
  rw [if_pos (by rw [List.length_map]; exact Nat.le_trans (List.length_filter_le _ _) hl), hb]
/-- .. all of them kept -/
theorem eComp_all {α : Type} {own : List Nat} {fi : Ev → Option (List D × Ev)} {g : D → Ev → Option Ev} {el : Ev → Option (D × Ev)} (enc : α → D) (y : α → D) (ts : List α) {E E1 E0 E' : Ev}
    (hi : fi E = some (ts.map enc, E1)) (ho : ownFz E1 own = true) (hw : wipeE E1 own = E0) (hb : backE E1 E0 own = E') (hl : ts.length ≤ sizeLine)
    (h : ∀ t ∈ ts, ∃ E1 E3, g (enc t) E0 = some E1 ∧ el E1 = some (y t, E3) ∧ wipeE E3 own = E0) :
    eComp own fi g dYes el E = some (.lst true (ts.map y), E') := by
  have q := eComp_typed (tt := dYes) enc (fun _ => true) y ts hi ho hw hb hl fun t m => by
    obtain ⟨E1, E3, h1, h2, h3⟩ := h t m
    exact ⟨E1, E1, h1, rfl, fun e => (Bool.false_ne_true e.symm).elim, fun _ => ⟨E3, h2, h3⟩⟩
  rw [List.filter_eq_self.mpr (fun _ _ => rfl)] at q
  exact q
theorem compQ_typed {α : Type} {own : List Nat} {i : Nat} {c : Bool} {g : D → Ev → Option Ev} {tt : Ev → Option (Bool × Ev)} {el : Ev → Option (D × Ev)} (enc : α → D) (b : α → Bool) (y : α → D) (ts : List α) {E0 : Ev} (hE : E0[i]? = some (some (.lst c (ts.map enc)))) (hz : ∀ t, isFz (enc t) = true)
    (h : ∀ t ∈ ts, ∃ E1 E2, g (enc t) E0 = some E1 ∧ tt E1 = some (b t, E2) ∧ (b t = false → wipeE E2 own = E0) ∧ (b t = true → ∃ E3, el E2 = some (y t, E3) ∧ wipeE E3 own = E0)) :
    ∀ (n k : Nat), k ≤ ts.length → ts.length < n + k → compQ i own g tt el n k E0 = some (((ts.drop k).filter b).map y, E0) := by
  intro n
  induction n with
  | zero => intro k h1 h2; omega
  | succ n ih =>
    intro k h1 h2
    unfold compQ
    rw [hE]
    show (match (ts.map enc)[k]? with | none => _ | some x => _) = _
    rw [List.getElem?_map]
    by_cases hk : k < ts.length
    · rw [List.getElem?_eq_getElem hk, List.drop_eq_getElem_cons hk]
      show (if isFz (enc ts[k]) = true then _ else _) = _
      rw [if_pos (hz _)]
      obtain ⟨E1, E2, q1, q2, q3, q4⟩ := h ts[k] (List.getElem_mem hk)
      rw [q1]
      show (match tt E1 with | some (false, E2) => _ | some (true, E2) => _ | none => _) = _
      rw [q2]
      have ih' := ih (k + 1) hk (by omega)
      cases hb : b ts[k] with
      | false =>
        show compQ i own g tt el n (k + 1) (wipeE E2 own) = _
        rw [q3 hb, ih', List.filter_cons_of_neg (by rw [hb]; exact Bool.false_ne_true)]
      | true =>
        obtain ⟨E3, h5, h6⟩ := q4 hb
        show (match el E2 with | some (d, E3) => (match compQ i own g tt el n (k + 1) (wipeE E3 own) with | some (ds, E4) => some (d :: ds, E4) | none => none) | none => none) = _
        rw [h5]
        show (match compQ i own g tt el n (k + 1) (wipeE E3 own) with | some (ds, E4) => some (y ts[k] :: ds, E4) | none => none) = _
        rw [h6, ih', List.filter_cons_of_pos hb, List.map_cons]
    · have e : k = ts.length := by omega
      subst e
      rw [List.getElem?_eq_none (Nat.le_refl _), List.drop_length]
      rfl
theorem eCompQ_typed {α : Type} {own : List Nat} {i : Nat} {g : D → Ev → Option Ev} {tt : Ev → Option (Bool × Ev)} {el : Ev → Option (D × Ev)} (enc : α → D) (b : α → Bool) (y : α → D) (ts : List α) {E E0 E' : Ev} {d0 : D} (hE : E[i]? = some (some d0)) (hd : d0 = .lst true (ts.map enc) ∨ d0 = .lst false (ts.map enc) ∨ d0 = .tup (ts.map enc) ∨ d0 = .scr (ts.map enc)) (hz : ∀ t, isFz (enc t) = true)
    (ho : ownFz E own = true) (hw : wipeE E own = E0) (hi : E0[i]? = E[i]?) (hb : backE E E0 own = E') (hl : ts.length < 1000000)
    (h : ∀ t ∈ ts, ∃ E1 E2, g (enc t) E0 = some E1 ∧ tt E1 = some (b t, E2) ∧ (b t = false → wipeE E2 own = E0) ∧ (b t = true → ∃ E3, el E2 = some (y t, E3) ∧ wipeE E3 own = E0)) :
    eCompQ own i g tt el E = some (.lst true ((ts.filter b).map y), E') := by
  have hl2 : ts.length ≤ sizeLine := Nat.le_trans (Nat.le_of_lt hl) (by decide)
  have stat : iSeq (eVar i) E = some (ts.map enc, E) → eComp own (iSeq (eVar i)) g tt el E = some (.lst true ((ts.filter b).map y), E') := fun q =>
    eComp_typed enc b y ts q ho hw hb hl2 h
  have fzL := isFzL_map enc hz ts
  unfold eCompQ
  rw [hE]
  rcases hd with e | e | e | e
  · subst e
    show (if isFzL (ts.map enc) = true then (if ownFz E own = true then (match compQ i own g tt el whileFuel 0 (wipeE E own) with | some (ds, E2) => (if ds.length ≤ sizeLine then some (D.lst true ds, backE E E2 own) else none) | none => none) else none) else eComp own (iSeq (eVar i)) g tt el E) = _
    rw [if_pos fzL, if_pos ho, hw, compQ_typed enc b y ts (hi.trans hE) hz h whileFuel 0 (Nat.zero_le _) hl, List.drop_zero]
    show (if ((ts.filter b).map y).length ≤ sizeLine then some (D.lst true ((ts.filter b).map y), backE E E0 own) else none) = _
    rw [if_pos (by rw [List.length_map]; exact Nat.le_trans (List.length_filter_le _ _) hl2), hb]
  · subst e
    refine stat ?_
    unfold iSeq
    rw [eVar_fz hE (by simp only [isFz, fzL]; rfl)]
    show some (frozL (ts.map enc), E) = _
    rw [frozL_mapT enc hz]
  · subst e
    refine stat ?_
    unfold iSeq
    rw [eVar_fz hE (by simp only [isFz, fzL])]
    show (if isFzL (ts.map enc) = true then some (ts.map enc, E) else none) = _
    rw [if_pos fzL]
  · subst e
    refine stat ?_
    unfold iSeq
    rw [eVar_fz hE rfl]
theorem eCompQ_all {α : Type} {own : List Nat} {i : Nat} {g : D → Ev → Option Ev} {el : Ev → Option (D × Ev)} (enc : α → D) (y : α → D) (ts : List α) {E E0 E' : Ev} {d0 : D} (hE : E[i]? = some (some d0)) (hd : d0 = .lst true (ts.map enc) ∨ d0 = .lst false (ts.map enc) ∨ d0 = .tup (ts.map enc) ∨ d0 = .scr (ts.map enc)) (hz : ∀ t, isFz (enc t) = true)
    (ho : ownFz E own = true) (hw : wipeE E own = E0) (hi : E0[i]? = E[i]?) (hb : backE E E0 own = E') (hl : ts.length < 1000000)
    (h : ∀ t ∈ ts, ∃ E1 E3, g (enc t) E0 = some E1 ∧ el E1 = some (y t, E3) ∧ wipeE E3 own = E0) :
    eCompQ own i g dYes el E = some (.lst true (ts.map y), E') := by
  have q := eCompQ_typed (tt := dYes) enc (fun _ => true) y ts hE hd hz ho hw hi hb hl fun t m => by
    obtain ⟨E1, E3, h1, h2, h3⟩ := h t m
    exact ⟨E1, E1, h1, rfl, fun e => (Bool.false_ne_true e.symm).elim, fun _ => ⟨E3, h2, h3⟩⟩
  rw [List.filter_eq_self.mpr (fun _ _ => rfl)] at q
  exact q
/-! loops over typed lists: an invariant P k E -/
theorem forL_typed {α : Type} {g : D → Ev → Option Ev} {body : Ev → Option Out} (enc : α → D) (P : List α → Ev → Prop) (Q : Option Out → Prop)
    (step : ∀ t ts E, P (t :: ts) E → ∃ E1, g (enc t) E = some E1 ∧ ((∃ E2, body E1 = some (.nx E2) ∧ P ts E2) ∨ ∃ d E2, body E1 = some (.ret d E2) ∧ Q (some (.ret d E2)))) (stop : ∀ E, P [] E → Q (some (.nx E))) :
    ∀ (ts : List α) (E : Ev), P ts E → Q (forL g body (ts.map enc) E)
  | [], E, h => stop E h
  | t :: ts, E, h => by
    obtain ⟨E1, h1, h2⟩ := step t ts E h
    rw [List.map_cons, forL, h1]
    rcases h2 with ⟨E2, h2, h3⟩ | ⟨d, E2, h2, h3⟩
    · show Q (match body E1 with | some (.nx E2) => forL g body (ts.map enc) E2 | some (.ct E2) => _ | some (.bk E2) => _ | some (.ret d E2) => _ | none => _)
      rw [h2]
      exact forL_typed enc P Q step stop ts E2 h3
    · show Q (match body E1 with | some (.nx E2) => forL g body (ts.map enc) E2 | some (.ct E2) => _ | some (.bk E2) => _ | some (.ret d E2) => some (.ret d E2) | none => _)
      rw [h2]
      exact h3
/-! enumerate, zip -/
def enumT {α : Type} : Int → List α → List (Int × α)
  | _, [] => []
  | k, x :: xs => (k, x) :: enumT (k + 1) xs
theorem enumD_map {α : Type} (enc : α → D) : ∀ (k : Int) (ts : List α), enumD k (ts.map enc) = (enumT k ts).map fun p => .tup [.int p.1, enc p.2]
  | _, [] => rfl
  | k, t :: ts => by
    rw [List.map_cons, enumD, enumT, List.map_cons, enumD_map enc (k + 1) ts]
theorem enumT_length {α : Type} : ∀ (k : Int) (ts : List α), (enumT k ts).length = ts.length
  | _, [] => rfl
  | k, t :: ts => by rw [enumT, List.length_cons, List.length_cons, enumT_length (k + 1) ts]
theorem zipD_map {α β : Type} (e1 : α → D) (e2 : β → D) : ∀ (xs : List α) (ys : List β), zipD (xs.map e1) (ys.map e2) = (xs.zip ys).map fun p => .tup [e1 p.1, e2 p.2]
  | [], ys => by cases ys <;> rfl
  | x :: xs, [] => rfl
  | x :: xs, y :: ys => by
    rw [List.map_cons, List.map_cons, zipD, List.zip_cons_cons, List.map_cons, zipD_map e1 e2 xs ys]
theorem iSeq_tup {α : Type} {enc : α → D} (hz : ∀ a, isFz (enc a) = true) {i : Nat} {E : Ev} {as : List α} (h : E[i]? = some (some (.tup (as.map enc)))) : iSeq (eVar i) E = some (as.map enc, E) := by
  have fz := isFzL_map enc hz as
  unfold iSeq
  rw [eVar_fz h (by simp only [isFz, fz])]
  show (if isFzL (as.map enc) = true then some (as.map enc, E) else none) = _
  rw [if_pos fz]
theorem sForQ_tup {α : Type} {enc : α → D} (hz : ∀ a, isFz (enc a) = true) {lk : Lks} {i : Nat} {ts : List Nat} {g : D → Ev → Option Ev} {body : Lks → Ev → Option Out} {E : Ev} {as : List α} (hl : ts.all (fun j => !(lkP lk i) j) = true) (h : E[i]? = some (some (.tup (as.map enc)))) :
    sForQ lk i ts g body E = forL g (body (lkP lk i)) (as.map enc) E := by
  unfold sForQ
  rw [if_pos hl, h]
  show (match iSeq (eVar i) E with | some (xs, E1) => forL g (body (lkP lk i)) xs E1 | none => none) = _
  rw [iSeq_tup hz h]
theorem eCompQ_frz {own : List Nat} {i : Nat} {g : D → Ev → Option Ev} {tt : Ev → Option (Bool × Ev)} {el : Ev → Option (D × Ev)} {E : Ev} {xs : List D} (h : E[i]? = some (some (.lst true xs))) (hz : isFzL xs = false) : eCompQ own i g tt el E = eComp own (iSeq (eVar i)) g tt el E := by
  unfold eCompQ
  rw [h]
  show (if isFzL xs = true then _ else eComp own (iSeq (eVar i)) g tt el E) = _
  rw [if_neg (by rw [hz]; exact Bool.false_ne_true)]
theorem sForQ_lst {lk : Lks} {i : Nat} {ts : List Nat} {g : D → Ev → Option Ev} {body : Lks → Ev → Option Out} {E : Ev} {xs : List D} (hz : isFzL xs = true) (hl : ts.all (fun j => !(lkP lk i) j) = true) (h : E[i]? = some (some (.lst true xs))) :
    sForQ lk i ts g body E = forQ i g (body (lkP lk i)) whileFuel 0 E := by
  unfold sForQ
  rw [if_pos hl, h]
  exact if_pos hz
theorem sFor_of {lk : Lks} {ts : List Nat} {fi : Ev → Option (List D × Ev)} {g : D → Ev → Option Ev} {body : Ev → Option Out} {E E1 : Ev} {xs : List D} {r : Option Out} (hl : ts.all (fun j => !lk j) = true) (h : fi E = some (xs, E1)) (h2 : forL g body xs E1 = r) : sFor lk ts fi g body E = r := by
  unfold sFor
  rw [if_pos hl, h]
  exact h2
/-- a walk over an owned list that stands unchanged -/
theorem forQ_typed {α : Type} {i : Nat} {g : D → Ev → Option Ev} {body : Ev → Option Out} (enc : α → D) (hz : ∀ a, isFz (enc a) = true) (as : List α) (P : List α → Ev → Prop) (Q : Option Out → Prop) (c : Bool) (hP : ∀ ts E, P ts E → E[i]? = some (some (.lst c (as.map enc))))
    (step : ∀ t ts E, P (t :: ts) E → ∃ E1, g (enc t) E = some E1 ∧ ((∃ E2, body E1 = some (.nx E2) ∧ P ts E2) ∨ ∃ d E2, body E1 = some (.ret d E2) ∧ Q (some (.ret d E2)))) (stop : ∀ E, P [] E → Q (some (.nx E))) :
    ∀ (n k : Nat) (E : Ev), k ≤ as.length → as.length < n + k → P (as.drop k) E → Q (forQ i g body n k E) := by
  intro n
  induction n with
  | zero => intro k E h1 h2; omega
  | succ n ih =>
    intro k E h1 h2 h
    unfold forQ
    rw [hP _ E h]
    show Q (match (as.map enc)[k]? with | none => _ | some x => _)
    rw [List.getElem?_map]
    by_cases hk : k < as.length
    · rw [List.drop_eq_getElem_cons hk] at h
      obtain ⟨E1, q1, q2⟩ := step _ _ E h
      rw [List.getElem?_eq_getElem hk]
      show Q (if isFz (enc as[k]) = true then _ else _)
      rw [if_pos (hz _), q1]
      rcases q2 with ⟨E2, q2, q3⟩ | ⟨d, E2, q2, q3⟩
      · show Q (match body E1 with | some (.nx E2) => forQ i g body n (k + 1) E2 | some (.ct E2) => _ | some (.bk E2) => _ | some (.ret d E2) => _ | none => _)
        rw [q2]
        exact ih (k + 1) E2 hk (by omega) q3
      · show Q (match body E1 with | some (.nx E2) => forQ i g body n (k + 1) E2 | some (.ct E2) => _ | some (.bk E2) => _ | some (.ret d E2) => some (.ret d E2) | none => _)
        rw [q2]
        exact q3
    · have e : k = as.length := by omega
      subst e
      rw [List.drop_length] at h
      rw [List.getElem?_eq_none (Nat.le_refl _)]
      exact stop E h
/-! calls whose arguments stay -/
inductive Argd (E : Ev) : List ArgV → List D → Prop
  | nil : Argd E [] []
  | slot {i : Nat} {d : D} {r : List ArgV} {ds : List D} : E[i]? = some (some d) → Argd E r ds → Argd E (.inl i :: r) (d :: ds)
  | val {d : D} {r : List ArgV} {ds : List D} : Argd E r ds → Argd E (.inr d :: r) (d :: ds)
def slotsA : List ArgV → List Nat
  | [] => []
  | .inl i :: r => i :: slotsA r
  | .inr _ :: r => slotsA r
theorem Argd.cong {E E' : Ev} : ∀ {as : List ArgV} {ds : List D}, Argd E as ds → (∀ i ∈ slotsA as, E'[i]? = E[i]?) → Argd E' as ds
  | _, _, .nil, _ => .nil
  | _, _, .slot h r, q => .slot ((q _ List.mem_cons_self).trans h) (Argd.cong r fun i m => q i (List.mem_cons_of_mem _ m))
  | _, _, .val r, q => .val (Argd.cong r q)
theorem gather_of : ∀ {as : List ArgV} {ds : List D} {E : Ev}, Argd E as ds → (slotsA as).Nodup → ∃ E', gather as E = some (ds, E') ∧ E'.length = E.length ∧ ∀ j, j ∉ slotsA as → E'[j]? = E[j]?
  | _, _, E, .nil, _ => ⟨E, rfl, rfl, fun _ _ => rfl⟩
  | .inr d :: r, _ :: ds, E, .val h, n => by
    obtain ⟨E', h1, h2, h3⟩ := gather_of h n
    exact ⟨E', by unfold gather; rw [h1], h2, h3⟩
  | .inl i :: r, d :: ds, E, .slot h hr, n => by
    have n' := List.nodup_cons.mp n
    unfold gather
    rw [h]
    by_cases hz : isFz d = true
    · obtain ⟨E', h1, h2, h3⟩ := gather_of hr n'.2
      refine ⟨E', ?_, h2, fun j hj => h3 j fun m => hj (List.mem_cons_of_mem _ m)⟩
      show (if isFz d = true then _ else _) = _
      rw [if_pos hz, h1]
    · have hr' : Argd (E.set i none) r ds := hr.cong fun j m => List.getElem?_set_ne (fun (e : i = j) => n'.1 (by rw [e]; exact m))
      obtain ⟨E', h1, h2, h3⟩ := gather_of hr' n'.2
      refine ⟨E', ?_, by rw [h2, List.length_set], fun j hj => ?_⟩
      · show (if isFz d = true then _ else _) = _
        rw [if_neg hz, h1]
      · rw [h3 j fun m => hj (List.mem_cons_of_mem _ m)]
        exact List.getElem?_set_ne (fun (e : i = j) => hj (by rw [← e]; exact List.mem_cons_self))
theorem putBack_of : ∀ {as : List ArgV} {ds : List D} {E E' : Ev}, Argd E as ds → (slotsA as).Nodup → E'.length = E.length → (∀ j, j ∉ slotsA as → E'[j]? = E[j]?) → putBack as ds E' = E
  | _, _, E, E', .nil, _, hl, h => List.ext_getElem? fun j => h j (List.not_mem_nil)
  | .inr d :: r, _ :: ds, E, E', .val hr, n, hl, h => by
    unfold putBack
    exact putBack_of hr n hl h
  | .inl i :: r, d :: ds, E, E', .slot hd hr, n, hl, h => by
    have n' := List.nodup_cons.mp n
    unfold putBack
    refine putBack_of hr n'.2 (by rw [List.length_set]; exact hl) fun j hj => ?_
    by_cases e : i = j
    · subst e
      have hi : i < E.length := (List.getElem?_eq_some_iff.mp hd).1
      rw [List.getElem?_set_self (by rw [hl]; exact hi), hd]
    · rw [List.getElem?_set_ne e]
      exact h j fun m => (List.mem_cons.mp m).elim (fun q => e q.symm) hj
theorem eCall_same {g : Fs} {fx : Ev → Option (List ArgV × Ev)} {E E1 : Ev} {as : List ArgV} {ds : List D} {d : D} (h : fx E = some (as, E1)) (ha : Argd E1 as ds) (hn : (slotsA as).Nodup) (hg : g ds = some (d, ds)) : eCall g fx E = some (d, E1) := by
  obtain ⟨E2, h1, h2, h3⟩ := gather_of ha hn
  rw [eCall_of h h1 hg, putBack_of ha hn h2 h3]
theorem eVar_lst {i : Nat} {E : Ev} {xs : List D} (h : E[i]? = some (some (.lst true xs))) (hz : frozL xs = xs) : eVar i E = some (.lst false xs, E.set i (some (.lst false xs))) := by
  unfold eVar
  rw [h]
  show (if isFz (.lst true xs) = true then some (D.lst true xs, E) else some (froz (.lst true xs), E.set i (some (froz (.lst true xs))))) = _
  rw [if_neg (by simp [isFz])]
  show some (D.lst false (frozL xs), E.set i (some (.lst false (frozL xs)))) = _
  rw [hz]
theorem qCons_of {f : Ev → Option D} {g : Ev → Option (List D)} {E : Ev} {d : D} {ds : List D} (h : f E = some d) (h2 : g E = some ds) : qCons f g E = some (d :: ds) := by
  unfold qCons
  rw [h, h2]
end Dm

namespace Dm
open PySem
/-! ### data that == and repr take: depth at most n, its text at most w long -/
structure Nice (n w : Nat) (d : D) : Prop where
  dat : isDat d = true
  lay : (toP d).canLay0 = true
  dep : (toP d).depth ≤ n
  shw : (toP d).showable = true
  len : (toP d).shown.length ≤ w
theorem Nice.mono {n w n' w' : Nat} {d : D} (h : Nice n w d) (hn : n ≤ n') (hw : w ≤ w') : Nice n' w' d := ⟨h.dat, h.lay, Nat.le_trans h.dep hn, h.shw, Nat.le_trans h.len hw⟩
theorem nice_non : Nice 0 4 .non := ⟨rfl, rfl, Nat.le_refl _, rfl, by
  show (PyData.shown .none).length ≤ 4
  rw [PyData.shown_none]; decide⟩
theorem nice_bl (b : Bool) : Nice 0 5 (.bl b) := ⟨rfl, rfl, Nat.le_refl _, rfl, by
  show (PyData.shown (.bool b)).length ≤ 5
  rw [PyData.shown_bool]; cases b <;> decide⟩
theorem nice_int {i : Int} (h : i.natAbs.log2 < 1920) : Nice 0 1921 (.int i) := ⟨rfl, rfl, Nat.le_refl _, by
  show (PyData.int i).showable = true
  simpa [PyData.showable] using h, by
  show (PyData.shown (.int i)).length ≤ 1921
  rw [PyData.shown_int]; exact PyProof.Rows.int_text_len_1921 h⟩
theorem nice_str {x : Str} (h : PyData.strOk x = true) : Nice 0 (10 * x.length + 2) (.str x) := by
  refine ⟨rfl, ?_, Nat.le_refl _, rfl, ?_⟩
  · show (PyData.str x).canLay0 = true
    simpa only [PyData.canLay0] using h
  · show (PyData.shown (.str x)).length ≤ _
    rw [PyData.shown_str]
    refine PySem.StrLaws.reprText_len x fun c m => ?_
    unfold PyData.strOk at h
    have h2 := of_decide_eq_true (Array.all_eq_true_iff_forall_mem.mp h c (by simpa using m))
    exact Nat.lt_trans h2 (by decide)
theorem listText_len (ts : List Str) : (listText ts).length ≤ piled ts + 2 := by
  cases ts with
  | nil => rw [listText_nil]; decide
  | cons t r =>
    have h := textFrom_length_pos r 1 (("[" : Str) ++ (if (0 : Nat) > 0 then ", " else "" : String) ++ t) (Nat.succ_pos 0)
    have e : ((("[" : Str) ++ (if (0 : Nat) > 0 then ", " else "" : String) ++ t)).length = 1 + t.length := by
      rw [strLen_append, strLen_append]; rfl
    have hX : (listText (t :: r)).length = (textFrom 0 "[" (t :: r)).length + 1 := by
      unfold listText; rw [strLen_append]; rfl
    have hY : textFrom 0 "[" (t :: r) = textFrom 1 (("[" : Str) ++ (if (0 : Nat) > 0 then ", " else "" : String) ++ t) r := rfl
    rw [hX, hY, h, e, piled_cons]
    omega
theorem tupleText_len (ts : List Str) : (tupleText ts).length ≤ piled ts + 3 := by
  unfold tupleText
  rw [strLen_append, strLen_append]
  have e1 : ((("(" : String) : Str)).length = 1 := rfl
  have e3 : (((if ts.length == 1 then ",)" else ")" : String) : Str)).length ≤ 2 := by split <;> decide
  rw [e1]
  by_cases h : ts = []
  · subst h
    have : (Str.join ", " []).length = 0 := rfl
    omega
  · have := join_length_add ts h
    omega
theorem nice_all {n w : Nat} : ∀ (ds : List D), (∀ d ∈ ds, Nice n w d) → isDatL ds = true ∧ PyData.canLayAll0 (toPL ds) = true ∧ PyData.depthAll (toPL ds) ≤ n ∧ PyData.showableAll (toPL ds) = true ∧ piled (PyData.shownAll (toPL ds)) ≤ ds.length * (w + 2)
  | [], _ => ⟨rfl, rfl, Nat.zero_le _, rfl, Nat.zero_le _⟩
  | d :: ds, h => by
    obtain ⟨h1, h2, h3, h4, h5⟩ := nice_all ds fun x m => h x (List.mem_cons_of_mem _ m)
    have hd := h d List.mem_cons_self
    refine ⟨by simp only [isDatL, hd.dat, h1]; rfl, by simp only [toPL, PyData.canLayAll0, hd.lay, h2]; rfl, ?_, by simp only [toPL, PyData.showableAll, hd.shw, h4]; rfl, ?_⟩
    · simp only [toPL, PyData.depthAll]
      exact Nat.max_le.mpr ⟨hd.dep, h3⟩
    · simp only [toPL, PyData.shownAll]
      rw [piled_cons, List.length_cons, Nat.succ_mul]
      have := hd.len
      omega
theorem nice_lst {n w : Nat} {ds : List D} (o : Bool) (h : ∀ d ∈ ds, Nice n w d) : Nice (n + 1) (ds.length * (w + 2) + 3) (.lst o ds) := by
  obtain ⟨h1, h2, h3, h4, h5⟩ := nice_all ds h
  refine ⟨by simpa only [isDat] using h1, by simpa only [toP, PyData.canLay0] using h2, by simp only [toP, PyData.depth]; omega, by simpa only [toP, PyData.showable] using h4, ?_⟩
  simp only [toP, PyData.shown]
  have := listText_len (PyData.shownAll (toPL ds))
  omega
theorem nice_tup {n w : Nat} {ds : List D} (h : ∀ d ∈ ds, Nice n w d) : Nice (n + 1) (ds.length * (w + 2) + 3) (.tup ds) := by
  obtain ⟨h1, h2, h3, h4, h5⟩ := nice_all ds h
  refine ⟨by simpa only [isDat] using h1, by simpa only [toP, PyData.canLay0] using h2, by simp only [toP, PyData.depth]; omega, by simpa only [toP, PyData.showable] using h4, ?_⟩
  simp only [toP, PyData.shown]
  have := tupleText_len (PyData.shownAll (toPL ds))
  omega
theorem nice_lstM {α : Type} {n w : Nat} {f : α → D} (o : Bool) {ts : List α} (h : ∀ t ∈ ts, Nice n w (f t)) : Nice (n + 1) (ts.length * (w + 2) + 3) (.lst o (ts.map f)) := by
  have q := nice_lst (ds := ts.map f) o fun d m => by
    obtain ⟨t, m', e⟩ := List.mem_map.mp m
    subst e
    exact h t m'
  rw [List.length_map] at q
  exact q
theorem nice_tupM {α : Type} {n w : Nat} {f : α → D} {ts : List α} (h : ∀ t ∈ ts, Nice n w (f t)) : Nice (n + 1) (ts.length * (w + 2) + 3) (.tup (ts.map f)) := by
  have q := nice_tup (ds := ts.map f) fun d m => by
    obtain ⟨t, m', e⟩ := List.mem_map.mp m
    subst e
    exact h t m'
  rw [List.length_map] at q
  exact q
theorem Nice.eq {n w : Nat} {d : D} (h : Nice n w d) (hn : n ≤ 60) : okEq d = true := by
  unfold okEq SeqAt.shaped
  rw [h.dat, h.lay, decide_eq_true (Nat.le_trans h.dep (by omega))]; rfl
theorem Nice.repr {n w : Nat} {d : D} (h : Nice n w d) (hn : n ≤ 60) (hw : w ≤ sizeLine) : okRepr d = true := by
  unfold okRepr
  rw [h.dat, h.shw, PyData.hasDict_of_canLay _ h.lay, decide_eq_true (Nat.le_trans h.dep hn), decide_eq_true (Nat.le_trans h.len hw)]; rfl
mutual
theorem eqv_refl : ∀ p : PyData, p.canLay0 = true → PyData.eqv p p = true
  | .none, _ => by simp [PyData.eqv]
  | .bool b, _ => by simp [PyData.eqv]
  | .int i, _ => by simp [PyData.eqv]
  | .str x, _ => by simp [PyData.eqv]
  | .list xs, h => by
    simp only [PyData.eqv]
    exact eqvAll_refl xs (by simpa only [PyData.canLay0] using h)
  | .tuple xs, h => by
    simp only [PyData.eqv]
    exact eqvAll_refl xs (by simpa only [PyData.canLay0] using h)
  | .dict _, h => by simp [PyData.canLay0] at h
theorem eqvAll_refl : ∀ xs : List PyData, PyData.canLayAll0 xs = true → PyData.eqvAll xs xs = true
  | [], _ => by simp [PyData.eqvAll]
  | x :: xs, h => by
    simp only [PyData.canLayAll0, Bool.and_eq_true] at h
    simp only [PyData.eqvAll, eqv_refl x h.1, eqvAll_refl xs h.2, Bool.and_self]
end
theorem opEq_same {x y : D} (hx : okEq x = true) (hy : okEq y = true) (h : toP x = toP y) : opEq x y = some (.bl true) := by
  unfold opEq
  split
  · rename_i a b
    have e : a = b := by simpa [toP] using h
    subst e
    simp
  · rw [if_pos ⟨hx, hy⟩, ← h]
    have hl : (toP x).canLay0 = true := by
      unfold okEq SeqAt.shaped at hx
      simp only [Bool.and_eq_true] at hx
      exact hx.2.1
    rw [eqv_refl _ hl]
theorem opRepr_of {d : D} (h : okRepr d = true) : opRepr [d] = some (.str (toP d).shown) := if_pos h
theorem toP_lst (o : Bool) (xs : List D) : toP (.lst o xs) = .list (toPL xs) := by simp only [toP]
theorem xSlot_of {i : Nat} {g : Ev → Option (List ArgV × Ev)} {E E1 : Ev} {d : D} {as : List ArgV} (h : E[i]? = some (some d)) (h2 : g E = some (as, E1)) : xSlot i g E = some (.inl i :: as, E1) := by
  unfold xSlot
  rw [h, h2]
theorem xVal_of {f : Ev → Option (D × Ev)} {g : Ev → Option (List ArgV × Ev)} {E E1 E2 : Ev} {d : D} {as : List ArgV} (h : f E = some (d, E1)) (h2 : g E1 = some (as, E2)) : xVal f g E = some (.inr d :: as, E2) := by
  unfold xVal
  rw [h]
  show (match g E1 with | some (as, E2) => some (Sum.inr d :: as, E2) | none => none) = _
  rw [h2]
theorem eLst_of {g : Ev → Option (List D × Ev)} {E E1 : Ev} {ds : List D} (h : g E = some (ds, E1)) (hl : ds.length ≤ 5000) : eLst g E = some (.lst true ds, E1) := by
  unfold eLst
  rw [h]
  show (if ds.length ≤ sizeLine then some (D.lst true ds, E1) else none) = _
  rw [if_pos (Nat.le_trans hl (by decide))]
theorem eTup_of {g : Ev → Option (List D × Ev)} {E E1 : Ev} {ds : List D} (h : g E = some (ds, E1)) (hl : ds.length ≤ 5000) : eTup g E = some (.tup ds, E1) := by
  unfold eTup
  rw [h]
  show (if ds.length ≤ sizeLine then some (D.tup ds, E1) else none) = _
  rw [if_pos (Nat.le_trans hl (by decide))]
theorem qTup_of {g : Ev → Option (List D)} {E : Ev} {ds : List D} (h : g E = some ds) (hz : isFzL ds = true) (hl : ds.length ≤ 5000) : qTup g E = some (.tup ds) := by
  unfold qTup
  rw [h]
  show (if isFzL ds = true ∧ ds.length ≤ sizeLine then some (D.tup ds) else none) = _
  rw [if_pos ⟨hz, Nat.le_trans hl (by decide)⟩]
end Dm

namespace K19
open PySem PySem.Spec L2 Dm
open PyProof.Rows hiding St
def topS (i : Nat) : Stmt := PySem.Challenge.pw_nocheaper_k19_lengths_of_jumps.main.body.getD i (.Pass ⟨0, 0, 0, 0⟩)
structure NoB (K : PySem.W.Frag) (mg : Str → Option Value) : Prop where
  b_abs : mg "abs" = none
  b_all : mg "all" = none
  b_bool : mg "bool" = none
  b_enumerate : mg "enumerate" = none
  b_int : mg "int" = none
  b_isinstance : mg "isinstance" = none
  b_len : mg "len" = none
  b_list : mg "list" = none
  b_max : mg "max" = none
  b_min : mg "min" = none
  b_range : mg "range" = none
  b_repr : mg "repr" = none
  b_tuple : mg "tuple" = none
  b_zip : mg "zip" = none
/-! _law_bag -/
abbrev s__law_bag : Stmt := topS 13
theorem sc__law_bag : FnScope ["script", "cell"] ["script"] (defScope s__law_bag) := ⟨rfl, rfl, rfl, by decide +kernel, rfl, by decide +kernel, by decide +kernel⟩
def b__law_bag (lk : Lks) : Ev → Option Out := (sRet (eLst (eCons (eOf (qC (.int 0))) (eCons (eOf (qC (.int 1234567891))) (eCons (eOf (qC (.int 0))) (eCons (eComp [1] (iSeq (nSl (qVar 0) qNo (qPart (qC (.int 63))))) (gdName 1) dYes (n1L opAbs (qCons (qVar 1) qNil))) eNil))))))
abbrev g__law_bag : Fs := runD 2 1 b__law_bag
theorem ok__law_bag {P : Program} {w : World} {K : PySem.W.Frag} {mg : Str → Option Value} {base : Heap} (nb : NoB K mg) (T : Top K mg "_law_bag" s__law_bag ["script"])  : Ca P w K mg base 1 "_law_bag" ["script"] g__law_bag :=
  ca_of (k := 0) T sc__law_bag fun lk => (sd_one (sd_ret (pd_lst (da_cons (pd_of pq_int) (da_cons (pd_of pq_int) (da_cons (pd_of pq_int) (da_cons (pd_comp (own := [("cell", 1)]) (ts := [1]) sc__law_bag.nd (id_seq (pn_sl (pq_var (i := 0) (by rfl) (.inl (by kernel_rfl))) qo_none (qo_some pq_int))) (blk_mk (by kernel_rfl)) (gd_name (i := 1) sc__law_bag.nd (by rfl) (.inl (by kernel_rfl)) (hf := .inr (by kernel_rfl))) ts_nil (pn_callB cy_abs ok_abs (by kernel_rfl) nb.b_abs bb_abs (qa_cons (pq_var (i := 1) (by rfl) (.inl (by kernel_rfl))) qa_nil)) (by decide) (by decide)) da_nil)))))))
/-! _law_alike -/
abbrev s__law_alike : Stmt := topS 16
theorem sc__law_alike : FnScope ["found", "due"] ["found", "due"] (defScope s__law_alike) := ⟨rfl, rfl, rfl, by decide +kernel, rfl, by decide +kernel, by decide +kernel⟩
def b__law_alike (lk : Lks) : Ev → Option Out := (sRet (eOf (qvAnd (q2f opEq (q1L opRepr (qCons (qVar 0) qNil)) (q1L opRepr (qCons (qVar 1) qNil))) (q2f opEq (qVar 0) (qVar 1)))))
abbrev g__law_alike : Fs := runD 2 2 b__law_alike
theorem ok__law_alike {P : Program} {w : World} {K : PySem.W.Frag} {mg : Str → Option Value} {base : Heap} (nb : NoB K mg) (T : Top K mg "_law_alike" s__law_alike ["found", "due"])  : Ca P w K mg base 1 "_law_alike" ["found", "due"] g__law_alike :=
  ca_of (k := 0) T sc__law_alike fun lk => (sd_one (sd_ret (pd_of (pq_and (pq_cmp oy_eq ok_eq (pq_callB cy_repr ok_repr (by kernel_rfl) nb.b_repr bb_repr (qa_cons (pq_var (i := 0) (by rfl) (.inl (by kernel_rfl))) qa_nil)) (pq_callB cy_repr ok_repr (by kernel_rfl) nb.b_repr bb_repr (qa_cons (pq_var (i := 1) (by rfl) (.inl (by kernel_rfl))) qa_nil)) (nomark _)) (pq_one (pq_cmp oy_eq ok_eq (pq_var (i := 0) (by rfl) (.inl (by kernel_rfl))) (pq_var (i := 1) (by rfl) (.inl (by kernel_rfl))) (nomark _)))))))
/-! _law_distances -/
abbrev s__law_distances : Stmt := topS 19
theorem sc__law_distances : FnScope ["line", "sizes", "lengths", "short", "long", "reach", "begins_v", "jumps", "found", "item", "k"] ["line", "sizes", "lengths"] (defScope s__law_distances) := ⟨rfl, rfl, rfl, by decide +kernel, rfl, by decide +kernel, by decide +kernel⟩
def l__law_distances_1 (lk : Lks) : Ev → Option Out := (sExpr (eMt 6 mAppend (eCons (e2f opAdd (eOf (q2f opIx (qVar 6) (q1f opNeg (qC (.int 1))))) (eIf (tOfQ (tqf (q1L opIsi (qCons (qVar 9) (qCons (qC (.ty "int")) qNil))))) (eVar 9) (e2f opIxF (eLst (eCons (eVar 3) (eCons (eVar 4) eNil))) (eMt 7 mPopAt (eCons (eOf (qC (.int 0))) eNil))))) eNil)))
def l__law_distances_2 (lk : Lks) : Ev → Option Out := (sExpr (eMt 8 mExtend (eCons (eIf (tOfQ (qNot (tqf (q1L opIsi (qCons (qVar 9) (qCons (qC (.ty "int")) qNil)))))) (eLst (eCons (n2f opSub (q2f opIx (qVar 6) (q2f opIx (qVar 9) (qC (.int 1)))) (q2f opIx (qVar 6) (q2f opAdd (qVar 10) (qC (.int 1))))) eNil)) (eLst eNil)) eNil)))
def b__law_distances (lk : Lks) : Ev → Option Out := (sSeq (sAsg lk [3, 4, 5] (eVar 1) (gdTup 3 (gdCons (gdName 3) (gdCons (gdName 4) (gdCons (gdName 5) gdNil)))))
  (sSeq (sPar3 lk 6 7 8 (eCons (eLst (eCons (eOf (qC (.int 0))) eNil)) (eCons (n1L opList (qCons (qVar 2) qNil)) (eCons (eLst eNil) eNil))))
  (sSeq (sForQ lk 0 [9] (gdName 9) l__law_distances_1)
  (sSeq (sFor lk [10, 9] (iEnum (eCons (eVar 0) eNil)) (gdTup 2 (gdCons (gdName 10) (gdCons (gdName 9) gdNil))) (l__law_distances_2 lk))
  (sRetV lk 8)))))
abbrev g__law_distances : Fs := runD 11 3 b__law_distances
theorem ok__law_distances {P : Program} {w : World} {K : PySem.W.Frag} {mg : Str → Option Value} {base : Heap} (nb : NoB K mg) (T : Top K mg "_law_distances" s__law_distances ["line", "sizes", "lengths"])  : Ca P w K mg base 1 "_law_distances" ["line", "sizes", "lengths"] g__law_distances :=
  ca_of (k := 0) T sc__law_distances fun lk => (sd_cons (sd_asg (ts := [3, 4, 5]) (pd_var (i := 1) (by rfl) (.inl (by kernel_rfl))) (gd_tup (gds_cons (gd_name (i := 3) sc__law_distances.nd (by rfl) (.inl (by kernel_rfl)) (hf := .inl rfl)) (gds_cons (gd_name (i := 4) sc__law_distances.nd (by rfl) (.inl (by kernel_rfl)) (hf := .inl rfl)) (gds_cons (gd_name (i := 5) sc__law_distances.nd (by rfl) (.inl (by kernel_rfl)) (hf := .inl rfl)) gds_nil)))))
    (sd_cons (sd_par3 (i := 6) (j := 7) (l := 8) sc__law_distances.nd (by rfl) (by rfl) (by rfl) (by decide) (by decide) (by decide) (by kernel_rfl) (by kernel_rfl) (by kernel_rfl) (da_cons (pd_lst (da_cons (pd_of pq_int) da_nil)) (da_cons (pn_callT cy_list ok_list (by kernel_rfl) nb.b_list bb_list (qa_cons (pq_var (i := 2) (by rfl) (.inl (by kernel_rfl))) qa_nil)) (da_cons (pd_lst da_nil) da_nil))) (fun X h => (sw_scope h).trans (by kernel_rfl)))
    (sd_cons (sd_forQ (i := 0) (ts := [9]) (by rfl) (.inl (by kernel_rfl)) (gd_name (i := 9) sc__law_distances.nd (by rfl) (.inl (by kernel_rfl)) (hf := .inl rfl)) (fun lk => (sd_one (sd_expr (pd_mt1 (i := 6) PySem.F.slot_list_append PySem.F.type_list_append my_append ok_append (by rfl) (.inl (by kernel_rfl)) (da_cons (pd_bin oy_add ok_add (pd_of (pq_ix (pq_var (i := 6) (by rfl) (.inl (by kernel_rfl))) (pq_un uy_neg ok_neg pq_int))) (pd_if (td_of (tq_val (pq_callB cy_isi ok_isi (by kernel_rfl) nb.b_isinstance bb_isinstance (qa_cons (pq_var (i := 9) (by rfl) (.inl (by kernel_rfl))) (qa_cons (pq_ty (T := "int") (by kernel_rfl) nb.b_int bb_int) qa_nil))))) (pd_var (i := 9) (by rfl) (.inl (by kernel_rfl))) (pd_ix (pd_lst (da_cons (pd_var (i := 3) (by rfl) (.inl (by kernel_rfl))) (da_cons (pd_var (i := 4) (by rfl) (.inl (by kernel_rfl))) da_nil))) (pd_mt1 (i := 7) PySem.F.slot_list_pop PySem.F.type_list_pop my_popAt ok_popAt (by rfl) (.inl (by kernel_rfl)) (da_cons (pd_of pq_int) da_nil))))) da_nil))))))
    (sd_cons (sd_for (ts := [10, 9]) (id_enum (by kernel_rfl) nb.b_enumerate (da_cons (pd_var (i := 0) (by rfl) (.inl (by kernel_rfl))) da_nil)) (gd_tup (gds_cons (gd_name (i := 10) sc__law_distances.nd (by rfl) (.inl (by kernel_rfl)) (hf := .inl rfl)) (gds_cons (gd_name (i := 9) sc__law_distances.nd (by rfl) (.inl (by kernel_rfl)) (hf := .inl rfl)) gds_nil))) (sd_one (sd_expr (pd_mt1 (i := 8) PySem.F.slot_list_extend PySem.F.type_list_extend my_extend ok_extend (by rfl) (.inl (by kernel_rfl)) (da_cons (pd_if (td_of (tq_not (tq_val (pq_callB cy_isi ok_isi (by kernel_rfl) nb.b_isinstance bb_isinstance (qa_cons (pq_var (i := 9) (by rfl) (.inl (by kernel_rfl))) (qa_cons (pq_ty (T := "int") (by kernel_rfl) nb.b_int bb_int) qa_nil)))))) (pd_lst (da_cons (pn_bin oy_sub ok_sub (pq_ix (pq_var (i := 6) (by rfl) (.inl (by kernel_rfl))) (pq_ix (pq_var (i := 9) (by rfl) (.inl (by kernel_rfl))) pq_int)) (pq_ix (pq_var (i := 6) (by rfl) (.inl (by kernel_rfl))) (pq_bin oy_add ok_add (pq_var (i := 10) (by rfl) (.inl (by kernel_rfl))) pq_int))) da_nil)) (pd_lst da_nil)) da_nil)))))
    (sd_one (sd_retV (i := 8) (by rfl) (.inl (by kernel_rfl))))))))
/-! _law_rounds -/
abbrev s__law_rounds : Stmt := topS 21
theorem sc__law_rounds : FnScope ["line", "sizes", "many", "lengths", "found", "lap", "far", "new", "k", "item"] ["line", "sizes"] (defScope s__law_rounds) := ⟨rfl, rfl, rfl, by decide +kernel, rfl, by decide +kernel, by decide +kernel⟩
def l__law_rounds_1 (lk : Lks) : Ev → Option Out := (sAsg lk [] (eTup (eCons (eVar 5) (eCons (eOf (q2f opIx (qVar 6) (qVar 8))) eNil))) (gdSub 4 (qVar 8)))
def l__law_rounds_2 (lk : Lks) : Ev → Option Out := (sSeq (sAsg lk [6] (eCall g__law_distances (xSlot 0 (xSlot 1 (xSlot 3 xNil)))) (gdName 6))
  (sSeq (sAsg lk [7] (eComp [8] (iRange (eCons (eVar 2) eNil)) (gdName 8) (tOfQ (qAnd (tqf (q2f opEq (q2f opIx (qVar 3) (qVar 8)) (qC (.int 0)))) (tqf (q2f opGt (q1L opAbs (qCons (q2f opIx (qVar 6) (qVar 8)) qNil)) (q2f opIx (qVar 1) (qC (.int 2))))))) (eVar 8)) (gdName 7))
  (sSeq (sForQ lk 7 [8] (gdName 8) l__law_rounds_1)
  (sAsg lk [3] (eComp [8] (iRange (eCons (eVar 2) eNil)) (gdName 8) dYes (n1L opInt (qCons (qvOr (q2f opEq (q2f opIx (qVar 3) (qVar 8)) (qC (.int 1))) (q2f opIn (qVar 8) (qVar 7))) qNil))) (gdName 3)))))
def b__law_rounds (lk : Lks) : Ev → Option Out := (sSeq (sAsg lk [2] (e1L opLen (eCons (eCompQ [9] 0 (gdName 9) (tOfQ (qNot (tqf (q1L opIsi (qCons (qVar 9) (qCons (qC (.ty "int")) qNil)))))) (eVar 9)) eNil)) (gdName 2))
  (sSeq (sAsg lk [3, 4] (eTup (eCons (n2f opMul (qLst (qCons (qC (.int 0)) qNil)) (qVar 2)) (eCons (n2f opMul (qLst (qCons (qC .non) qNil)) (qVar 2)) eNil))) (gdTup 2 (gdCons (gdName 3) (gdCons (gdName 4) gdNil))))
  (sSeq (sFor lk [5] (iRange (eCons (n2f opAdd (qVar 2) (qC (.int 1))) eNil)) (gdName 5) (l__law_rounds_2 lk))
  (sRet (eTup (eCons (n1L opTuple (qCons (qVar 3) qNil)) (eCons (n1L opTuple (qCons (qVar 4) qNil)) eNil)))))))
abbrev g__law_rounds : Fs := runD 10 2 b__law_rounds
theorem ok__law_rounds {P : Program} {w : World} {K : PySem.W.Frag} {mg : Str → Option Value} {base : Heap} (nb : NoB K mg) (T : Top K mg "_law_rounds" s__law_rounds ["line", "sizes"]) (C__law_distances : Ca P w K mg base 1 "_law_distances" ["line", "sizes", "lengths"] g__law_distances) : Ca P w K mg base 2 "_law_rounds" ["line", "sizes"] g__law_rounds :=
  ca_of (k := 1) T sc__law_rounds fun lk => (sd_cons (sd_set (i := 2) sc__law_rounds.nd (by rfl) (.inl (by kernel_rfl)) (pd_callB cy_len ok_len (by kernel_rfl) nb.b_len bb_len (da_cons (pd_compQ (own := [("item", 9)]) (ts := [9]) (j := 0) sc__law_rounds.nd (by rfl) (.inl (by kernel_rfl)) (blk_mk (by kernel_rfl)) (gd_name (i := 9) sc__law_rounds.nd (by rfl) (.inl (by kernel_rfl)) (hf := .inr (by kernel_rfl))) (ts_one (td_of (tq_not (tq_val (pq_callB cy_isi ok_isi (by kernel_rfl) nb.b_isinstance bb_isinstance (qa_cons (pq_var (i := 9) (by rfl) (.inl (by kernel_rfl))) (qa_cons (pq_ty (T := "int") (by kernel_rfl) nb.b_int bb_int) qa_nil))))))) (pd_var (i := 9) (by rfl) (.inl (by kernel_rfl))) (by decide) (by decide) (by decide)) da_nil)) (hf := .inl rfl))
    (sd_cons (sd_asg (ts := [3, 4]) (pd_tup (da_cons (pn_bin oy_mul ok_mul (pq_lst (qa_cons pq_int qa_nil)) (pq_var (i := 2) (by rfl) (.inl (by kernel_rfl)))) (da_cons (pn_bin oy_mul ok_mul (pq_lst (qa_cons pq_non qa_nil)) (pq_var (i := 2) (by rfl) (.inl (by kernel_rfl)))) da_nil))) (gd_tup (gds_cons (gd_name (i := 3) sc__law_rounds.nd (by rfl) (.inr (by kernel_rfl)) (hf := .inl rfl)) (gds_cons (gd_name (i := 4) sc__law_rounds.nd (by rfl) (.inl (by kernel_rfl)) (hf := .inl rfl)) gds_nil))) (hw := fun X h => (sw_scope h).trans (by kernel_rfl)))
    (sd_cons (sd_for (ts := [5]) (id_range1 (by kernel_rfl) nb.b_range (da_cons (pn_bin oy_add ok_add (pq_var (i := 2) (by rfl) (.inl (by kernel_rfl))) pq_int) da_nil) (len_eCons len_eNil)) (gd_name (i := 5) sc__law_rounds.nd (by rfl) (.inl (by kernel_rfl)) (hf := .inl rfl)) (sd_cons (sd_set (i := 6) sc__law_rounds.nd (by rfl) (.inr (by kernel_rfl)) (pd_callC (C__law_distances.mono (Nat.le_of_ble_eq_true rfl)) (by kernel_rfl) (px_slot (i := 0) (by rfl) (.inl (by kernel_rfl)) (px_slot (i := 1) (by rfl) (.inr (.inl (by kernel_rfl))) (px_slot (i := 3) (by rfl) (.inr (.inl (by kernel_rfl))) px_nil)))) (hf := .inl rfl))
    (sd_cons (sd_set (i := 7) sc__law_rounds.nd (by rfl) (.inr (by kernel_rfl)) (pd_comp (own := [("k", 8)]) (ts := [8]) sc__law_rounds.nd (id_range1 (by kernel_rfl) nb.b_range (da_cons (pd_var (i := 2) (by rfl) (.inl (by kernel_rfl))) da_nil) (len_eCons len_eNil)) (blk_mk (by kernel_rfl)) (gd_name (i := 8) sc__law_rounds.nd (by rfl) (.inl (by kernel_rfl)) (hf := .inr (by kernel_rfl))) (ts_one (td_of (tq_w (wq_and (tq_cmp oy_eq ok_eq (pq_ix (pq_var (i := 3) (by rfl) (.inr (.inl (by kernel_rfl)))) (pq_var (i := 8) (by rfl) (.inl (by kernel_rfl)))) pq_int (nomark _)) (wq_and1 (tq_cmp oy_gt ok_gt (pq_callB cy_abs ok_abs (by kernel_rfl) nb.b_abs bb_abs (qa_cons (pq_ix (pq_var (i := 6) (by rfl) (.inr (.inl (by kernel_rfl)))) (pq_var (i := 8) (by rfl) (.inl (by kernel_rfl)))) qa_nil)) (pq_ix (pq_var (i := 1) (by rfl) (.inr (.inl (by kernel_rfl)))) pq_int) (nomark _))))))) (pd_var (i := 8) (by rfl) (.inl (by kernel_rfl))) (by decide) (by decide)) (hs := fun X h => (swl_scope h).trans (by kernel_rfl)) (hf := .inl rfl))
    (sd_cons (sd_forQ (i := 7) (ts := [8]) (by rfl) (.inr (.inl (by kernel_rfl))) (gd_name (i := 8) sc__law_rounds.nd (by rfl) (.inl (by kernel_rfl)) (hf := .inl rfl)) (fun lk => (sd_one (sd_asg (ts := []) (pd_tup (da_cons (pd_var (i := 5) (by rfl) (.inl (by kernel_rfl))) (da_cons (pd_of (pq_ix (pq_var (i := 6) (by rfl) (.inr (.inl (by kernel_rfl)))) (pq_var (i := 8) (by rfl) (.inl (by kernel_rfl))))) da_nil))) (gd_sub (i := 4) (by rfl) (.inl (by kernel_rfl)) (pq_var (i := 8) (by rfl) (.inl (by kernel_rfl))))))))
    (sd_one (sd_set (i := 3) sc__law_rounds.nd (by rfl) (.inr (by kernel_rfl)) (pd_comp (own := [("k", 8)]) (ts := [8]) sc__law_rounds.nd (id_range1 (by kernel_rfl) nb.b_range (da_cons (pd_var (i := 2) (by rfl) (.inl (by kernel_rfl))) da_nil) (len_eCons len_eNil)) (blk_mk (by kernel_rfl)) (gd_name (i := 8) sc__law_rounds.nd (by rfl) (.inl (by kernel_rfl)) (hf := .inr (by kernel_rfl))) ts_nil (pn_callT cy_int ok_int (by kernel_rfl) nb.b_int bb_int (qa_cons (pq_or (pq_cmp oy_eq ok_eq (pq_ix (pq_var (i := 3) (by rfl) (.inr (.inl (by kernel_rfl)))) (pq_var (i := 8) (by rfl) (.inl (by kernel_rfl)))) pq_int (nomark _)) (pq_one (pq_cmp oy_in ok_in (pq_var (i := 8) (by rfl) (.inl (by kernel_rfl))) (pq_var (i := 7) (by rfl) (.inr (.inl (by kernel_rfl)))) (by with_unfolding_all rfl)))) qa_nil)) (by decide) (by decide)) (hs := fun X h => (swl_scope h).trans (by kernel_rfl)) (hf := .inl rfl)))))))
    (sd_one (sd_ret (pd_tup (da_cons (pn_callT cy_tuple ok_tuple (by kernel_rfl) nb.b_tuple bb_tuple (qa_cons (pq_var (i := 3) (by rfl) (.inr (.inl (by kernel_rfl)))) qa_nil)) (da_cons (pn_callT cy_tuple ok_tuple (by kernel_rfl) nb.b_tuple bb_tuple (qa_cons (pq_var (i := 4) (by rfl) (.inl (by kernel_rfl))) qa_nil)) da_nil))))))))
/-! _law_take -/
abbrev s__law_take : Stmt := topS 14
theorem sc__law_take : FnScope ["bag", "many", "cell", "stirred", "value", "begin", "second"] ["bag", "many"] (defScope s__law_take) := ⟨rfl, rfl, rfl, by decide +kernel, rfl, by decide +kernel, by decide +kernel⟩
def b__law_take (lk : Lks) : Ev → Option Out := (sSeq (sIf (tOfQ (tqf (q2f opEq (q2f opIx (qVar 0) (qC (.int 0))) (qC (.int 0))))) (sSeq (sAsg lk [2] (eOf (q2f opIx (q2f opAdd (qSl (q2f opIx (qVar 0) (qC (.int 3))) (qPart (q2f opIx (qVar 0) (qC (.int 2)))) qNo) (qLst (qCons (qC (.int 0)) qNil))) (qC (.int 0)))) (gdName 2))
  (sSeq (sAugIx 0 opIAdd (qC (.int 2)) (qC (.int 1)))
  (sSeq (sIf (tOfQ (tqf (q2f opGe (qVar 2) (q2f opPow (qC (.int 10)) (qC (.int 18)))))) (sAsg lk [] (eVar 2) (gdSub 0 (qC (.int 0)))) sNil)
  (sSeq (sAsg lk [3] (n2f opAdd (q2f opAdd (q2f opMul (q2f opIx (qVar 0) (qC (.int 1))) (qC (.int 48271))) (q2f opMod (q1L opInt (qCons (qVar 2) qNil)) (qC (.int 2147483647)))) (q2f opMul (qC (.int 7919)) (q2f opIx (qVar 0) (qC (.int 2))))) (gdName 3))
  (sAsg lk [] (n2f opMod (q1L opInt (qCons (qVar 3) qNil)) (qC (.int 2147483647))) (gdSub 0 (qC (.int 1)))))))) sNil)
  (sSeq (sIf (tOfQ (tqf (q2f opGt (q2f opIx (qVar 0) (qC (.int 0))) (qC (.int 0))))) (sSeq (sAsg lk [4] (n2f opMod (q1L opInt (qCons (q2f opIx (qVar 0) (qC (.int 0))) qNil)) (qVar 1)) (gdName 4))
  (sSeq (sAsg lk [] (n2f opFDiv (q1L opInt (qCons (q2f opIx (qVar 0) (qC (.int 0))) qNil)) (qVar 1)) (gdSub 0 (qC (.int 0))))
  (sRetV lk 4))) sNil)
  (sSeq (sAsg lk [5] (n2f opMod (q1L opInt (qCons (q2f opMul (q2f opAdd (q2f opIx (qVar 0) (qC (.int 1))) (qC (.int 1))) (qC (.int 39373))) qNil)) (qC (.int 1000000007))) (gdName 5))
  (sSeq (sAsg lk [6] (n2f opMod (q1L opInt (qCons (q2f opMul (q2f opMod (q1L opInt (qCons (q2f opMul (qVar 5) (qVar 5)) qNil)) (qC (.int 998244353))) (qC (.int 30011))) qNil)) (qC (.int 998244353))) (gdName 6))
  (sRet (n2f opMod (q1L opInt (qCons (q2f opFDiv (qVar 6) (qC (.int 7))) qNil)) (qVar 1)))))))
abbrev g__law_take : Fs := runD 7 2 b__law_take
theorem ok__law_take {P : Program} {w : World} {K : PySem.W.Frag} {mg : Str → Option Value} {base : Heap} (nb : NoB K mg) (T : Top K mg "_law_take" s__law_take ["bag", "many"])  : Ca P w K mg base 1 "_law_take" ["bag", "many"] g__law_take :=
  ca_of (k := 0) T sc__law_take fun lk => (sd_cons (sd_if (td_of (tq_cmp oy_eq ok_eq (pq_ix (pq_var (i := 0) (by rfl) (.inl (by kernel_rfl))) pq_int) pq_int (nomark _))) (sd_cons (sd_set (i := 2) sc__law_take.nd (by rfl) (.inl (by kernel_rfl)) (pd_of (pq_ix (pq_bin oy_add ok_add (pq_sl (pq_ix (pq_var (i := 0) (by rfl) (.inl (by kernel_rfl))) pq_int) (qo_some (pq_ix (pq_var (i := 0) (by rfl) (.inl (by kernel_rfl))) pq_int)) qo_none) (pq_lst (qa_cons pq_int qa_nil))) pq_int)) (hf := .inl rfl))
    (sd_cons (sd_augIx (i := 0) oy_iadd ok_iadd (by rfl) (.inl (by kernel_rfl)) pq_int pq_int)
    (sd_cons (sd_if (td_of (tq_cmp oy_ge ok_ge (pq_var (i := 2) (by rfl) (.inl (by kernel_rfl))) (pq_bin oy_pow ok_pow pq_int pq_int) (nomark _))) (sd_one (sd_asg (ts := []) (pd_var (i := 2) (by rfl) (.inl (by kernel_rfl))) (gd_sub (i := 0) (by rfl) (.inl (by kernel_rfl)) pq_int))) sd_nil)
    (sd_cons (sd_set (i := 3) sc__law_take.nd (by rfl) (.inl (by kernel_rfl)) (pn_bin oy_add ok_add (pq_bin oy_add ok_add (pq_bin oy_mul ok_mul (pq_ix (pq_var (i := 0) (by rfl) (.inl (by kernel_rfl))) pq_int) pq_int) (pq_bin oy_mod ok_mod (pq_callT cy_int ok_int (by kernel_rfl) nb.b_int bb_int (qa_cons (pq_var (i := 2) (by rfl) (.inl (by kernel_rfl))) qa_nil)) pq_int)) (pq_bin oy_mul ok_mul pq_int (pq_ix (pq_var (i := 0) (by rfl) (.inl (by kernel_rfl))) pq_int))) (hf := .inl rfl))
    (sd_one (sd_asg (ts := []) (pn_bin oy_mod ok_mod (pq_callT cy_int ok_int (by kernel_rfl) nb.b_int bb_int (qa_cons (pq_var (i := 3) (by rfl) (.inl (by kernel_rfl))) qa_nil)) pq_int) (gd_sub (i := 0) (by rfl) (.inl (by kernel_rfl)) pq_int))))))) sd_nil)
    (sd_cons (sd_if (td_of (tq_cmp oy_gt ok_gt (pq_ix (pq_var (i := 0) (by rfl) (.inl (by kernel_rfl))) pq_int) pq_int (nomark _))) (sd_cons (sd_set (i := 4) sc__law_take.nd (by rfl) (.inl (by kernel_rfl)) (pn_bin oy_mod ok_mod (pq_callT cy_int ok_int (by kernel_rfl) nb.b_int bb_int (qa_cons (pq_ix (pq_var (i := 0) (by rfl) (.inl (by kernel_rfl))) pq_int) qa_nil)) (pq_var (i := 1) (by rfl) (.inl (by kernel_rfl)))) (hf := .inl rfl))
    (sd_cons (sd_asg (ts := []) (pn_bin oy_fdiv ok_fdiv (pq_callT cy_int ok_int (by kernel_rfl) nb.b_int bb_int (qa_cons (pq_ix (pq_var (i := 0) (by rfl) (.inl (by kernel_rfl))) pq_int) qa_nil)) (pq_var (i := 1) (by rfl) (.inl (by kernel_rfl)))) (gd_sub (i := 0) (by rfl) (.inl (by kernel_rfl)) pq_int))
    (sd_one (sd_retV (i := 4) (by rfl) (.inl (by kernel_rfl)))))) sd_nil)
    (sd_cons (sd_set (i := 5) sc__law_take.nd (by rfl) (.inl (by kernel_rfl)) (pn_bin oy_mod ok_mod (pq_callT cy_int ok_int (by kernel_rfl) nb.b_int bb_int (qa_cons (pq_bin oy_mul ok_mul (pq_bin oy_add ok_add (pq_ix (pq_var (i := 0) (by rfl) (.inl (by kernel_rfl))) pq_int) pq_int) pq_int) qa_nil)) pq_int) (hf := .inl rfl))
    (sd_cons (sd_set (i := 6) sc__law_take.nd (by rfl) (.inl (by kernel_rfl)) (pn_bin oy_mod ok_mod (pq_callT cy_int ok_int (by kernel_rfl) nb.b_int bb_int (qa_cons (pq_bin oy_mul ok_mul (pq_bin oy_mod ok_mod (pq_callT cy_int ok_int (by kernel_rfl) nb.b_int bb_int (qa_cons (pq_bin oy_mul ok_mul (pq_var (i := 5) (by rfl) (.inl (by kernel_rfl))) (pq_var (i := 5) (by rfl) (.inl (by kernel_rfl)))) qa_nil)) pq_int) pq_int) qa_nil)) pq_int) (hf := .inl rfl))
    (sd_one (sd_ret (pn_bin oy_mod ok_mod (pq_callT cy_int ok_int (by kernel_rfl) nb.b_int bb_int (qa_cons (pq_bin oy_fdiv ok_fdiv (pq_var (i := 6) (by rfl) (.inl (by kernel_rfl))) pq_int) qa_nil)) (pq_var (i := 1) (by rfl) (.inl (by kernel_rfl))))))))))
/-! _law_some -/
abbrev s__law_some : Stmt := topS 15
theorem sc__law_some : FnScope ["bag", "things"] ["bag", "things"] (defScope s__law_some) := ⟨rfl, rfl, rfl, by decide +kernel, rfl, by decide +kernel, by decide +kernel⟩
def b__law_some (lk : Lks) : Ev → Option Out := (sRet (eIxN 1 (eCall g__law_take (xSlot 0 (xVal (n1L opLen (qCons (qVar 1) qNil)) xNil)))))
abbrev g__law_some : Fs := runD 2 2 b__law_some
theorem ok__law_some {P : Program} {w : World} {K : PySem.W.Frag} {mg : Str → Option Value} {base : Heap} (nb : NoB K mg) (T : Top K mg "_law_some" s__law_some ["bag", "things"]) (C__law_take : Ca P w K mg base 1 "_law_take" ["bag", "many"] g__law_take) : Ca P w K mg base 2 "_law_some" ["bag", "things"] g__law_some :=
  ca_of (k := 1) T sc__law_some fun lk => (sd_one (sd_ret (pd_ixN (i := 1) (by rfl) (.inl (by kernel_rfl)) (pd_callC (C__law_take.mono (Nat.le_of_ble_eq_true rfl)) (by kernel_rfl) (px_slot (i := 0) (by rfl) (.inl (by kernel_rfl)) (px_val (pn_callB cy_len ok_len (by kernel_rfl) nb.b_len bb_len (qa_cons (pq_var (i := 1) (by rfl) (.inl (by kernel_rfl))) qa_nil)) px_nil))))))
/-! _law_line -/
abbrev s__law_line : Stmt := topS 18
theorem sc__law_line : FnScope ["bag", "many", "k"] ["bag"] (defScope s__law_line) := ⟨rfl, rfl, rfl, by decide +kernel, rfl, by decide +kernel, by decide +kernel⟩
def b__law_line (lk : Lks) : Ev → Option Out := (sSeq (sAsg lk [1] (e2f opAdd (eOf (qC (.int 1))) (eCall g__law_take (xSlot 0 (xVal (eOf (qC (.int 9))) xNil)))) (gdName 1))
  (sRet (e1L opTuple (eCons (eComp [2] (iRange (eCons (eVar 1) eNil)) (gdName 2) dYes (eCall g__law_some (xSlot 0 (xVal (eLst (eCons (eCall g__law_take (xSlot 0 (xVal (eOf (qC (.int 4))) xNil))) (eCons (eTup (eCons (eOf (qC (.str "to"))) (eCons (eCall g__law_take (xSlot 0 (xVal (n2f opAdd (qVar 1) (qC (.int 1))) xNil))) eNil))) (eCons (eTup (eCons (eOf (qC (.str "to"))) (eCons (eCall g__law_take (xSlot 0 (xVal (n2f opAdd (qVar 1) (qC (.int 1))) xNil))) eNil))) eNil)))) xNil)))) eNil))))
abbrev g__law_line : Fs := runD 3 1 b__law_line
theorem ok__law_line {P : Program} {w : World} {K : PySem.W.Frag} {mg : Str → Option Value} {base : Heap} (nb : NoB K mg) (T : Top K mg "_law_line" s__law_line ["bag"]) (C__law_take : Ca P w K mg base 1 "_law_take" ["bag", "many"] g__law_take) (C__law_some : Ca P w K mg base 2 "_law_some" ["bag", "things"] g__law_some) : Ca P w K mg base 3 "_law_line" ["bag"] g__law_line :=
  ca_of (k := 2) T sc__law_line fun lk => (sd_cons (sd_set (i := 1) sc__law_line.nd (by rfl) (.inr (by kernel_rfl)) (pd_bin oy_add ok_add (pd_of pq_int) (pd_callC (C__law_take.mono (Nat.le_of_ble_eq_true rfl)) (by kernel_rfl) (px_slot (i := 0) (by rfl) (.inr (.inl (by kernel_rfl))) (px_val (pd_of pq_int) px_nil)))) (hf := .inl rfl))
    (sd_one (sd_ret (pd_callT cy_tuple ok_tuple (by kernel_rfl) nb.b_tuple bb_tuple (da_cons (pd_comp (own := [("k", 2)]) (ts := [2]) sc__law_line.nd (id_range1 (by kernel_rfl) nb.b_range (da_cons (pd_var (i := 1) (by rfl) (.inr (.inl (by kernel_rfl)))) da_nil) (len_eCons len_eNil)) (blk_mk (by kernel_rfl)) (gd_name (i := 2) sc__law_line.nd (by rfl) (.inl (by kernel_rfl)) (hf := .inr (by kernel_rfl))) ts_nil (pd_callC (C__law_some.mono (Nat.le_of_ble_eq_true rfl)) (by kernel_rfl) (px_slot (i := 0) (by rfl) (.inr (.inl (by kernel_rfl))) (px_val (pd_lst (da_cons (pd_callC (C__law_take.mono (Nat.le_of_ble_eq_true rfl)) (by kernel_rfl) (px_slot (i := 0) (by rfl) (.inr (.inl (by kernel_rfl))) (px_val (pd_of pq_int) px_nil))) (da_cons (pd_tup (da_cons (pd_of pq_str) (da_cons (pd_callC (C__law_take.mono (Nat.le_of_ble_eq_true rfl)) (by kernel_rfl) (px_slot (i := 0) (by rfl) (.inr (.inl (by kernel_rfl))) (px_val (pn_bin oy_add ok_add (pq_var (i := 1) (by rfl) (.inr (.inl (by kernel_rfl)))) pq_int) px_nil))) da_nil))) (da_cons (pd_tup (da_cons (pd_of pq_str) (da_cons (pd_callC (C__law_take.mono (Nat.le_of_ble_eq_true rfl)) (by kernel_rfl) (px_slot (i := 0) (by rfl) (.inr (.inl (by kernel_rfl))) (px_val (pn_bin oy_add ok_add (pq_var (i := 1) (by rfl) (.inr (.inl (by kernel_rfl)))) pq_int) px_nil))) da_nil))) da_nil)))) px_nil))) (by decide) (by decide)) da_nil)))))
/-! _law_all_bits -/
abbrev s__law_all_bits : Stmt := topS 23
theorem sc__law_all_bits : FnScope ["many", "found", "lap", "row"] ["many"] (defScope s__law_all_bits) := ⟨rfl, rfl, rfl, by decide +kernel, rfl, by decide +kernel, by decide +kernel⟩
def l__law_all_bits_1 (lk : Lks) : Ev → Option Out := (sAsg lk [1] (e2f opAdd (eCompQ [3] 1 (gdName 3) dYes (n2f opAdd (qVar 3) (qTup (qCons (qC (.int 0)) qNil)))) (eCompQ [3] 1 (gdName 3) dYes (n2f opAdd (qVar 3) (qTup (qCons (qC (.int 1)) qNil))))) (gdName 1))
def b__law_all_bits (lk : Lks) : Ev → Option Out := (sSeq (sAsg lk [1] (eLst (eCons (eTup eNil) eNil)) (gdName 1))
  (sSeq (sFor lk [2] (iRange (eCons (eVar 0) eNil)) (gdName 2) (l__law_all_bits_1 lk))
  (sRetV lk 1)))
abbrev g__law_all_bits : Fs := runD 4 1 b__law_all_bits
theorem ok__law_all_bits {P : Program} {w : World} {K : PySem.W.Frag} {mg : Str → Option Value} {base : Heap} (nb : NoB K mg) (T : Top K mg "_law_all_bits" s__law_all_bits ["many"])  : Ca P w K mg base 1 "_law_all_bits" ["many"] g__law_all_bits :=
  ca_of (k := 0) T sc__law_all_bits fun lk => (sd_cons (sd_set (i := 1) sc__law_all_bits.nd (by rfl) (.inl (by kernel_rfl)) (pd_lst (da_cons (pd_tup da_nil) da_nil)) (hf := .inl rfl))
    (sd_cons (sd_for (ts := [2]) (id_range1 (by kernel_rfl) nb.b_range (da_cons (pd_var (i := 0) (by rfl) (.inl (by kernel_rfl))) da_nil) (len_eCons len_eNil)) (gd_name (i := 2) sc__law_all_bits.nd (by rfl) (.inl (by kernel_rfl)) (hf := .inl rfl)) (sd_one (sd_set (i := 1) sc__law_all_bits.nd (by rfl) (.inl (by kernel_rfl)) (pd_bin oy_add ok_add (pd_compQ (own := [("row", 3)]) (ts := [3]) (j := 1) sc__law_all_bits.nd (by rfl) (.inl (by kernel_rfl)) (blk_mk (by kernel_rfl)) (gd_name (i := 3) sc__law_all_bits.nd (by rfl) (.inl (by kernel_rfl)) (hf := .inr (by kernel_rfl))) ts_nil (pn_bin oy_add ok_add (pq_var (i := 3) (by rfl) (.inl (by kernel_rfl))) (pq_tup (qa_cons pq_int qa_nil))) (by decide) (by decide) (by decide)) (pd_compQ (own := [("row", 3)]) (ts := [3]) (j := 1) sc__law_all_bits.nd (by rfl) (.inl (by kernel_rfl)) (blk_mk (by kernel_rfl)) (gd_name (i := 3) sc__law_all_bits.nd (by rfl) (.inl (by kernel_rfl)) (hf := .inr (by kernel_rfl))) ts_nil (pn_bin oy_add ok_add (pq_var (i := 3) (by rfl) (.inl (by kernel_rfl))) (pq_tup (qa_cons pq_int qa_nil))) (by decide) (by decide) (by decide))) (hf := .inl rfl))))
    (sd_one (sd_retV (i := 1) (by rfl) (.inl (by kernel_rfl))))))
/-! is_integer -/
abbrev s_is_integer : Stmt := topS 1
theorem sc_is_integer : FnScope ["thing"] ["thing"] (defScope s_is_integer) := ⟨rfl, rfl, rfl, by decide +kernel, rfl, by decide +kernel, by decide +kernel⟩
def b_is_integer (lk : Lks) : Ev → Option Out := (sRet (eOf (qvAnd (q1L opIsi (qCons (qVar 0) (qCons (qC (.ty "int")) qNil))) (qvNot (q1L opIsi (qCons (qVar 0) (qCons (qC (.ty "bool")) qNil)))))))
abbrev g_is_integer : Fs := runD 1 1 b_is_integer
theorem ok_is_integer {P : Program} {w : World} {K : PySem.W.Frag} {mg : Str → Option Value} {base : Heap} (nb : NoB K mg) (T : Top K mg "is_integer" s_is_integer ["thing"])  : Ca P w K mg base 1 "is_integer" ["thing"] g_is_integer :=
  ca_of (k := 0) T sc_is_integer fun lk => (sd_one (sd_ret (pd_of (pq_and (pq_callB cy_isi ok_isi (by kernel_rfl) nb.b_isinstance bb_isinstance (qa_cons (pq_var (i := 0) (by rfl) (.inl (by kernel_rfl))) (qa_cons (pq_ty (T := "int") (by kernel_rfl) nb.b_int bb_int) qa_nil))) (pq_one (pq_not (pq_callB cy_isi ok_isi (by kernel_rfl) nb.b_isinstance bb_isinstance (qa_cons (pq_var (i := 0) (by rfl) (.inl (by kernel_rfl))) (qa_cons (pq_ty (T := "bool") (by kernel_rfl) nb.b_bool bb_bool) qa_nil)))))))))
/-! targets -/
abbrev s_targets : Stmt := topS 3
theorem sc_targets : FnScope ["line", "at", "item"] ["line"] (defScope s_targets) := ⟨rfl, rfl, rfl, by decide +kernel, rfl, by decide +kernel, by decide +kernel⟩
def b_targets (lk : Lks) : Ev → Option Out := (sRet (eComp [1, 2] (iEnum (eCons (eVar 0) eNil)) (gdTup 2 (gdCons (gdName 1) (gdCons (gdName 2) gdNil))) (dNot (tdf (eCall g_is_integer (xSlot 2 xNil)))) (eTup (eCons (eVar 1) (eCons (eOf (q2f opIx (qVar 2) (qC (.int 1)))) eNil)))))
abbrev g_targets : Fs := runD 3 1 b_targets
theorem ok_targets {P : Program} {w : World} {K : PySem.W.Frag} {mg : Str → Option Value} {base : Heap} (nb : NoB K mg) (T : Top K mg "targets" s_targets ["line"]) (C_is_integer : Ca P w K mg base 1 "is_integer" ["thing"] g_is_integer) : Ca P w K mg base 2 "targets" ["line"] g_targets :=
  ca_of (k := 1) T sc_targets fun lk => (sd_one (sd_ret (pd_comp (own := [("at", 1), ("item", 2)]) (ts := [1, 2]) sc_targets.nd (id_enum (by kernel_rfl) nb.b_enumerate (da_cons (pd_var (i := 0) (by rfl) (.inl (by kernel_rfl))) da_nil)) (blk_mk (by kernel_rfl)) (gd_tup (gds_cons (gd_name (i := 1) sc_targets.nd (by rfl) (.inl (by kernel_rfl)) (hf := .inr (by kernel_rfl))) (gds_cons (gd_name (i := 2) sc_targets.nd (by rfl) (.inl (by kernel_rfl)) (hf := .inr (by kernel_rfl))) gds_nil))) (ts_one (td_not (td_val (pd_callC (C_is_integer.mono (Nat.le_of_ble_eq_true rfl)) (by kernel_rfl) (px_slot (i := 2) (by rfl) (.inl (by kernel_rfl)) px_nil))))) (pd_tup (da_cons (pd_var (i := 1) (by rfl) (.inl (by kernel_rfl))) (da_cons (pd_of (pq_ix (pq_var (i := 2) (by rfl) (.inl (by kernel_rfl))) pq_int)) da_nil))) (by decide) (by decide))))
/-! begins -/
abbrev s_begins : Stmt := topS 4
theorem sc_begins : FnScope ["line", "sizes", "lengths", "found", "left", "item", "words"] ["line", "sizes", "lengths"] (defScope s_begins) := ⟨rfl, rfl, rfl, by decide +kernel, rfl, by decide +kernel, by decide +kernel⟩
def l_begins_1 (lk : Lks) : Ev → Option Out := (sSeq (sAsg lk [6] (eIf (tdf (eCall g_is_integer (xSlot 5 xNil))) (eVar 5) (eIxN 1 (eMt 4 mPopAt (eCons (eOf (qC (.int 0))) eNil)))) (gdName 6))
  (sExpr (eMt 3 mAppend (eCons (n2f opAdd (q2f opIx (qVar 3) (q1f opNeg (qC (.int 1)))) (qVar 6)) eNil))))
def b_begins (lk : Lks) : Ev → Option Out := (sSeq (sPar lk 3 4 (eCons (eLst (eCons (eOf (qC (.int 0))) eNil)) (eCons (n1L opList (qCons (qVar 2) qNil)) eNil)))
  (sSeq (sForQ lk 0 [5] (gdName 5) l_begins_1)
  (sRetV lk 3)))
abbrev g_begins : Fs := runD 7 3 b_begins
theorem ok_begins {P : Program} {w : World} {K : PySem.W.Frag} {mg : Str → Option Value} {base : Heap} (nb : NoB K mg) (T : Top K mg "begins" s_begins ["line", "sizes", "lengths"]) (C_is_integer : Ca P w K mg base 1 "is_integer" ["thing"] g_is_integer) : Ca P w K mg base 2 "begins" ["line", "sizes", "lengths"] g_begins :=
  ca_of (k := 1) T sc_begins fun lk => (sd_cons (sd_par (i := 3) (j := 4) sc_begins.nd (by rfl) (by rfl) (by decide) (by kernel_rfl) (by kernel_rfl) (da_cons (pd_lst (da_cons (pd_of pq_int) da_nil)) (da_cons (pn_callT cy_list ok_list (by kernel_rfl) nb.b_list bb_list (qa_cons (pq_var (i := 2) (by rfl) (.inl (by kernel_rfl))) qa_nil)) da_nil)) (fun X h => (sw_scope h).trans (by kernel_rfl)))
    (sd_cons (sd_forQ (i := 0) (ts := [5]) (by rfl) (.inl (by kernel_rfl)) (gd_name (i := 5) sc_begins.nd (by rfl) (.inl (by kernel_rfl)) (hf := .inl rfl)) (fun lk => (sd_cons (sd_set (i := 6) sc_begins.nd (by rfl) (.inl (by kernel_rfl)) (pd_if (td_val (pd_callC (C_is_integer.mono (Nat.le_of_ble_eq_true rfl)) (by kernel_rfl) (px_slot (i := 5) (by rfl) (.inl (by kernel_rfl)) px_nil))) (pd_var (i := 5) (by rfl) (.inl (by kernel_rfl))) (pd_ixN (i := 1) (by rfl) (.inl (by kernel_rfl)) (pd_mt1 (i := 4) PySem.F.slot_list_pop PySem.F.type_list_pop my_popAt ok_popAt (by rfl) (.inl (by kernel_rfl)) (da_cons (pd_of pq_int) da_nil)))) (hf := .inl rfl))
    (sd_one (sd_expr (pd_mt1 (i := 3) PySem.F.slot_list_append PySem.F.type_list_append my_append ok_append (by rfl) (.inl (by kernel_rfl)) (da_cons (pn_bin oy_add ok_add (pq_ix (pq_var (i := 3) (by rfl) (.inl (by kernel_rfl))) (pq_un uy_neg ok_neg pq_int)) (pq_var (i := 6) (by rfl) (.inl (by kernel_rfl)))) da_nil)))))))
    (sd_one (sd_retV (i := 3) (by rfl) (.inl (by kernel_rfl))))))
/-! distances -/
abbrev s_distances : Stmt := topS 5
theorem sc_distances : FnScope ["line", "sizes", "lengths", "places", "at", "target"] ["line", "sizes", "lengths"] (defScope s_distances) := ⟨rfl, rfl, rfl, by decide +kernel, rfl, by decide +kernel, by decide +kernel⟩
def b_distances (lk : Lks) : Ev → Option Out := (sSeq (sAsg lk [3] (eCall g_begins (xSlot 0 (xSlot 1 (xSlot 2 xNil)))) (gdName 3))
  (sRet (eComp [4, 5] (iSeq (eCall g_targets (xSlot 0 xNil))) (gdTup 2 (gdCons (gdName 4) (gdCons (gdName 5) gdNil))) dYes (n2f opSub (q2f opIx (qVar 3) (qVar 5)) (q2f opIx (qVar 3) (q2f opAdd (qVar 4) (qC (.int 1))))))))
abbrev g_distances : Fs := runD 6 3 b_distances
theorem ok_distances {P : Program} {w : World} {K : PySem.W.Frag} {mg : Str → Option Value} {base : Heap} (nb : NoB K mg) (T : Top K mg "distances" s_distances ["line", "sizes", "lengths"]) (C_begins : Ca P w K mg base 2 "begins" ["line", "sizes", "lengths"] g_begins) (C_targets : Ca P w K mg base 2 "targets" ["line"] g_targets) : Ca P w K mg base 3 "distances" ["line", "sizes", "lengths"] g_distances :=
  ca_of (k := 2) T sc_distances fun lk => (sd_cons (sd_set (i := 3) sc_distances.nd (by rfl) (.inr (by kernel_rfl)) (pd_callC (C_begins.mono (Nat.le_of_ble_eq_true rfl)) (by kernel_rfl) (px_slot (i := 0) (by rfl) (.inl (by kernel_rfl)) (px_slot (i := 1) (by rfl) (.inl (by kernel_rfl)) (px_slot (i := 2) (by rfl) (.inl (by kernel_rfl)) px_nil)))) (hf := .inl rfl))
    (sd_one (sd_ret (pd_comp (own := [("at", 4), ("target", 5)]) (ts := [4, 5]) sc_distances.nd (id_seq (pd_callC (C_targets.mono (Nat.le_of_ble_eq_true rfl)) (by kernel_rfl) (px_slot (i := 0) (by rfl) (.inl (by kernel_rfl)) px_nil))) (blk_mk (by kernel_rfl)) (gd_tup (gds_cons (gd_name (i := 4) sc_distances.nd (by rfl) (.inl (by kernel_rfl)) (hf := .inr (by kernel_rfl))) (gds_cons (gd_name (i := 5) sc_distances.nd (by rfl) (.inl (by kernel_rfl)) (hf := .inr (by kernel_rfl))) gds_nil))) ts_nil (pn_bin oy_sub ok_sub (pq_ix (pq_var (i := 3) (by rfl) (.inr (.inl (by kernel_rfl)))) (pq_var (i := 5) (by rfl) (.inl (by kernel_rfl)))) (pq_ix (pq_var (i := 3) (by rfl) (.inr (.inl (by kernel_rfl)))) (pq_bin oy_add ok_add (pq_var (i := 4) (by rfl) (.inl (by kernel_rfl))) pq_int))) (by decide) (by decide)))))
/-! reasons -/
abbrev s_reasons : Stmt := topS 8
theorem sc_reasons : FnScope ["line", "sizes", "told", "turn", "is_more", "lengths", "far", "at", "distance", "one"] ["line", "sizes"] (defScope s_reasons) := ⟨rfl, rfl, rfl, by decide +kernel, rfl, by decide +kernel, by decide +kernel⟩
def l_reasons_1 (lk : Lks) : Ev → Option Out := (sIf (tOfQ (qAnd (tqf (q2f opIs (q2f opIx (qVar 2) (qVar 7)) (qC .non))) (tqf (q2f opGt (q1L opAbs (qCons (qVar 8) qNil)) (q2f opIx (qVar 1) (qC (.int 2))))))) (sAsg lk [4] (eTup (eCons (eTup (eCons (eVar 3) (eCons (eVar 8) eNil))) (eCons (eOf (qC (.bl true))) eNil))) (gdTup 2 (gdCons (gdSub 2 (qVar 7)) (gdCons (gdName 4) gdNil)))) sNil)
def l_reasons_2 (lk : Lks) : Ev → Option Out := (sSeq (sAsg lk [5] (eCompQ [9] 2 (gdName 9) dYes (n1L opInt (qCons (q2f opIsNot (qVar 9) (qC .non)) qNil))) (gdName 5))
  (sSeq (sPar lk 6 4 (eCons (eCall g_distances (xSlot 0 (xSlot 1 (xSlot 5 xNil)))) (eCons (eOf (qC (.bl false))) eNil)))
  (sSeq (sFor lk [7, 8] (iEnum (eCons (eVar 6) eNil)) (gdTup 2 (gdCons (gdName 7) (gdCons (gdName 8) gdNil))) (l_reasons_1 lk))
  (sAug lk 3 opIAdd (eOf (qC (.int 1)))))))
def b_reasons (lk : Lks) : Ev → Option Out := (sSeq (sAsg lk [2] (e2f opMul (eLst (eCons (eOf (qC .non)) eNil)) (e1L opLen (eCons (eCall g_targets (xSlot 0 xNil)) eNil))) (gdName 2))
  (sSeq (sAsg lk [3, 4] (eTup (eCons (eOf (qC (.int 0))) (eCons (eOf (qC (.bl true))) eNil))) (gdTup 2 (gdCons (gdName 3) (gdCons (gdName 4) gdNil))))
  (sSeq (sWhile (tOfQ (tqf (qVar 4))) (l_reasons_2 lk))
  (sRet (n1L opTuple (qCons (qVar 2) qNil))))))
abbrev g_reasons : Fs := runD 10 2 b_reasons
theorem ok_reasons {P : Program} {w : World} {K : PySem.W.Frag} {mg : Str → Option Value} {base : Heap} (nb : NoB K mg) (T : Top K mg "reasons" s_reasons ["line", "sizes"]) (C_targets : Ca P w K mg base 2 "targets" ["line"] g_targets) (C_distances : Ca P w K mg base 3 "distances" ["line", "sizes", "lengths"] g_distances) : Ca P w K mg base 4 "reasons" ["line", "sizes"] g_reasons :=
  ca_of (k := 3) T sc_reasons fun lk => (sd_cons (sd_set (i := 2) sc_reasons.nd (by rfl) (.inl (by kernel_rfl)) (pd_bin oy_mul ok_mul (pd_lst (da_cons (pd_of pq_non) da_nil)) (pd_callB cy_len ok_len (by kernel_rfl) nb.b_len bb_len (da_cons (pd_callC (C_targets.mono (Nat.le_of_ble_eq_true rfl)) (by kernel_rfl) (px_slot (i := 0) (by rfl) (.inl (by kernel_rfl)) px_nil)) da_nil))) (hf := .inl rfl))
    (sd_cons (sd_asg (ts := [3, 4]) (pd_tup (da_cons (pd_of pq_int) (da_cons (pd_of pq_bl) da_nil))) (gd_tup (gds_cons (gd_name (i := 3) sc_reasons.nd (by rfl) (.inl (by kernel_rfl)) (hf := .inl rfl)) (gds_cons (gd_name (i := 4) sc_reasons.nd (by rfl) (.inl (by kernel_rfl)) (hf := .inl rfl)) gds_nil))) (hw := fun X h => (sw_scope h).trans (by kernel_rfl)))
    (sd_cons (sd_while (td_of (tq_val (pq_var (i := 4) (by rfl) (.inl (by kernel_rfl))))) (sd_cons (sd_setCompQ (i := 5) (own := [("one", 9)]) (ts := [9]) (j := 2) sc_reasons.nd (by rfl) (by kernel_rfl) (by rfl) (by rfl) (by kernel_rfl) (by rfl) (.inl (by kernel_rfl)) (blk_mk (by kernel_rfl)) (gd_name (i := 9) sc_reasons.nd (by rfl) (.inl (by kernel_rfl)) (hf := .inr (by kernel_rfl))) ts_nil (pn_callT cy_int ok_int (by kernel_rfl) nb.b_int bb_int (qa_cons (pq_cmp oy_isnot ok_isnot (pq_var (i := 9) (by rfl) (.inl (by kernel_rfl))) pq_non (nomark _)) qa_nil)) (by decide) (by decide) (by decide))
    (sd_cons (sd_par (i := 6) (j := 4) sc_reasons.nd (by rfl) (by rfl) (by decide) (by kernel_rfl) (by kernel_rfl) (da_cons (pd_callC (C_distances.mono (Nat.le_of_ble_eq_true rfl)) (by kernel_rfl) (px_slot (i := 0) (by rfl) (.inl (by kernel_rfl)) (px_slot (i := 1) (by rfl) (.inl (by kernel_rfl)) (px_slot (i := 5) (by rfl) (.inl (by kernel_rfl)) px_nil)))) (da_cons (pd_of pq_bl) da_nil)) (fun X h => (sw_scope h).trans (by kernel_rfl)))
    (sd_cons (sd_for (ts := [7, 8]) (id_enum (by kernel_rfl) nb.b_enumerate (da_cons (pd_var (i := 6) (by rfl) (.inl (by kernel_rfl))) da_nil)) (gd_tup (gds_cons (gd_name (i := 7) sc_reasons.nd (by rfl) (.inl (by kernel_rfl)) (hf := .inl rfl)) (gds_cons (gd_name (i := 8) sc_reasons.nd (by rfl) (.inl (by kernel_rfl)) (hf := .inl rfl)) gds_nil))) (sd_one (sd_if (td_of (tq_w (wq_and (tq_cmp oy_is ok_is (pq_ix (pq_var (i := 2) (by rfl) (.inl (by kernel_rfl))) (pq_var (i := 7) (by rfl) (.inl (by kernel_rfl)))) pq_non (nomark _)) (wq_and1 (tq_cmp oy_gt ok_gt (pq_callB cy_abs ok_abs (by kernel_rfl) nb.b_abs bb_abs (qa_cons (pq_var (i := 8) (by rfl) (.inl (by kernel_rfl))) qa_nil)) (pq_ix (pq_var (i := 1) (by rfl) (.inl (by kernel_rfl))) pq_int) (nomark _)))))) (sd_one (sd_asg (ts := [4]) (pd_tup (da_cons (pd_tup (da_cons (pd_var (i := 3) (by rfl) (.inl (by kernel_rfl))) (da_cons (pd_var (i := 8) (by rfl) (.inl (by kernel_rfl))) da_nil))) (da_cons (pd_of pq_bl) da_nil))) (gd_tup (gds_cons (gd_sub (i := 2) (by rfl) (.inl (by kernel_rfl)) (pq_var (i := 7) (by rfl) (.inl (by kernel_rfl)))) (gds_cons (gd_name (i := 4) sc_reasons.nd (by rfl) (.inl (by kernel_rfl)) (hf := .inl rfl)) gds_nil))) (hw := fun X h => (sw_scope h).trans (by kernel_rfl)))) sd_nil)))
    (sd_one (sd_aug (i := 3) oy_iadd ok_iadd sc_reasons.nd (by rfl) (.inl (by kernel_rfl)) (pd_of pq_int) (hf := .inl rfl)))))))
    (sd_one (sd_ret (pn_callT cy_tuple ok_tuple (by kernel_rfl) nb.b_tuple bb_tuple (qa_cons (pq_var (i := 2) (by rfl) (.inl (by kernel_rfl))) qa_nil)))))))
/-! least_lengths -/
abbrev s_least_lengths : Stmt := topS 9
theorem sc_least_lengths : FnScope ["line", "sizes", "one"] ["line", "sizes"] (defScope s_least_lengths) := ⟨rfl, rfl, rfl, by decide +kernel, rfl, by decide +kernel, by decide +kernel⟩
def b_least_lengths (lk : Lks) : Ev → Option Out := (sRet (e1L opTuple (eCons (eComp [2] (iSeq (eCall g_reasons (xSlot 0 (xSlot 1 xNil)))) (gdName 2) dYes (n1L opInt (qCons (q2f opIsNot (qVar 2) (qC .non)) qNil))) eNil)))
abbrev g_least_lengths : Fs := runD 3 2 b_least_lengths
theorem ok_least_lengths {P : Program} {w : World} {K : PySem.W.Frag} {mg : Str → Option Value} {base : Heap} (nb : NoB K mg) (T : Top K mg "least_lengths" s_least_lengths ["line", "sizes"]) (C_reasons : Ca P w K mg base 4 "reasons" ["line", "sizes"] g_reasons) : Ca P w K mg base 5 "least_lengths" ["line", "sizes"] g_least_lengths :=
  ca_of (k := 4) T sc_least_lengths fun lk => (sd_one (sd_ret (pd_callT cy_tuple ok_tuple (by kernel_rfl) nb.b_tuple bb_tuple (da_cons (pd_comp (own := [("one", 2)]) (ts := [2]) sc_least_lengths.nd (id_seq (pd_callC (C_reasons.mono (Nat.le_of_ble_eq_true rfl)) (by kernel_rfl) (px_slot (i := 0) (by rfl) (.inl (by kernel_rfl)) (px_slot (i := 1) (by rfl) (.inl (by kernel_rfl)) px_nil)))) (blk_mk (by kernel_rfl)) (gd_name (i := 2) sc_least_lengths.nd (by rfl) (.inl (by kernel_rfl)) (hf := .inr (by kernel_rfl))) ts_nil (pn_callT cy_int ok_int (by kernel_rfl) nb.b_int bb_int (qa_cons (pq_cmp oy_isnot ok_isnot (pq_var (i := 2) (by rfl) (.inl (by kernel_rfl))) pq_non (nomark _)) qa_nil)) (by decide) (by decide)) da_nil))))
/-! _law_is_number -/
abbrev s__law_is_number : Stmt := topS 17
theorem sc__law_is_number : FnScope ["thing", "low", "high"] ["thing", "low", "high"] (defScope s__law_is_number) := ⟨rfl, rfl, rfl, by decide +kernel, rfl, by decide +kernel, by decide +kernel⟩
def b__law_is_number (lk : Lks) : Ev → Option Out := (sRet (eOf (qvAnd (q1L opIsi (qCons (qVar 0) (qCons (qC (.ty "int")) qNil))) (qvAnd (qvNot (q1L opIsi (qCons (qVar 0) (qCons (qC (.ty "bool")) qNil)))) (qCh opLe opLe (qVar 1) (qVar 0) (qVar 2))))))
abbrev g__law_is_number : Fs := runD 3 3 b__law_is_number
theorem ok__law_is_number {P : Program} {w : World} {K : PySem.W.Frag} {mg : Str → Option Value} {base : Heap} (nb : NoB K mg) (T : Top K mg "_law_is_number" s__law_is_number ["thing", "low", "high"])  : Ca P w K mg base 1 "_law_is_number" ["thing", "low", "high"] g__law_is_number :=
  ca_of (k := 0) T sc__law_is_number fun lk => (sd_one (sd_ret (pd_of (pq_and (pq_callB cy_isi ok_isi (by kernel_rfl) nb.b_isinstance bb_isinstance (qa_cons (pq_var (i := 0) (by rfl) (.inl (by kernel_rfl))) (qa_cons (pq_ty (T := "int") (by kernel_rfl) nb.b_int bb_int) qa_nil))) (pq_and (pq_not (pq_callB cy_isi ok_isi (by kernel_rfl) nb.b_isinstance bb_isinstance (qa_cons (pq_var (i := 0) (by rfl) (.inl (by kernel_rfl))) (qa_cons (pq_ty (T := "bool") (by kernel_rfl) nb.b_bool bb_bool) qa_nil)))) (pq_one (pq_chain oy_le ok_le oy_le ok_le (pq_var (i := 1) (by rfl) (.inl (by kernel_rfl))) (pq_var (i := 0) (by rfl) (.inl (by kernel_rfl))) (pq_var (i := 2) (by rfl) (.inl (by kernel_rfl))))))))))
/-! _law_is_right -/
abbrev s__law_is_right : Stmt := topS 20
theorem sc__law_is_right : FnScope ["line", "sizes", "thing", "many", "item", "one", "far"] ["line", "sizes", "thing"] (defScope s__law_is_right) := ⟨rfl, rfl, rfl, by decide +kernel, rfl, by decide +kernel, by decide +kernel⟩
def b__law_is_right (lk : Lks) : Ev → Option Out := (sSeq (sAsg lk [3] (e1L opLen (eCons (eCompQ [4] 0 (gdName 4) (tOfQ (qNot (tqf (q1L opIsi (qCons (qVar 4) (qCons (qC (.ty "int")) qNil)))))) (eVar 4)) eNil)) (gdName 3))
  (sSeq (sIf (dOr (tOfQ (qNot (tqf (q1L opIsi (qCons (qVar 2) (qCons (qC (.ty "tuple")) qNil)))))) (dOr (tOfQ (tqf (q2f opNe (q1L opLen (qCons (qVar 2) qNil)) (qVar 3)))) (tdf (e2f opNe (eCompQ [5] 2 (gdName 5) (dNot (tdf (eCall g__law_is_number (xSlot 5 (xVal (eOf (qC (.int 0))) (xVal (eOf (qC (.int 1))) xNil)))))) (eVar 5)) (eLst eNil))))) (sRet (eOf (qC (.bl false)))) sNil)
  (sRet (e2f opEq (eComp [5, 6] (iZip (eCons (eVar 2) (eCons (eCall g__law_distances (xSlot 0 (xSlot 1 (xSlot 2 xNil)))) eNil))) (gdTup 2 (gdCons (gdName 5) (gdCons (gdName 6) gdNil))) (tOfQ (qAnd (tqf (q2f opEq (qVar 5) (qC (.int 0)))) (tqf (q2f opGt (q1L opAbs (qCons (qVar 6) qNil)) (q2f opIx (qVar 1) (qC (.int 2))))))) (eOf (qC (.int 1)))) (eLst eNil)))))
abbrev g__law_is_right : Fs := runD 7 3 b__law_is_right
theorem ok__law_is_right {P : Program} {w : World} {K : PySem.W.Frag} {mg : Str → Option Value} {base : Heap} (nb : NoB K mg) (T : Top K mg "_law_is_right" s__law_is_right ["line", "sizes", "thing"]) (C__law_is_number : Ca P w K mg base 1 "_law_is_number" ["thing", "low", "high"] g__law_is_number) (C__law_distances : Ca P w K mg base 1 "_law_distances" ["line", "sizes", "lengths"] g__law_distances) : Ca P w K mg base 2 "_law_is_right" ["line", "sizes", "thing"] g__law_is_right :=
  ca_of (k := 1) T sc__law_is_right fun lk => (sd_cons (sd_set (i := 3) sc__law_is_right.nd (by rfl) (.inl (by kernel_rfl)) (pd_callB cy_len ok_len (by kernel_rfl) nb.b_len bb_len (da_cons (pd_compQ (own := [("item", 4)]) (ts := [4]) (j := 0) sc__law_is_right.nd (by rfl) (.inl (by kernel_rfl)) (blk_mk (by kernel_rfl)) (gd_name (i := 4) sc__law_is_right.nd (by rfl) (.inl (by kernel_rfl)) (hf := .inr (by kernel_rfl))) (ts_one (td_of (tq_not (tq_val (pq_callB cy_isi ok_isi (by kernel_rfl) nb.b_isinstance bb_isinstance (qa_cons (pq_var (i := 4) (by rfl) (.inl (by kernel_rfl))) (qa_cons (pq_ty (T := "int") (by kernel_rfl) nb.b_int bb_int) qa_nil))))))) (pd_var (i := 4) (by rfl) (.inl (by kernel_rfl))) (by decide) (by decide) (by decide)) da_nil)) (hf := .inl rfl))
    (sd_cons (sd_if (td_w (wd_or (td_of (tq_not (tq_val (pq_callB cy_isi ok_isi (by kernel_rfl) nb.b_isinstance bb_isinstance (qa_cons (pq_var (i := 2) (by rfl) (.inl (by kernel_rfl))) (qa_cons (pq_ty (T := "tuple") (by kernel_rfl) nb.b_tuple bb_tuple) qa_nil)))))) (wd_or (td_of (tq_cmp oy_ne ok_ne (pq_callB cy_len ok_len (by kernel_rfl) nb.b_len bb_len (qa_cons (pq_var (i := 2) (by rfl) (.inl (by kernel_rfl))) qa_nil)) (pq_var (i := 3) (by rfl) (.inl (by kernel_rfl))) (nomark _))) (wd_or1 (td_cmp oy_ne ok_ne (pd_compQ (own := [("one", 5)]) (ts := [5]) (j := 2) sc__law_is_right.nd (by rfl) (.inl (by kernel_rfl)) (blk_mk (by kernel_rfl)) (gd_name (i := 5) sc__law_is_right.nd (by rfl) (.inl (by kernel_rfl)) (hf := .inr (by kernel_rfl))) (ts_one (td_not (td_val (pd_callC (C__law_is_number.mono (Nat.le_of_ble_eq_true rfl)) (by kernel_rfl) (px_slot (i := 5) (by rfl) (.inl (by kernel_rfl)) (px_val (pd_of pq_int) (px_val (pd_of pq_int) px_nil))))))) (pd_var (i := 5) (by rfl) (.inl (by kernel_rfl))) (by decide) (by decide) (by decide)) (pd_lst da_nil) (nomark _)))))) (sd_one (sd_ret (pd_of pq_bl))) sd_nil)
    (sd_one (sd_ret (pd_cmp oy_eq ok_eq (pd_comp (own := [("one", 5), ("far", 6)]) (ts := [5, 6]) sc__law_is_right.nd (id_zip (by kernel_rfl) nb.b_zip (da_cons (pd_var (i := 2) (by rfl) (.inl (by kernel_rfl))) (da_cons (pd_callC (C__law_distances.mono (Nat.le_of_ble_eq_true rfl)) (by kernel_rfl) (px_slot (i := 0) (by rfl) (.inl (by kernel_rfl)) (px_slot (i := 1) (by rfl) (.inr (.inl (by kernel_rfl))) (px_slot (i := 2) (by rfl) (.inl (by kernel_rfl)) px_nil)))) da_nil))) (blk_mk (by kernel_rfl)) (gd_tup (gds_cons (gd_name (i := 5) sc__law_is_right.nd (by rfl) (.inl (by kernel_rfl)) (hf := .inr (by kernel_rfl))) (gds_cons (gd_name (i := 6) sc__law_is_right.nd (by rfl) (.inl (by kernel_rfl)) (hf := .inr (by kernel_rfl))) gds_nil))) (ts_one (td_of (tq_w (wq_and (tq_cmp oy_eq ok_eq (pq_var (i := 5) (by rfl) (.inl (by kernel_rfl))) pq_int (nomark _)) (wq_and1 (tq_cmp oy_gt ok_gt (pq_callB cy_abs ok_abs (by kernel_rfl) nb.b_abs bb_abs (qa_cons (pq_var (i := 6) (by rfl) (.inl (by kernel_rfl))) qa_nil)) (pq_ix (pq_var (i := 1) (by rfl) (.inr (.inl (by kernel_rfl)))) pq_int) (nomark _))))))) (pd_of pq_int) (by decide) (by decide)) (pd_lst da_nil) (nomark _))))))
/-! are_lengths -/
abbrev s_are_lengths : Stmt := topS 6
theorem sc_are_lengths : FnScope ["line", "thing", "one"] ["line", "thing"] (defScope s_are_lengths) := ⟨rfl, rfl, rfl, by decide +kernel, rfl, by decide +kernel, by decide +kernel⟩
def b_are_lengths (lk : Lks) : Ev → Option Out := (sSeq (sIf (dOr (tOfQ (qNot (tqf (q1L opIsi (qCons (qVar 1) (qCons (qC (.ty "tuple")) qNil)))))) (tdf (e2f opNe (n1L opLen (qCons (qVar 1) qNil)) (e1L opLen (eCons (eCall g_targets (xSlot 0 xNil)) eNil))))) (sRet (eOf (qC (.bl false)))) sNil)
  (sRet (e1L opAll (eCons (eCompQ [2] 1 (gdName 2) dYes (evAnd (eCall g_is_integer (xSlot 2 xNil)) (eOf (q2f opIn (qVar 2) (qTup (qCons (qC (.int 0)) (qCons (qC (.int 1)) qNil))))))) eNil))))
abbrev g_are_lengths : Fs := runD 3 2 b_are_lengths
theorem ok_are_lengths {P : Program} {w : World} {K : PySem.W.Frag} {mg : Str → Option Value} {base : Heap} (nb : NoB K mg) (T : Top K mg "are_lengths" s_are_lengths ["line", "thing"]) (C_targets : Ca P w K mg base 2 "targets" ["line"] g_targets) (C_is_integer : Ca P w K mg base 1 "is_integer" ["thing"] g_is_integer) : Ca P w K mg base 3 "are_lengths" ["line", "thing"] g_are_lengths :=
  ca_of (k := 2) T sc_are_lengths fun lk => (sd_cons (sd_if (td_w (wd_or (td_of (tq_not (tq_val (pq_callB cy_isi ok_isi (by kernel_rfl) nb.b_isinstance bb_isinstance (qa_cons (pq_var (i := 1) (by rfl) (.inl (by kernel_rfl))) (qa_cons (pq_ty (T := "tuple") (by kernel_rfl) nb.b_tuple bb_tuple) qa_nil)))))) (wd_or1 (td_cmp oy_ne ok_ne (pn_callB cy_len ok_len (by kernel_rfl) nb.b_len bb_len (qa_cons (pq_var (i := 1) (by rfl) (.inl (by kernel_rfl))) qa_nil)) (pd_callB cy_len ok_len (by kernel_rfl) nb.b_len bb_len (da_cons (pd_callC (C_targets.mono (Nat.le_of_ble_eq_true rfl)) (by kernel_rfl) (px_slot (i := 0) (by rfl) (.inl (by kernel_rfl)) px_nil)) da_nil)) (nomark _))))) (sd_one (sd_ret (pd_of pq_bl))) sd_nil)
    (sd_one (sd_ret (pd_callB cy_all ok_all (by kernel_rfl) nb.b_all bb_all (da_cons (pd_compQ (own := [("one", 2)]) (ts := [2]) (j := 1) sc_are_lengths.nd (by rfl) (.inl (by kernel_rfl)) (blk_mk (by kernel_rfl)) (gd_name (i := 2) sc_are_lengths.nd (by rfl) (.inl (by kernel_rfl)) (hf := .inr (by kernel_rfl))) ts_nil (pd_and (pd_callC (C_is_integer.mono (Nat.le_of_ble_eq_true rfl)) (by kernel_rfl) (px_slot (i := 2) (by rfl) (.inl (by kernel_rfl)) px_nil)) (pd_one (pd_of (pq_cmp oy_in ok_in (pq_var (i := 2) (by rfl) (.inl (by kernel_rfl))) (pq_tup (qa_cons pq_int (qa_cons pq_int qa_nil))) (by with_unfolding_all rfl))))) (by decide) (by decide) (by decide)) da_nil)))))
/-! are_right -/
abbrev s_are_right : Stmt := topS 7
theorem sc_are_right : FnScope ["line", "sizes", "thing", "far", "one", "distance"] ["line", "sizes", "thing"] (defScope s_are_right) := ⟨rfl, rfl, rfl, by decide +kernel, rfl, by decide +kernel, by decide +kernel⟩
def b_are_right (lk : Lks) : Ev → Option Out := (sSeq (sIf (dNot (tdf (eCall g_are_lengths (xSlot 0 (xSlot 2 xNil))))) (sRet (eOf (qC (.bl false)))) sNil)
  (sSeq (sAsg lk [3] (eCall g_distances (xSlot 0 (xSlot 1 (xSlot 2 xNil)))) (gdName 3))
  (sRet (e1L opAll (eCons (eComp [4, 5] (iZip (eCons (eVar 2) (eCons (eVar 3) eNil))) (gdTup 2 (gdCons (gdName 4) (gdCons (gdName 5) gdNil))) dYes (eOf (qvOr (q2f opEq (qVar 4) (qC (.int 1))) (q2f opLe (q1L opAbs (qCons (qVar 5) qNil)) (q2f opIx (qVar 1) (qC (.int 2))))))) eNil)))))
abbrev g_are_right : Fs := runD 6 3 b_are_right
theorem ok_are_right {P : Program} {w : World} {K : PySem.W.Frag} {mg : Str → Option Value} {base : Heap} (nb : NoB K mg) (T : Top K mg "are_right" s_are_right ["line", "sizes", "thing"]) (C_are_lengths : Ca P w K mg base 3 "are_lengths" ["line", "thing"] g_are_lengths) (C_distances : Ca P w K mg base 3 "distances" ["line", "sizes", "lengths"] g_distances) : Ca P w K mg base 4 "are_right" ["line", "sizes", "thing"] g_are_right :=
  ca_of (k := 3) T sc_are_right fun lk => (sd_cons (sd_if (td_not (td_val (pd_callC (C_are_lengths.mono (Nat.le_of_ble_eq_true rfl)) (by kernel_rfl) (px_slot (i := 0) (by rfl) (.inl (by kernel_rfl)) (px_slot (i := 2) (by rfl) (.inl (by kernel_rfl)) px_nil))))) (sd_one (sd_ret (pd_of pq_bl))) sd_nil)
    (sd_cons (sd_set (i := 3) sc_are_right.nd (by rfl) (.inl (by kernel_rfl)) (pd_callC (C_distances.mono (Nat.le_of_ble_eq_true rfl)) (by kernel_rfl) (px_slot (i := 0) (by rfl) (.inl (by kernel_rfl)) (px_slot (i := 1) (by rfl) (.inr (.inl (by kernel_rfl))) (px_slot (i := 2) (by rfl) (.inl (by kernel_rfl)) px_nil)))) (hf := .inl rfl))
    (sd_one (sd_ret (pd_callB cy_all ok_all (by kernel_rfl) nb.b_all bb_all (da_cons (pd_comp (own := [("one", 4), ("distance", 5)]) (ts := [4, 5]) sc_are_right.nd (id_zip (by kernel_rfl) nb.b_zip (da_cons (pd_var (i := 2) (by rfl) (.inl (by kernel_rfl))) (da_cons (pd_var (i := 3) (by rfl) (.inl (by kernel_rfl))) da_nil))) (blk_mk (by kernel_rfl)) (gd_tup (gds_cons (gd_name (i := 4) sc_are_right.nd (by rfl) (.inl (by kernel_rfl)) (hf := .inr (by kernel_rfl))) (gds_cons (gd_name (i := 5) sc_are_right.nd (by rfl) (.inl (by kernel_rfl)) (hf := .inr (by kernel_rfl))) gds_nil))) ts_nil (pd_of (pq_or (pq_cmp oy_eq ok_eq (pq_var (i := 4) (by rfl) (.inl (by kernel_rfl))) pq_int (nomark _)) (pq_one (pq_cmp oy_le ok_le (pq_callB cy_abs ok_abs (by kernel_rfl) nb.b_abs bb_abs (qa_cons (pq_var (i := 5) (by rfl) (.inl (by kernel_rfl))) qa_nil)) (pq_ix (pq_var (i := 1) (by rfl) (.inr (.inl (by kernel_rfl)))) pq_int) (nomark _))))) (by decide) (by decide)) da_nil))))))
/-! _law_bent_reasons -/
abbrev s__law_bent_reasons : Stmt := topS 24
theorem sc__law_bent_reasons : FnScope ["bag", "told", "way", "k", "one", "new"] ["bag", "told"] (defScope s__law_bent_reasons) := ⟨rfl, rfl, rfl, by decide +kernel, rfl, by decide +kernel, by decide +kernel⟩
def b__law_bent_reasons (lk : Lks) : Ev → Option Out := (sSeq (sPar lk 2 3 (eCons (eCall g__law_take (xSlot 0 (xVal (eOf (qC (.int 7))) xNil))) (eCons (eCall g__law_take (xSlot 0 (xVal (n1L opMax (qCons (qC (.int 1)) (qCons (q1L opLen (qCons (qVar 1) qNil)) qNil))) xNil))) eNil)))
  (sSeq (sIf (tOfQ (qAnd (tqf (q2f opLt (qVar 2) (qC (.int 4)))) (tqf (q2f opNe (qVar 1) (qTup qNil))))) (sSeq (sAsg lk [4] (eOf (q2f opIx (qVar 1) (qVar 3))) (gdName 4))
  (sSeq (sAsg lk [5] (eCall g__law_some (xSlot 0 (xVal (eLst (eCons (eOf (qC .non)) (eCons (eTup (eCons (eOf (qC (.int 0))) (eCons (eOf (qC (.int 3))) eNil))) (eCons (eIf (tOfQ (tqf (q2f opIsNot (qVar 4) (qC .non)))) (eTup (eCons (n2f opAdd (q2f opIx (qVar 4) (qC (.int 0))) (qC (.int 1))) (eCons (eOf (q2f opIx (qVar 4) (qC (.int 1)))) eNil))) (eTup (eCons (eOf (qC (.int 1))) (eCons (eOf (qC (.int 1))) eNil)))) (eCons (eIf (tOfQ (tqf (q2f opIsNot (qVar 4) (qC .non)))) (eTup (eCons (eOf (q2f opIx (qVar 4) (qC (.int 0)))) (eCons (n2f opAdd (q2f opIx (qVar 4) (qC (.int 1))) (qC (.int 1))) eNil))) (eTup (eCons (eOf (qC (.int 0))) (eCons (eOf (qC (.int 0))) eNil)))) eNil))))) xNil))) (gdName 5))
  (sRet (n2f opAdd (q2f opAdd (qSl (qVar 1) qNo (qPart (qVar 3))) (qTup (qCons (qVar 5) qNil))) (qSl (qVar 1) (qPart (q2f opAdd (qVar 3) (qC (.int 1)))) qNo))))) sNil)
  (sSeq (sIf (tOfQ (tqf (q2f opEq (qVar 2) (qC (.int 4))))) (sRet (e1L opTuple (eCons (eCompQ [4] 1 (gdName 4) dYes (eIf (tOfQ (tqf (q2f opIs (qVar 4) (qC .non)))) (eOf (qC .non)) (eTup (eCons (n2f opAdd (q2f opMul (q2f opIx (qVar 4) (qC (.int 0))) (qC (.int 2))) (qC (.int 1))) (eCons (eOf (q2f opIx (qVar 4) (qC (.int 1)))) eNil))))) eNil))) sNil)
  (sRet (eCall g__law_some (xSlot 0 (xVal (eLst (eCons (nSl (qVar 1) (qPart (qC (.int 1))) qNo) (eCons (n2f opAdd (qVar 1) (qTup (qCons (qC .non) qNil))) (eCons (n1L opList (qCons (qVar 1) qNil)) (eCons (eOf (qC .non)) (eCons (n2f opAdd (q2f opAdd (qSl (qVar 1) qNo (qPart (qVar 3))) (qTup (qCons (qTup (qCons (qC (.int 0)) qNil)) qNil))) (qSl (qVar 1) (qPart (q2f opAdd (qVar 3) (qC (.int 1)))) qNo)) eNil)))))) xNil)))))))
abbrev g__law_bent_reasons : Fs := runD 6 2 b__law_bent_reasons
theorem ok__law_bent_reasons {P : Program} {w : World} {K : PySem.W.Frag} {mg : Str → Option Value} {base : Heap} (nb : NoB K mg) (T : Top K mg "_law_bent_reasons" s__law_bent_reasons ["bag", "told"]) (C__law_take : Ca P w K mg base 1 "_law_take" ["bag", "many"] g__law_take) (C__law_some : Ca P w K mg base 2 "_law_some" ["bag", "things"] g__law_some) : Ca P w K mg base 3 "_law_bent_reasons" ["bag", "told"] g__law_bent_reasons :=
  ca_of (k := 2) T sc__law_bent_reasons fun lk => (sd_cons (sd_par (i := 2) (j := 3) sc__law_bent_reasons.nd (by rfl) (by rfl) (by decide) (by kernel_rfl) (by kernel_rfl) (da_cons (pd_callC (C__law_take.mono (Nat.le_of_ble_eq_true rfl)) (by kernel_rfl) (px_slot (i := 0) (by rfl) (.inl (by kernel_rfl)) (px_val (pd_of pq_int) px_nil))) (da_cons (pd_callC (C__law_take.mono (Nat.le_of_ble_eq_true rfl)) (by kernel_rfl) (px_slot (i := 0) (by rfl) (.inl (by kernel_rfl)) (px_val (pn_callB cy_max ok_max (by kernel_rfl) nb.b_max bb_max (qa_cons pq_int (qa_cons (pq_callB cy_len ok_len (by kernel_rfl) nb.b_len bb_len (qa_cons (pq_var (i := 1) (by rfl) (.inl (by kernel_rfl))) qa_nil)) qa_nil))) px_nil))) da_nil)) (fun X h => (sw_scope h).trans (by kernel_rfl)))
    (sd_cons (sd_if (td_of (tq_w (wq_and (tq_cmp oy_lt ok_lt (pq_var (i := 2) (by rfl) (.inl (by kernel_rfl))) pq_int (nomark _)) (wq_and1 (tq_cmp oy_ne ok_ne (pq_var (i := 1) (by rfl) (.inl (by kernel_rfl))) (pq_tup qa_nil) (nomark _)))))) (sd_cons (sd_set (i := 4) sc__law_bent_reasons.nd (by rfl) (.inl (by kernel_rfl)) (pd_of (pq_ix (pq_var (i := 1) (by rfl) (.inl (by kernel_rfl))) (pq_var (i := 3) (by rfl) (.inl (by kernel_rfl))))) (hf := .inl rfl))
    (sd_cons (sd_set (i := 5) sc__law_bent_reasons.nd (by rfl) (.inl (by kernel_rfl)) (pd_callC (C__law_some.mono (Nat.le_of_ble_eq_true rfl)) (by kernel_rfl) (px_slot (i := 0) (by rfl) (.inl (by kernel_rfl)) (px_val (pd_lst (da_cons (pd_of pq_non) (da_cons (pd_tup (da_cons (pd_of pq_int) (da_cons (pd_of pq_int) da_nil))) (da_cons (pd_if (td_of (tq_cmp oy_isnot ok_isnot (pq_var (i := 4) (by rfl) (.inl (by kernel_rfl))) pq_non (nomark _))) (pd_tup (da_cons (pn_bin oy_add ok_add (pq_ix (pq_var (i := 4) (by rfl) (.inl (by kernel_rfl))) pq_int) pq_int) (da_cons (pd_of (pq_ix (pq_var (i := 4) (by rfl) (.inl (by kernel_rfl))) pq_int)) da_nil))) (pd_tup (da_cons (pd_of pq_int) (da_cons (pd_of pq_int) da_nil)))) (da_cons (pd_if (td_of (tq_cmp oy_isnot ok_isnot (pq_var (i := 4) (by rfl) (.inl (by kernel_rfl))) pq_non (nomark _))) (pd_tup (da_cons (pd_of (pq_ix (pq_var (i := 4) (by rfl) (.inl (by kernel_rfl))) pq_int)) (da_cons (pn_bin oy_add ok_add (pq_ix (pq_var (i := 4) (by rfl) (.inl (by kernel_rfl))) pq_int) pq_int) da_nil))) (pd_tup (da_cons (pd_of pq_int) (da_cons (pd_of pq_int) da_nil)))) da_nil))))) px_nil))) (hf := .inl rfl))
    (sd_one (sd_ret (pn_bin oy_add ok_add (pq_bin oy_add ok_add (pq_sl (pq_var (i := 1) (by rfl) (.inl (by kernel_rfl))) qo_none (qo_some (pq_var (i := 3) (by rfl) (.inl (by kernel_rfl))))) (pq_tup (qa_cons (pq_var (i := 5) (by rfl) (.inl (by kernel_rfl))) qa_nil))) (pq_sl (pq_var (i := 1) (by rfl) (.inl (by kernel_rfl))) (qo_some (pq_bin oy_add ok_add (pq_var (i := 3) (by rfl) (.inl (by kernel_rfl))) pq_int)) qo_none)))))) sd_nil)
    (sd_cons (sd_if (td_of (tq_cmp oy_eq ok_eq (pq_var (i := 2) (by rfl) (.inl (by kernel_rfl))) pq_int (nomark _))) (sd_one (sd_ret (pd_callT cy_tuple ok_tuple (by kernel_rfl) nb.b_tuple bb_tuple (da_cons (pd_compQ (own := [("one", 4)]) (ts := [4]) (j := 1) sc__law_bent_reasons.nd (by rfl) (.inl (by kernel_rfl)) (blk_mk (by kernel_rfl)) (gd_name (i := 4) sc__law_bent_reasons.nd (by rfl) (.inl (by kernel_rfl)) (hf := .inr (by kernel_rfl))) ts_nil (pd_if (td_of (tq_cmp oy_is ok_is (pq_var (i := 4) (by rfl) (.inl (by kernel_rfl))) pq_non (nomark _))) (pd_of pq_non) (pd_tup (da_cons (pn_bin oy_add ok_add (pq_bin oy_mul ok_mul (pq_ix (pq_var (i := 4) (by rfl) (.inl (by kernel_rfl))) pq_int) pq_int) pq_int) (da_cons (pd_of (pq_ix (pq_var (i := 4) (by rfl) (.inl (by kernel_rfl))) pq_int)) da_nil)))) (by decide) (by decide) (by decide)) da_nil)))) sd_nil)
    (sd_one (sd_ret (pd_callC (C__law_some.mono (Nat.le_of_ble_eq_true rfl)) (by kernel_rfl) (px_slot (i := 0) (by rfl) (.inl (by kernel_rfl)) (px_val (pd_lst (da_cons (pn_sl (pq_var (i := 1) (by rfl) (.inl (by kernel_rfl))) (qo_some pq_int) qo_none) (da_cons (pn_bin oy_add ok_add (pq_var (i := 1) (by rfl) (.inl (by kernel_rfl))) (pq_tup (qa_cons pq_non qa_nil))) (da_cons (pn_callT cy_list ok_list (by kernel_rfl) nb.b_list bb_list (qa_cons (pq_var (i := 1) (by rfl) (.inl (by kernel_rfl))) qa_nil)) (da_cons (pd_of pq_non) (da_cons (pn_bin oy_add ok_add (pq_bin oy_add ok_add (pq_sl (pq_var (i := 1) (by rfl) (.inl (by kernel_rfl))) qo_none (qo_some (pq_var (i := 3) (by rfl) (.inl (by kernel_rfl))))) (pq_tup (qa_cons (pq_tup (qa_cons pq_int qa_nil)) qa_nil))) (pq_sl (pq_var (i := 1) (by rfl) (.inl (by kernel_rfl))) (qo_some (pq_bin oy_add ok_add (pq_var (i := 3) (by rfl) (.inl (by kernel_rfl))) pq_int)) qo_none)) da_nil)))))) px_nil))))))))
/-! is_reason -/
abbrev s_is_reason : Stmt := topS 10
theorem sc_is_reason : FnScope ["thing", "one"] ["thing"] (defScope s_is_reason) := ⟨rfl, rfl, rfl, by decide +kernel, rfl, by decide +kernel, by decide +kernel⟩
def b_is_reason (lk : Lks) : Ev → Option Out := (sSeq (sIf (tOfQ (tqf (q2f opIs (qVar 0) (qC .non)))) (sRet (eOf (qC (.bl true)))) sNil)
  (sSeq (sIf (dOr (tOfQ (qNot (tqf (q1L opIsi (qCons (qVar 0) (qCons (qC (.ty "tuple")) qNil)))))) (dOr (tOfQ (tqf (q2f opNe (q1L opLen (qCons (qVar 0) qNil)) (qC (.int 2))))) (dNot (tdf (e1L opAll (eCons (eCompQ [1] 0 (gdName 1) dYes (eCall g_is_integer (xSlot 1 xNil))) eNil)))))) (sRet (eOf (qC (.bl false)))) sNil)
  (sRet (eOf (q2f opGe (q2f opIx (qVar 0) (qC (.int 0))) (qC (.int 0)))))))
abbrev g_is_reason : Fs := runD 2 1 b_is_reason
theorem ok_is_reason {P : Program} {w : World} {K : PySem.W.Frag} {mg : Str → Option Value} {base : Heap} (nb : NoB K mg) (T : Top K mg "is_reason" s_is_reason ["thing"]) (C_is_integer : Ca P w K mg base 1 "is_integer" ["thing"] g_is_integer) : Ca P w K mg base 2 "is_reason" ["thing"] g_is_reason :=
  ca_of (k := 1) T sc_is_reason fun lk => (sd_cons (sd_if (td_of (tq_cmp oy_is ok_is (pq_var (i := 0) (by rfl) (.inl (by kernel_rfl))) pq_non (nomark _))) (sd_one (sd_ret (pd_of pq_bl))) sd_nil)
    (sd_cons (sd_if (td_w (wd_or (td_of (tq_not (tq_val (pq_callB cy_isi ok_isi (by kernel_rfl) nb.b_isinstance bb_isinstance (qa_cons (pq_var (i := 0) (by rfl) (.inl (by kernel_rfl))) (qa_cons (pq_ty (T := "tuple") (by kernel_rfl) nb.b_tuple bb_tuple) qa_nil)))))) (wd_or (td_of (tq_cmp oy_ne ok_ne (pq_callB cy_len ok_len (by kernel_rfl) nb.b_len bb_len (qa_cons (pq_var (i := 0) (by rfl) (.inl (by kernel_rfl))) qa_nil)) pq_int (nomark _))) (wd_or1 (td_not (td_val (pd_callB cy_all ok_all (by kernel_rfl) nb.b_all bb_all (da_cons (pd_compQ (own := [("one", 1)]) (ts := [1]) (j := 0) sc_is_reason.nd (by rfl) (.inl (by kernel_rfl)) (blk_mk (by kernel_rfl)) (gd_name (i := 1) sc_is_reason.nd (by rfl) (.inl (by kernel_rfl)) (hf := .inr (by kernel_rfl))) ts_nil (pd_callC (C_is_integer.mono (Nat.le_of_ble_eq_true rfl)) (by kernel_rfl) (px_slot (i := 1) (by rfl) (.inl (by kernel_rfl)) px_nil)) (by decide) (by decide) (by decide)) da_nil)))))))) (sd_one (sd_ret (pd_of pq_bl))) sd_nil)
    (sd_one (sd_ret (pd_of (pq_cmp oy_ge ok_ge (pq_ix (pq_var (i := 0) (by rfl) (.inl (by kernel_rfl))) pq_int) pq_int (nomark _)))))))
/-! are_reasons -/
abbrev s_are_reasons : Stmt := topS 11
theorem sc_are_reasons : FnScope ["line", "sizes", "thing", "at", "one", "lengths", "distance", "other"] ["line", "sizes", "thing"] (defScope s_are_reasons) := ⟨rfl, rfl, rfl, by decide +kernel, rfl, by decide +kernel, by decide +kernel⟩
def l_are_reasons_1 (lk : Lks) : Ev → Option Out := (sIf (tOfQ (tqf (q2f opIsNot (qVar 4) (qC .non)))) (sSeq (sAsg lk [5] (eCompQ [7] 2 (gdName 7) dYes (n1L opInt (qCons (qvAnd (q2f opIsNot (qVar 7) (qC .non)) (q2f opLt (q2f opIx (qVar 7) (qC (.int 0))) (q2f opIx (qVar 4) (qC (.int 0))))) qNil))) (gdName 5))
  (sSeq (sAsg lk [6] (e2f opIxF (eCall g_distances (xSlot 0 (xSlot 1 (xSlot 5 xNil)))) (eVar 3)) (gdName 6))
  (sIf (tOfQ (qOr (tqf (q2f opNe (qVar 6) (q2f opIx (qVar 4) (qC (.int 1))))) (tqf (q2f opLe (q1L opAbs (qCons (qVar 6) qNil)) (q2f opIx (qVar 1) (qC (.int 2))))))) (sRet (eOf (qC (.bl false)))) sNil))) sNil)
def b_are_reasons (lk : Lks) : Ev → Option Out := (sSeq (sIf (dOr (tOfQ (qNot (tqf (q1L opIsi (qCons (qVar 2) (qCons (qC (.ty "tuple")) qNil)))))) (dOr (tdf (e2f opNe (n1L opLen (qCons (qVar 2) qNil)) (e1L opLen (eCons (eCall g_targets (xSlot 0 xNil)) eNil)))) (dNot (tdf (e1L opAll (eCons (eCompQ [4] 2 (gdName 4) dYes (eCall g_is_reason (xSlot 4 xNil))) eNil)))))) (sRet (eOf (qC (.bl false)))) sNil)
  (sSeq (sFor lk [3, 4] (iEnum (eCons (eVar 2) eNil)) (gdTup 2 (gdCons (gdName 3) (gdCons (gdName 4) gdNil))) (l_are_reasons_1 lk))
  (sRet (eOf (qC (.bl true))))))
abbrev g_are_reasons : Fs := runD 8 3 b_are_reasons
theorem ok_are_reasons {P : Program} {w : World} {K : PySem.W.Frag} {mg : Str → Option Value} {base : Heap} (nb : NoB K mg) (T : Top K mg "are_reasons" s_are_reasons ["line", "sizes", "thing"]) (C_targets : Ca P w K mg base 2 "targets" ["line"] g_targets) (C_is_reason : Ca P w K mg base 2 "is_reason" ["thing"] g_is_reason) (C_distances : Ca P w K mg base 3 "distances" ["line", "sizes", "lengths"] g_distances) : Ca P w K mg base 4 "are_reasons" ["line", "sizes", "thing"] g_are_reasons :=
  ca_of (k := 3) T sc_are_reasons fun lk => (sd_cons (sd_if (td_w (wd_or (td_of (tq_not (tq_val (pq_callB cy_isi ok_isi (by kernel_rfl) nb.b_isinstance bb_isinstance (qa_cons (pq_var (i := 2) (by rfl) (.inl (by kernel_rfl))) (qa_cons (pq_ty (T := "tuple") (by kernel_rfl) nb.b_tuple bb_tuple) qa_nil)))))) (wd_or (td_cmp oy_ne ok_ne (pn_callB cy_len ok_len (by kernel_rfl) nb.b_len bb_len (qa_cons (pq_var (i := 2) (by rfl) (.inl (by kernel_rfl))) qa_nil)) (pd_callB cy_len ok_len (by kernel_rfl) nb.b_len bb_len (da_cons (pd_callC (C_targets.mono (Nat.le_of_ble_eq_true rfl)) (by kernel_rfl) (px_slot (i := 0) (by rfl) (.inl (by kernel_rfl)) px_nil)) da_nil)) (nomark _)) (wd_or1 (td_not (td_val (pd_callB cy_all ok_all (by kernel_rfl) nb.b_all bb_all (da_cons (pd_compQ (own := [("one", 4)]) (ts := [4]) (j := 2) sc_are_reasons.nd (by rfl) (.inl (by kernel_rfl)) (blk_mk (by kernel_rfl)) (gd_name (i := 4) sc_are_reasons.nd (by rfl) (.inl (by kernel_rfl)) (hf := .inr (by kernel_rfl))) ts_nil (pd_callC (C_is_reason.mono (Nat.le_of_ble_eq_true rfl)) (by kernel_rfl) (px_slot (i := 4) (by rfl) (.inl (by kernel_rfl)) px_nil)) (by decide) (by decide) (by decide)) da_nil)))))))) (sd_one (sd_ret (pd_of pq_bl))) sd_nil)
    (sd_cons (sd_for (ts := [3, 4]) (id_enum (by kernel_rfl) nb.b_enumerate (da_cons (pd_var (i := 2) (by rfl) (.inl (by kernel_rfl))) da_nil)) (gd_tup (gds_cons (gd_name (i := 3) sc_are_reasons.nd (by rfl) (.inl (by kernel_rfl)) (hf := .inl rfl)) (gds_cons (gd_name (i := 4) sc_are_reasons.nd (by rfl) (.inr (by kernel_rfl)) (hf := .inl rfl)) gds_nil))) (sd_one (sd_if (td_of (tq_cmp oy_isnot ok_isnot (pq_var (i := 4) (by rfl) (.inr (.inl (by kernel_rfl)))) pq_non (nomark _))) (sd_cons (sd_setCompQ (i := 5) (own := [("other", 7)]) (ts := [7]) (j := 2) sc_are_reasons.nd (by rfl) (by kernel_rfl) (by rfl) (by rfl) (by kernel_rfl) (by rfl) (.inl (by kernel_rfl)) (blk_mk (by kernel_rfl)) (gd_name (i := 7) sc_are_reasons.nd (by rfl) (.inl (by kernel_rfl)) (hf := .inr (by kernel_rfl))) ts_nil (pn_callT cy_int ok_int (by kernel_rfl) nb.b_int bb_int (qa_cons (pq_and (pq_cmp oy_isnot ok_isnot (pq_var (i := 7) (by rfl) (.inl (by kernel_rfl))) pq_non (nomark _)) (pq_one (pq_cmp oy_lt ok_lt (pq_ix (pq_var (i := 7) (by rfl) (.inl (by kernel_rfl))) pq_int) (pq_ix (pq_var (i := 4) (by rfl) (.inr (.inl (by kernel_rfl)))) pq_int) (nomark _)))) qa_nil)) (by decide) (by decide) (by decide))
    (sd_cons (sd_set (i := 6) sc_are_reasons.nd (by rfl) (.inl (by kernel_rfl)) (pd_ix (pd_callC (C_distances.mono (Nat.le_of_ble_eq_true rfl)) (by kernel_rfl) (px_slot (i := 0) (by rfl) (.inl (by kernel_rfl)) (px_slot (i := 1) (by rfl) (.inl (by kernel_rfl)) (px_slot (i := 5) (by rfl) (.inl (by kernel_rfl)) px_nil)))) (pd_var (i := 3) (by rfl) (.inl (by kernel_rfl)))) (hf := .inl rfl))
    (sd_one (sd_if (td_of (tq_w (wq_or (tq_cmp oy_ne ok_ne (pq_var (i := 6) (by rfl) (.inl (by kernel_rfl))) (pq_ix (pq_var (i := 4) (by rfl) (.inr (.inl (by kernel_rfl)))) pq_int) (nomark _)) (wq_or1 (tq_cmp oy_le ok_le (pq_callB cy_abs ok_abs (by kernel_rfl) nb.b_abs bb_abs (qa_cons (pq_var (i := 6) (by rfl) (.inl (by kernel_rfl))) qa_nil)) (pq_ix (pq_var (i := 1) (by rfl) (.inl (by kernel_rfl))) pq_int) (nomark _)))))) (sd_one (sd_ret (pd_of pq_bl))) sd_nil)))) sd_nil)))
    (sd_one (sd_ret (pd_of pq_bl)))))
/-! _law_are_reasons -/
abbrev s__law_are_reasons : Stmt := topS 22
theorem sc__law_are_reasons : FnScope ["line", "sizes", "thing", "many", "one", "k", "lengths", "far", "item", "other", "part"] ["line", "sizes", "thing"] (defScope s__law_are_reasons) := ⟨rfl, rfl, rfl, by decide +kernel, rfl, by decide +kernel, by decide +kernel⟩
def l__law_are_reasons_1 (lk : Lks) : Ev → Option Out := (sIf (dAnd (tOfQ (tqf (q2f opIsNot (qVar 4) (qC .non)))) (dOr (tOfQ (qNot (tqf (q1L opIsi (qCons (qVar 4) (qCons (qC (.ty "tuple")) qNil)))))) (dOr (tOfQ (tqf (q2f opNe (q1L opLen (qCons (qVar 4) qNil)) (qC (.int 2))))) (tdf (e2f opNe (eCompQ [10] 4 (gdName 10) (dNot (tdf (eCall g__law_is_number (xSlot 10 (xVal (eOf (q1f opNeg (q2f opPow (qC (.int 10)) (qC (.int 60))))) (xVal (n2f opPow (qC (.int 10)) (qC (.int 60))) xNil)))))) (eVar 10)) (eLst eNil)))))) (sRet (eOf (qC (.bl false)))) sNil)
def l__law_are_reasons_2 (lk : Lks) : Ev → Option Out := (sIf (tOfQ (tqf (q2f opIsNot (qVar 4) (qC .non)))) (sSeq (sAsg lk [6] (eCompQ [9] 2 (gdName 9) dYes (n1L opInt (qCons (qvAnd (q2f opIsNot (qVar 9) (qC .non)) (q2f opLt (q2f opIx (qVar 9) (qC (.int 0))) (q2f opIx (qVar 4) (qC (.int 0))))) qNil))) (gdName 6))
  (sSeq (sAsg lk [7] (e2f opIxF (eCall g__law_distances (xSlot 0 (xSlot 1 (xSlot 6 xNil)))) (eVar 5)) (gdName 7))
  (sIf (tOfQ (qOr (tqf (q2f opNe (qVar 7) (q2f opIx (qVar 4) (qC (.int 1))))) (tqf (q2f opLe (q1L opAbs (qCons (qVar 7) qNil)) (q2f opIx (qVar 1) (qC (.int 2))))))) (sRet (eOf (qC (.bl false)))) sNil))) sNil)
def b__law_are_reasons (lk : Lks) : Ev → Option Out := (sSeq (sAsg lk [3] (e1L opLen (eCons (eCompQ [8] 0 (gdName 8) (tOfQ (qNot (tqf (q1L opIsi (qCons (qVar 8) (qCons (qC (.ty "int")) qNil)))))) (eVar 8)) eNil)) (gdName 3))
  (sSeq (sIf (tOfQ (qOr (qNot (tqf (q1L opIsi (qCons (qVar 2) (qCons (qC (.ty "tuple")) qNil))))) (tqf (q2f opNe (q1L opLen (qCons (qVar 2) qNil)) (qVar 3))))) (sRet (eOf (qC (.bl false)))) sNil)
  (sSeq (sForQ lk 2 [4] (gdName 4) l__law_are_reasons_1)
  (sSeq (sFor lk [5, 4] (iEnum (eCons (eVar 2) eNil)) (gdTup 2 (gdCons (gdName 5) (gdCons (gdName 4) gdNil))) (l__law_are_reasons_2 lk))
  (sRet (eOf (qC (.bl true))))))))
abbrev g__law_are_reasons : Fs := runD 11 3 b__law_are_reasons
theorem ok__law_are_reasons {P : Program} {w : World} {K : PySem.W.Frag} {mg : Str → Option Value} {base : Heap} (nb : NoB K mg) (T : Top K mg "_law_are_reasons" s__law_are_reasons ["line", "sizes", "thing"]) (C__law_is_number : Ca P w K mg base 1 "_law_is_number" ["thing", "low", "high"] g__law_is_number) (C__law_distances : Ca P w K mg base 1 "_law_distances" ["line", "sizes", "lengths"] g__law_distances) : Ca P w K mg base 2 "_law_are_reasons" ["line", "sizes", "thing"] g__law_are_reasons :=
  ca_of (k := 1) T sc__law_are_reasons fun lk => (sd_cons (sd_set (i := 3) sc__law_are_reasons.nd (by rfl) (.inl (by kernel_rfl)) (pd_callB cy_len ok_len (by kernel_rfl) nb.b_len bb_len (da_cons (pd_compQ (own := [("item", 8)]) (ts := [8]) (j := 0) sc__law_are_reasons.nd (by rfl) (.inl (by kernel_rfl)) (blk_mk (by kernel_rfl)) (gd_name (i := 8) sc__law_are_reasons.nd (by rfl) (.inl (by kernel_rfl)) (hf := .inr (by kernel_rfl))) (ts_one (td_of (tq_not (tq_val (pq_callB cy_isi ok_isi (by kernel_rfl) nb.b_isinstance bb_isinstance (qa_cons (pq_var (i := 8) (by rfl) (.inl (by kernel_rfl))) (qa_cons (pq_ty (T := "int") (by kernel_rfl) nb.b_int bb_int) qa_nil))))))) (pd_var (i := 8) (by rfl) (.inl (by kernel_rfl))) (by decide) (by decide) (by decide)) da_nil)) (hf := .inl rfl))
    (sd_cons (sd_if (td_of (tq_w (wq_or (tq_not (tq_val (pq_callB cy_isi ok_isi (by kernel_rfl) nb.b_isinstance bb_isinstance (qa_cons (pq_var (i := 2) (by rfl) (.inl (by kernel_rfl))) (qa_cons (pq_ty (T := "tuple") (by kernel_rfl) nb.b_tuple bb_tuple) qa_nil))))) (wq_or1 (tq_cmp oy_ne ok_ne (pq_callB cy_len ok_len (by kernel_rfl) nb.b_len bb_len (qa_cons (pq_var (i := 2) (by rfl) (.inl (by kernel_rfl))) qa_nil)) (pq_var (i := 3) (by rfl) (.inl (by kernel_rfl))) (nomark _)))))) (sd_one (sd_ret (pd_of pq_bl))) sd_nil)
    (sd_cons (sd_forQ (i := 2) (ts := [4]) (by rfl) (.inl (by kernel_rfl)) (gd_name (i := 4) sc__law_are_reasons.nd (by rfl) (.inr (by kernel_rfl)) (hf := .inl rfl)) (fun lk => (sd_one (sd_if (td_w (wd_and (td_of (tq_cmp oy_isnot ok_isnot (pq_var (i := 4) (by rfl) (.inr (.inl (by kernel_rfl)))) pq_non (nomark _))) (wd_and1 (td_w (wd_or (td_of (tq_not (tq_val (pq_callB cy_isi ok_isi (by kernel_rfl) nb.b_isinstance bb_isinstance (qa_cons (pq_var (i := 4) (by rfl) (.inr (.inl (by kernel_rfl)))) (qa_cons (pq_ty (T := "tuple") (by kernel_rfl) nb.b_tuple bb_tuple) qa_nil)))))) (wd_or (td_of (tq_cmp oy_ne ok_ne (pq_callB cy_len ok_len (by kernel_rfl) nb.b_len bb_len (qa_cons (pq_var (i := 4) (by rfl) (.inr (.inl (by kernel_rfl)))) qa_nil)) pq_int (nomark _))) (wd_or1 (td_cmp oy_ne ok_ne (pd_compQ (own := [("part", 10)]) (ts := [10]) (j := 4) sc__law_are_reasons.nd (by rfl) (.inr (.inl (by kernel_rfl))) (blk_mk (by kernel_rfl)) (gd_name (i := 10) sc__law_are_reasons.nd (by rfl) (.inl (by kernel_rfl)) (hf := .inr (by kernel_rfl))) (ts_one (td_not (td_val (pd_callC (C__law_is_number.mono (Nat.le_of_ble_eq_true rfl)) (by kernel_rfl) (px_slot (i := 10) (by rfl) (.inl (by kernel_rfl)) (px_val (pd_of (pq_un uy_neg ok_neg (pq_bin oy_pow ok_pow pq_int pq_int))) (px_val (pn_bin oy_pow ok_pow pq_int pq_int) px_nil))))))) (pd_var (i := 10) (by rfl) (.inl (by kernel_rfl))) (by decide) (by decide) (by decide)) (pd_lst da_nil) (nomark _))))))))) (sd_one (sd_ret (pd_of pq_bl))) sd_nil))))
    (sd_cons (sd_for (ts := [5, 4]) (id_enum (by kernel_rfl) nb.b_enumerate (da_cons (pd_var (i := 2) (by rfl) (.inl (by kernel_rfl))) da_nil)) (gd_tup (gds_cons (gd_name (i := 5) sc__law_are_reasons.nd (by rfl) (.inl (by kernel_rfl)) (hf := .inl rfl)) (gds_cons (gd_name (i := 4) sc__law_are_reasons.nd (by rfl) (.inr (by kernel_rfl)) (hf := .inl rfl)) gds_nil))) (sd_one (sd_if (td_of (tq_cmp oy_isnot ok_isnot (pq_var (i := 4) (by rfl) (.inr (.inl (by kernel_rfl)))) pq_non (nomark _))) (sd_cons (sd_setCompQ (i := 6) (own := [("other", 9)]) (ts := [9]) (j := 2) sc__law_are_reasons.nd (by rfl) (by kernel_rfl) (by rfl) (by rfl) (by kernel_rfl) (by rfl) (.inl (by kernel_rfl)) (blk_mk (by kernel_rfl)) (gd_name (i := 9) sc__law_are_reasons.nd (by rfl) (.inl (by kernel_rfl)) (hf := .inr (by kernel_rfl))) ts_nil (pn_callT cy_int ok_int (by kernel_rfl) nb.b_int bb_int (qa_cons (pq_and (pq_cmp oy_isnot ok_isnot (pq_var (i := 9) (by rfl) (.inl (by kernel_rfl))) pq_non (nomark _)) (pq_one (pq_cmp oy_lt ok_lt (pq_ix (pq_var (i := 9) (by rfl) (.inl (by kernel_rfl))) pq_int) (pq_ix (pq_var (i := 4) (by rfl) (.inr (.inl (by kernel_rfl)))) pq_int) (nomark _)))) qa_nil)) (by decide) (by decide) (by decide))
    (sd_cons (sd_set (i := 7) sc__law_are_reasons.nd (by rfl) (.inl (by kernel_rfl)) (pd_ix (pd_callC (C__law_distances.mono (Nat.le_of_ble_eq_true rfl)) (by kernel_rfl) (px_slot (i := 0) (by rfl) (.inl (by kernel_rfl)) (px_slot (i := 1) (by rfl) (.inl (by kernel_rfl)) (px_slot (i := 6) (by rfl) (.inl (by kernel_rfl)) px_nil)))) (pd_var (i := 5) (by rfl) (.inl (by kernel_rfl)))) (hf := .inl rfl))
    (sd_one (sd_if (td_of (tq_w (wq_or (tq_cmp oy_ne ok_ne (pq_var (i := 7) (by rfl) (.inl (by kernel_rfl))) (pq_ix (pq_var (i := 4) (by rfl) (.inr (.inl (by kernel_rfl)))) pq_int) (nomark _)) (wq_or1 (tq_cmp oy_le ok_le (pq_callB cy_abs ok_abs (by kernel_rfl) nb.b_abs bb_abs (qa_cons (pq_var (i := 7) (by rfl) (.inl (by kernel_rfl))) qa_nil)) (pq_ix (pq_var (i := 1) (by rfl) (.inl (by kernel_rfl))) pq_int) (nomark _)))))) (sd_one (sd_ret (pd_of pq_bl))) sd_nil)))) sd_nil)))
    (sd_one (sd_ret (pd_of pq_bl)))))))
/-! law -/
abbrev s_law : Stmt := topS 25
theorem sc_law : FnScope ["script", "bag", "turn", "line", "short", "sizes", "least", "told", "lots", "right", "k", "others", "again", "thing", "lap", "many", "chain", "one", "bit"] ["script"] (defScope s_law) := ⟨rfl, rfl, rfl, by decide +kernel, rfl, by decide +kernel, by decide +kernel⟩
def l_law_1 (lk : Lks) : Ev → Option Out := (sIf (tdf (e2f opNe (e2f opEq (e1L opMin (eCons (eCompQ [17] 9 (gdName 17) dYes (eOf (q2f opIx (qVar 17) (qVar 10)))) eNil)) (eOf (qC (.int 1)))) (eOf (q2f opIsNot (q2f opIx (qVar 7) (qVar 10)) (qC .non))))) (sRet (eOf (qC (.bl false)))) sNil)
def l_law_2 (lk : Lks) : Ev → Option Out := (sAsg lk [13] (eIf (dAnd (tOfQ (tqf (q1L opIsi (qCons (qVar 13) (qCons (qC (.ty "tuple")) qNil))))) (tdf (eCall g__law_are_reasons (xSlot 3 (xSlot 5 (xSlot 13 xNil)))))) (eCall g__law_bent_reasons (xSlot 1 (xSlot 13 xNil))) (eVar 13)) (gdName 13))
def l_law_3 (lk : Lks) : Ev → Option Out := (sSeq (sAsg lk [13] (eVar 7) (gdName 13))
  (sSeq (sFor lk [14] (iRange (eCons (eCall g__law_take (xSlot 1 (xVal (eOf (qC (.int 3))) xNil))) eNil)) (gdName 14) (l_law_2 lk))
  (sIf (dNot (tdf (eCall g__law_alike (xVal (eCall g_are_reasons (xSlot 3 (xSlot 5 (xSlot 13 xNil)))) (xVal (eCall g__law_are_reasons (xSlot 3 (xSlot 5 (xSlot 13 xNil)))) xNil))))) (sRet (eOf (qC (.bl false)))) sNil)))
def l_law_4 (lk : Lks) : Ev → Option Out := (sSeq (sAsg lk [3, 4] (eTup (eCons (eCall g__law_line (xSlot 1 xNil)) (eCons (e2f opAdd (eOf (qC (.int 1))) (eCall g__law_take (xSlot 1 (xVal (eOf (qC (.int 2))) xNil)))) eNil))) (gdTup 2 (gdCons (gdName 3) (gdCons (gdName 4) gdNil))))
  (sSeq (sAsg lk [5] (eTup (eCons (eVar 4) (eCons (e2f opAdd (eVar 4) (eCall g__law_take (xSlot 1 (xVal (eOf (qC (.int 4))) xNil)))) (eCons (eCall g__law_take (xSlot 1 (xVal (eOf (qC (.int 8))) xNil))) eNil)))) (gdName 5))
  (sSeq (sAsg lk [6, 7] (eCall g__law_rounds (xSlot 3 (xSlot 5 xNil))) (gdTup 2 (gdCons (gdName 6) (gdCons (gdName 7) gdNil))))
  (sSeq (sIf (dOr (dNot (tdf (eCall g__law_alike (xVal (eLst (eCons (eCall g_least_lengths (xSlot 3 (xSlot 5 xNil))) (eCons (eCall g_reasons (xSlot 3 (xSlot 5 xNil))) eNil))) (xVal (eLst (eCons (eVar 6) (eCons (eVar 7) eNil))) xNil))))) (dNot (tdf (eCall g__law_is_right (xSlot 3 (xSlot 5 (xSlot 6 xNil))))))) (sRet (eOf (qC (.bl false)))) sNil)
  (sSeq (sAsg lk [8] (eIf (tOfQ (tqf (q2f opLt (q1L opLen (qCons (qVar 6) qNil)) (qC (.int 6))))) (eCall g__law_all_bits (xVal (n1L opLen (qCons (qVar 6) qNil)) xNil)) (eLst (eCons (eVar 6) eNil))) (gdName 8))
  (sSeq (sAsg lk [9] (eCompQ [17] 8 (gdName 17) (tdf (eCall g__law_is_right (xSlot 3 (xSlot 5 (xSlot 17 xNil))))) (eVar 17)) (gdName 9))
  (sSeq (sIf (dNot (tdf (eCall g__law_alike (xVal (eComp [17] (iSeq (nSl (qVar 8) qNo (qPart (qC (.int 12))))) (gdName 17) dYes (eCall g_are_right (xSlot 3 (xSlot 5 (xSlot 17 xNil))))) (xVal (eComp [17] (iSeq (nSl (qVar 8) qNo (qPart (qC (.int 12))))) (gdName 17) dYes (eCall g__law_is_right (xSlot 3 (xSlot 5 (xSlot 17 xNil))))) xNil))))) (sRet (eOf (qC (.bl false)))) sNil)
  (sSeq (sFor lk [10] (iRange (eCons (n1L opLen (qCons (qVar 6) qNil)) eNil)) (gdName 10) (l_law_1 lk))
  (sSeq (sAsg lk [11] (eLst (eCons (eVar 6) (eCons (nSl (qVar 6) (qPart (qC (.int 1))) qNo) (eCons (n2f opAdd (qVar 6) (qTup (qCons (qC (.int 0)) qNil))) (eCons (n1L opList (qCons (qVar 6) qNil)) (eCons (eOf (qC .non)) (eCons (e1L opTuple (eCons (eCompQ [18] 6 (gdName 18) dYes (eOf (q2f opEq (qVar 18) (qC (.int 1))))) eNil)) (eCons (e1L opTuple (eCons (eCompQ [18] 6 (gdName 18) dYes (eOf (qC (.int 2)))) eNil)) eNil)))))))) (gdName 11))
  (sSeq (sIf (dNot (tdf (eCall g__law_alike (xVal (eCompQ [17] 11 (gdName 17) dYes (eCall g_are_right (xSlot 3 (xSlot 5 (xSlot 17 xNil))))) (xVal (eCompQ [17] 11 (gdName 17) dYes (eCall g__law_is_right (xSlot 3 (xSlot 5 (xSlot 17 xNil))))) xNil))))) (sRet (eOf (qC (.bl false)))) sNil)
  (sFor lk [12] (iRange (eCons (eOf (qC (.int 4))) eNil)) (gdName 12) (l_law_3 lk))))))))))))
def b_law (lk : Lks) : Ev → Option Out := (sSeq (sAsg lk [1] (eCall g__law_bag (xSlot 0 xNil)) (gdName 1))
  (sSeq (sFor lk [2] (iRange (eCons (eOf (qC (.int 8))) eNil)) (gdName 2) (l_law_4 lk))
  (sSeq (sAsg lk [15] (e2f opAdd (eOf (qC (.int 5))) (eCall g__law_take (xSlot 1 (xVal (eOf (qC (.int 30))) xNil)))) (gdName 15))
  (sSeq (sAsg lk [16] (e2f opAdd (e1L opTuple (eCons (eComp [10] (iRange (eCons (eVar 15) eNil)) (gdName 10) dYes (eTup (eCons (eOf (qC (.str "to"))) (eCons (n2f opAdd (q2f opAdd (qVar 10) (qC (.int 1))) (q1L opInt (qCons (q2f opLt (q2f opAdd (qVar 10) (qC (.int 1))) (qVar 15)) qNil))) eNil)))) eNil)) (eTup (eCons (eOf (qC (.int 0))) eNil))) (gdName 16))
  (sRet (eCall g__law_alike (xVal (eLst (eCons (eCall g_least_lengths (xSlot 16 (xVal (eTup (eCons (eOf (qC (.int 1))) (eCons (eOf (qC (.int 3))) (eCons (eOf (qC (.int 1))) eNil)))) xNil))) (eCons (eCall g_least_lengths (xSlot 16 (xVal (eTup (eCons (eOf (qC (.int 1))) (eCons (eOf (qC (.int 3))) (eCons (eOf (qC (.int 0))) eNil)))) xNil))) eNil))) (xVal (eLst (eCons (e2f opIxF (eCall g__law_rounds (xSlot 16 (xVal (eTup (eCons (eOf (qC (.int 1))) (eCons (eOf (qC (.int 3))) (eCons (eOf (qC (.int 1))) eNil)))) xNil))) (eOf (qC (.int 0)))) (eCons (e2f opIxF (eCall g__law_rounds (xSlot 16 (xVal (eTup (eCons (eOf (qC (.int 1))) (eCons (eOf (qC (.int 3))) (eCons (eOf (qC (.int 0))) eNil)))) xNil))) (eOf (qC (.int 0)))) eNil))) xNil))))))))
abbrev g_law : Fs := runD 19 1 b_law
theorem fn_law {P : Program} {w : World} {K : PySem.W.Frag} {mg : Str → Option Value} {base : Heap} {a : Addr} {fd : FuncData} (nb : NoB K mg) (F : Fun K "law" "law" s_law a fd) (C__law_bag : Ca P w K mg base 1 "_law_bag" ["script"] g__law_bag) (C__law_line : Ca P w K mg base 3 "_law_line" ["bag"] g__law_line) (C__law_take : Ca P w K mg base 1 "_law_take" ["bag", "many"] g__law_take) (C__law_rounds : Ca P w K mg base 2 "_law_rounds" ["line", "sizes"] g__law_rounds) (C__law_alike : Ca P w K mg base 1 "_law_alike" ["found", "due"] g__law_alike) (C_least_lengths : Ca P w K mg base 5 "least_lengths" ["line", "sizes"] g_least_lengths) (C_reasons : Ca P w K mg base 4 "reasons" ["line", "sizes"] g_reasons) (C__law_is_right : Ca P w K mg base 2 "_law_is_right" ["line", "sizes", "thing"] g__law_is_right) (C__law_all_bits : Ca P w K mg base 1 "_law_all_bits" ["many"] g__law_all_bits) (C_are_right : Ca P w K mg base 4 "are_right" ["line", "sizes", "thing"] g_are_right) (C__law_are_reasons : Ca P w K mg base 2 "_law_are_reasons" ["line", "sizes", "thing"] g__law_are_reasons) (C__law_bent_reasons : Ca P w K mg base 3 "_law_bent_reasons" ["bag", "told"] g__law_bent_reasons) (C_are_reasons : Ca P w K mg base 4 "are_reasons" ["line", "sizes", "thing"] g_are_reasons) : FnG P w K mg base 6 a fd ["script"] g_law :=
  fnG_of (k := 5) F sc_law fun lk => (sd_cons (sd_set (i := 1) sc_law.nd (by rfl) (.inl (by kernel_rfl)) (pd_callC (C__law_bag.mono (Nat.le_of_ble_eq_true rfl)) (by kernel_rfl) (px_slot (i := 0) (by rfl) (.inl (by kernel_rfl)) px_nil)) (hf := .inl rfl))
    (sd_cons (sd_for (ts := [2]) (id_range1 (by kernel_rfl) nb.b_range (da_cons (pd_of pq_int) da_nil) (len_eCons len_eNil)) (gd_name (i := 2) sc_law.nd (by rfl) (.inl (by kernel_rfl)) (hf := .inl rfl)) (sd_cons (sd_asg (ts := [3, 4]) (pd_tup (da_cons (pd_callC (C__law_line.mono (Nat.le_of_ble_eq_true rfl)) (by kernel_rfl) (px_slot (i := 1) (by rfl) (.inl (by kernel_rfl)) px_nil)) (da_cons (pd_bin oy_add ok_add (pd_of pq_int) (pd_callC (C__law_take.mono (Nat.le_of_ble_eq_true rfl)) (by kernel_rfl) (px_slot (i := 1) (by rfl) (.inl (by kernel_rfl)) (px_val (pd_of pq_int) px_nil)))) da_nil))) (gd_tup (gds_cons (gd_name (i := 3) sc_law.nd (by rfl) (.inr (by kernel_rfl)) (hf := .inl rfl)) (gds_cons (gd_name (i := 4) sc_law.nd (by rfl) (.inl (by kernel_rfl)) (hf := .inl rfl)) gds_nil))) (hw := fun X h => (sw_scope h).trans (by kernel_rfl)))
    (sd_cons (sd_set (i := 5) sc_law.nd (by rfl) (.inr (by kernel_rfl)) (pd_tup (da_cons (pd_var (i := 4) (by rfl) (.inl (by kernel_rfl))) (da_cons (pd_bin oy_add ok_add (pd_var (i := 4) (by rfl) (.inl (by kernel_rfl))) (pd_callC (C__law_take.mono (Nat.le_of_ble_eq_true rfl)) (by kernel_rfl) (px_slot (i := 1) (by rfl) (.inl (by kernel_rfl)) (px_val (pd_of pq_int) px_nil)))) (da_cons (pd_callC (C__law_take.mono (Nat.le_of_ble_eq_true rfl)) (by kernel_rfl) (px_slot (i := 1) (by rfl) (.inl (by kernel_rfl)) (px_val (pd_of pq_int) px_nil))) da_nil)))) (hf := .inl rfl))
    (sd_cons (sd_asg (ts := [6, 7]) (pd_callC (C__law_rounds.mono (Nat.le_of_ble_eq_true rfl)) (by kernel_rfl) (px_slot (i := 3) (by rfl) (.inr (.inl (by kernel_rfl))) (px_slot (i := 5) (by rfl) (.inr (.inl (by kernel_rfl))) px_nil))) (gd_tup (gds_cons (gd_name (i := 6) sc_law.nd (by rfl) (.inl (by kernel_rfl)) (hf := .inl rfl)) (gds_cons (gd_name (i := 7) sc_law.nd (by rfl) (.inl (by kernel_rfl)) (hf := .inl rfl)) gds_nil))))
    (sd_cons (sd_if (td_w (wd_or (td_not (td_val (pd_callC (C__law_alike.mono (Nat.le_of_ble_eq_true rfl)) (by kernel_rfl) (px_val (pd_lst (da_cons (pd_callC (C_least_lengths.mono (Nat.le_of_ble_eq_true rfl)) (by kernel_rfl) (px_slot (i := 3) (by rfl) (.inr (.inl (by kernel_rfl))) (px_slot (i := 5) (by rfl) (.inr (.inl (by kernel_rfl))) px_nil))) (da_cons (pd_callC (C_reasons.mono (Nat.le_of_ble_eq_true rfl)) (by kernel_rfl) (px_slot (i := 3) (by rfl) (.inr (.inl (by kernel_rfl))) (px_slot (i := 5) (by rfl) (.inr (.inl (by kernel_rfl))) px_nil))) da_nil))) (px_val (pd_lst (da_cons (pd_var (i := 6) (by rfl) (.inl (by kernel_rfl))) (da_cons (pd_var (i := 7) (by rfl) (.inl (by kernel_rfl))) da_nil))) px_nil))))) (wd_or1 (td_not (td_val (pd_callC (C__law_is_right.mono (Nat.le_of_ble_eq_true rfl)) (by kernel_rfl) (px_slot (i := 3) (by rfl) (.inr (.inl (by kernel_rfl))) (px_slot (i := 5) (by rfl) (.inr (.inl (by kernel_rfl))) (px_slot (i := 6) (by rfl) (.inl (by kernel_rfl)) px_nil))))))))) (sd_one (sd_ret (pd_of pq_bl))) sd_nil)
    (sd_cons (sd_set (i := 8) sc_law.nd (by rfl) (.inl (by kernel_rfl)) (pd_if (td_of (tq_cmp oy_lt ok_lt (pq_callB cy_len ok_len (by kernel_rfl) nb.b_len bb_len (qa_cons (pq_var (i := 6) (by rfl) (.inl (by kernel_rfl))) qa_nil)) pq_int (nomark _))) (pd_callC (C__law_all_bits.mono (Nat.le_of_ble_eq_true rfl)) (by kernel_rfl) (px_val (pn_callB cy_len ok_len (by kernel_rfl) nb.b_len bb_len (qa_cons (pq_var (i := 6) (by rfl) (.inl (by kernel_rfl))) qa_nil)) px_nil)) (pd_lst (da_cons (pd_var (i := 6) (by rfl) (.inl (by kernel_rfl))) da_nil))) (hf := .inl rfl))
    (sd_cons (sd_setCompQ (i := 9) (own := [("one", 17)]) (ts := [17]) (j := 8) sc_law.nd (by rfl) (by kernel_rfl) (by rfl) (by rfl) (by kernel_rfl) (by rfl) (.inl (by kernel_rfl)) (blk_mk (by kernel_rfl)) (gd_name (i := 17) sc_law.nd (by rfl) (.inl (by kernel_rfl)) (hf := .inr (by kernel_rfl))) (ts_one (td_val (pd_callC (C__law_is_right.mono (Nat.le_of_ble_eq_true rfl)) (by kernel_rfl) (px_slot (i := 3) (by rfl) (.inr (.inl (by kernel_rfl))) (px_slot (i := 5) (by rfl) (.inr (.inl (by kernel_rfl))) (px_slot (i := 17) (by rfl) (.inl (by kernel_rfl)) px_nil)))))) (pd_var (i := 17) (by rfl) (.inl (by kernel_rfl))) (by decide) (by decide) (by decide))
    (sd_cons (sd_if (td_not (td_val (pd_callC (C__law_alike.mono (Nat.le_of_ble_eq_true rfl)) (by kernel_rfl) (px_val (pd_comp (own := [("one", 17)]) (ts := [17]) sc_law.nd (id_seq (pn_sl (pq_var (i := 8) (by rfl) (.inl (by kernel_rfl))) qo_none (qo_some pq_int))) (blk_mk (by kernel_rfl)) (gd_name (i := 17) sc_law.nd (by rfl) (.inl (by kernel_rfl)) (hf := .inr (by kernel_rfl))) ts_nil (pd_callC (C_are_right.mono (Nat.le_of_ble_eq_true rfl)) (by kernel_rfl) (px_slot (i := 3) (by rfl) (.inr (.inl (by kernel_rfl))) (px_slot (i := 5) (by rfl) (.inr (.inl (by kernel_rfl))) (px_slot (i := 17) (by rfl) (.inl (by kernel_rfl)) px_nil)))) (by decide) (by decide)) (px_val (pd_comp (own := [("one", 17)]) (ts := [17]) sc_law.nd (id_seq (pn_sl (pq_var (i := 8) (by rfl) (.inl (by kernel_rfl))) qo_none (qo_some pq_int))) (blk_mk (by kernel_rfl)) (gd_name (i := 17) sc_law.nd (by rfl) (.inl (by kernel_rfl)) (hf := .inr (by kernel_rfl))) ts_nil (pd_callC (C__law_is_right.mono (Nat.le_of_ble_eq_true rfl)) (by kernel_rfl) (px_slot (i := 3) (by rfl) (.inr (.inl (by kernel_rfl))) (px_slot (i := 5) (by rfl) (.inr (.inl (by kernel_rfl))) (px_slot (i := 17) (by rfl) (.inl (by kernel_rfl)) px_nil)))) (by decide) (by decide)) px_nil))))) (sd_one (sd_ret (pd_of pq_bl))) sd_nil)
    (sd_cons (sd_for (ts := [10]) (id_range1 (by kernel_rfl) nb.b_range (da_cons (pn_callB cy_len ok_len (by kernel_rfl) nb.b_len bb_len (qa_cons (pq_var (i := 6) (by rfl) (.inl (by kernel_rfl))) qa_nil)) da_nil) (len_eCons len_eNil)) (gd_name (i := 10) sc_law.nd (by rfl) (.inr (by kernel_rfl)) (hf := .inl rfl)) (sd_one (sd_if (td_cmp oy_ne ok_ne (pd_cmp oy_eq ok_eq (pd_callB cy_min ok_min (by kernel_rfl) nb.b_min bb_min (da_cons (pd_compQ (own := [("one", 17)]) (ts := [17]) (j := 9) sc_law.nd (by rfl) (.inl (by kernel_rfl)) (blk_mk (by kernel_rfl)) (gd_name (i := 17) sc_law.nd (by rfl) (.inl (by kernel_rfl)) (hf := .inr (by kernel_rfl))) ts_nil (pd_of (pq_ix (pq_var (i := 17) (by rfl) (.inl (by kernel_rfl))) (pq_var (i := 10) (by rfl) (.inr (.inl (by kernel_rfl)))))) (by decide) (by decide) (by decide)) da_nil)) (pd_of pq_int) (nomark _)) (pd_of (pq_cmp oy_isnot ok_isnot (pq_ix (pq_var (i := 7) (by rfl) (.inl (by kernel_rfl))) (pq_var (i := 10) (by rfl) (.inr (.inl (by kernel_rfl))))) pq_non (nomark _))) (nomark _)) (sd_one (sd_ret (pd_of pq_bl))) sd_nil)))
    (sd_cons (sd_set (i := 11) sc_law.nd (by rfl) (.inl (by kernel_rfl)) (pd_lst (da_cons (pd_var (i := 6) (by rfl) (.inl (by kernel_rfl))) (da_cons (pn_sl (pq_var (i := 6) (by rfl) (.inl (by kernel_rfl))) (qo_some pq_int) qo_none) (da_cons (pn_bin oy_add ok_add (pq_var (i := 6) (by rfl) (.inl (by kernel_rfl))) (pq_tup (qa_cons pq_int qa_nil))) (da_cons (pn_callT cy_list ok_list (by kernel_rfl) nb.b_list bb_list (qa_cons (pq_var (i := 6) (by rfl) (.inl (by kernel_rfl))) qa_nil)) (da_cons (pd_of pq_non) (da_cons (pd_callT cy_tuple ok_tuple (by kernel_rfl) nb.b_tuple bb_tuple (da_cons (pd_compQ (own := [("bit", 18)]) (ts := [18]) (j := 6) sc_law.nd (by rfl) (.inl (by kernel_rfl)) (blk_mk (by kernel_rfl)) (gd_name (i := 18) sc_law.nd (by rfl) (.inl (by kernel_rfl)) (hf := .inr (by kernel_rfl))) ts_nil (pd_of (pq_cmp oy_eq ok_eq (pq_var (i := 18) (by rfl) (.inl (by kernel_rfl))) pq_int (nomark _))) (by decide) (by decide) (by decide)) da_nil)) (da_cons (pd_callT cy_tuple ok_tuple (by kernel_rfl) nb.b_tuple bb_tuple (da_cons (pd_compQ (own := [("bit", 18)]) (ts := [18]) (j := 6) sc_law.nd (by rfl) (.inl (by kernel_rfl)) (blk_mk (by kernel_rfl)) (gd_name (i := 18) sc_law.nd (by rfl) (.inl (by kernel_rfl)) (hf := .inr (by kernel_rfl))) ts_nil (pd_of pq_int) (by decide) (by decide) (by decide)) da_nil)) da_nil)))))))) (hf := .inl rfl))
    (sd_cons (sd_if (td_not (td_val (pd_callC (C__law_alike.mono (Nat.le_of_ble_eq_true rfl)) (by kernel_rfl) (px_val (pd_compQ (own := [("one", 17)]) (ts := [17]) (j := 11) sc_law.nd (by rfl) (.inl (by kernel_rfl)) (blk_mk (by kernel_rfl)) (gd_name (i := 17) sc_law.nd (by rfl) (.inl (by kernel_rfl)) (hf := .inr (by kernel_rfl))) ts_nil (pd_callC (C_are_right.mono (Nat.le_of_ble_eq_true rfl)) (by kernel_rfl) (px_slot (i := 3) (by rfl) (.inr (.inl (by kernel_rfl))) (px_slot (i := 5) (by rfl) (.inr (.inl (by kernel_rfl))) (px_slot (i := 17) (by rfl) (.inl (by kernel_rfl)) px_nil)))) (by decide) (by decide) (by decide)) (px_val (pd_compQ (own := [("one", 17)]) (ts := [17]) (j := 11) sc_law.nd (by rfl) (.inl (by kernel_rfl)) (blk_mk (by kernel_rfl)) (gd_name (i := 17) sc_law.nd (by rfl) (.inl (by kernel_rfl)) (hf := .inr (by kernel_rfl))) ts_nil (pd_callC (C__law_is_right.mono (Nat.le_of_ble_eq_true rfl)) (by kernel_rfl) (px_slot (i := 3) (by rfl) (.inr (.inl (by kernel_rfl))) (px_slot (i := 5) (by rfl) (.inr (.inl (by kernel_rfl))) (px_slot (i := 17) (by rfl) (.inl (by kernel_rfl)) px_nil)))) (by decide) (by decide) (by decide)) px_nil))))) (sd_one (sd_ret (pd_of pq_bl))) sd_nil)
    (sd_one (sd_for (ts := [12]) (id_range1 (by kernel_rfl) nb.b_range (da_cons (pd_of pq_int) da_nil) (len_eCons len_eNil)) (gd_name (i := 12) sc_law.nd (by rfl) (.inl (by kernel_rfl)) (hf := .inl rfl)) (sd_cons (sd_set (i := 13) sc_law.nd (by rfl) (.inl (by kernel_rfl)) (pd_var (i := 7) (by rfl) (.inl (by kernel_rfl))) (hf := .inl rfl))
    (sd_cons (sd_for (ts := [14]) (id_range1 (by kernel_rfl) nb.b_range (da_cons (pd_callC (C__law_take.mono (Nat.le_of_ble_eq_true rfl)) (by kernel_rfl) (px_slot (i := 1) (by rfl) (.inl (by kernel_rfl)) (px_val (pd_of pq_int) px_nil))) da_nil) (len_eCons len_eNil)) (gd_name (i := 14) sc_law.nd (by rfl) (.inl (by kernel_rfl)) (hf := .inl rfl)) (sd_one (sd_set (i := 13) sc_law.nd (by rfl) (.inl (by kernel_rfl)) (pd_if (td_w (wd_and (td_of (tq_val (pq_callB cy_isi ok_isi (by kernel_rfl) nb.b_isinstance bb_isinstance (qa_cons (pq_var (i := 13) (by rfl) (.inl (by kernel_rfl))) (qa_cons (pq_ty (T := "tuple") (by kernel_rfl) nb.b_tuple bb_tuple) qa_nil))))) (wd_and1 (td_val (pd_callC (C__law_are_reasons.mono (Nat.le_of_ble_eq_true rfl)) (by kernel_rfl) (px_slot (i := 3) (by rfl) (.inr (.inl (by kernel_rfl))) (px_slot (i := 5) (by rfl) (.inr (.inl (by kernel_rfl))) (px_slot (i := 13) (by rfl) (.inl (by kernel_rfl)) px_nil)))))))) (pd_callC (C__law_bent_reasons.mono (Nat.le_of_ble_eq_true rfl)) (by kernel_rfl) (px_slot (i := 1) (by rfl) (.inl (by kernel_rfl)) (px_slot (i := 13) (by rfl) (.inl (by kernel_rfl)) px_nil))) (pd_var (i := 13) (by rfl) (.inl (by kernel_rfl)))) (hf := .inl rfl))))
    (sd_one (sd_if (td_not (td_val (pd_callC (C__law_alike.mono (Nat.le_of_ble_eq_true rfl)) (by kernel_rfl) (px_val (pd_callC (C_are_reasons.mono (Nat.le_of_ble_eq_true rfl)) (by kernel_rfl) (px_slot (i := 3) (by rfl) (.inr (.inl (by kernel_rfl))) (px_slot (i := 5) (by rfl) (.inr (.inl (by kernel_rfl))) (px_slot (i := 13) (by rfl) (.inl (by kernel_rfl)) px_nil)))) (px_val (pd_callC (C__law_are_reasons.mono (Nat.le_of_ble_eq_true rfl)) (by kernel_rfl) (px_slot (i := 3) (by rfl) (.inr (.inl (by kernel_rfl))) (px_slot (i := 5) (by rfl) (.inr (.inl (by kernel_rfl))) (px_slot (i := 13) (by rfl) (.inl (by kernel_rfl)) px_nil)))) px_nil))))) (sd_one (sd_ret (pd_of pq_bl))) sd_nil)))))))))))))))))
    (sd_cons (sd_set (i := 15) sc_law.nd (by rfl) (.inr (by kernel_rfl)) (pd_bin oy_add ok_add (pd_of pq_int) (pd_callC (C__law_take.mono (Nat.le_of_ble_eq_true rfl)) (by kernel_rfl) (px_slot (i := 1) (by rfl) (.inl (by kernel_rfl)) (px_val (pd_of pq_int) px_nil)))) (hf := .inl rfl))
    (sd_cons (sd_set (i := 16) sc_law.nd (by rfl) (.inl (by kernel_rfl)) (pd_bin oy_add ok_add (pd_callT cy_tuple ok_tuple (by kernel_rfl) nb.b_tuple bb_tuple (da_cons (pd_comp (own := [("k", 10)]) (ts := [10]) sc_law.nd (id_range1 (by kernel_rfl) nb.b_range (da_cons (pd_var (i := 15) (by rfl) (.inr (.inl (by kernel_rfl)))) da_nil) (len_eCons len_eNil)) (blk_mk (by kernel_rfl)) (gd_name (i := 10) sc_law.nd (by rfl) (.inl (by kernel_rfl)) (hf := .inr (by kernel_rfl))) ts_nil (pd_tup (da_cons (pd_of pq_str) (da_cons (pn_bin oy_add ok_add (pq_bin oy_add ok_add (pq_var (i := 10) (by rfl) (.inl (by kernel_rfl))) pq_int) (pq_callT cy_int ok_int (by kernel_rfl) nb.b_int bb_int (qa_cons (pq_cmp oy_lt ok_lt (pq_bin oy_add ok_add (pq_var (i := 10) (by rfl) (.inl (by kernel_rfl))) pq_int) (pq_var (i := 15) (by rfl) (.inr (.inl (by kernel_rfl)))) (nomark _)) qa_nil))) da_nil))) (by decide) (by decide)) da_nil)) (pd_tup (da_cons (pd_of pq_int) da_nil))) (hf := .inl rfl))
    (sd_one (sd_ret (pd_callC (C__law_alike.mono (Nat.le_of_ble_eq_true rfl)) (by kernel_rfl) (px_val (pd_lst (da_cons (pd_callC (C_least_lengths.mono (Nat.le_of_ble_eq_true rfl)) (by kernel_rfl) (px_slot (i := 16) (by rfl) (.inl (by kernel_rfl)) (px_val (pd_tup (da_cons (pd_of pq_int) (da_cons (pd_of pq_int) (da_cons (pd_of pq_int) da_nil)))) px_nil))) (da_cons (pd_callC (C_least_lengths.mono (Nat.le_of_ble_eq_true rfl)) (by kernel_rfl) (px_slot (i := 16) (by rfl) (.inl (by kernel_rfl)) (px_val (pd_tup (da_cons (pd_of pq_int) (da_cons (pd_of pq_int) (da_cons (pd_of pq_int) da_nil)))) px_nil))) da_nil))) (px_val (pd_lst (da_cons (pd_ix (pd_callC (C__law_rounds.mono (Nat.le_of_ble_eq_true rfl)) (by kernel_rfl) (px_slot (i := 16) (by rfl) (.inl (by kernel_rfl)) (px_val (pd_tup (da_cons (pd_of pq_int) (da_cons (pd_of pq_int) (da_cons (pd_of pq_int) da_nil)))) px_nil))) (pd_of pq_int)) (da_cons (pd_ix (pd_callC (C__law_rounds.mono (Nat.le_of_ble_eq_true rfl)) (by kernel_rfl) (px_slot (i := 16) (by rfl) (.inl (by kernel_rfl)) (px_val (pd_tup (da_cons (pd_of pq_int) (da_cons (pd_of pq_int) (da_cons (pd_of pq_int) da_nil)))) px_nil))) (pd_of pq_int)) da_nil))) px_nil)))))))))
set_option maxHeartbeats 0 in
theorem all_mk {w : World} {P : Program} {K : PySem.W.Frag} {h : Heap} {mg : Str → Option Value} {fa f0 f1 f2 f3 f4 f5 f6 f7 f8 f9 f10 f11 f12 f13 f14 f15 f16 f17 f18 f19 f20 f21 f22 : Addr} (X : K.In h) (G : h.Ns mainGlobals mg) (hfa : mg "law" = some (.ref fa))
    {od0 an0 : Option Addr} {sl0 : Array (Option Value)} {oc0 kV0 dc0 pm0 cd0 ct0 : Value} (a0 : PySem.W.nsIn K mainGlobals "_law_bag" = some (some (.ref f0))) (l0 : K.lookup f0 = some ⟨oc0, od0, .func (PySem.W.fnOf "_law_bag" "_law_bag" (defArgs s__law_bag) (defBody s__law_bag) (defScope s__law_bag) .none kV0 dc0 pm0 an0 cd0 ct0), sl0⟩) (c0 : PySem.W.codeIn K cd0 "_law_bag" = true) (k0 : PySem.W.keepIn K (.ref f0) = true)
    {od1 an1 : Option Addr} {sl1 : Array (Option Value)} {oc1 kV1 dc1 pm1 cd1 ct1 : Value} (a1 : PySem.W.nsIn K mainGlobals "_law_alike" = some (some (.ref f1))) (l1 : K.lookup f1 = some ⟨oc1, od1, .func (PySem.W.fnOf "_law_alike" "_law_alike" (defArgs s__law_alike) (defBody s__law_alike) (defScope s__law_alike) .none kV1 dc1 pm1 an1 cd1 ct1), sl1⟩) (c1 : PySem.W.codeIn K cd1 "_law_alike" = true) (k1 : PySem.W.keepIn K (.ref f1) = true)
    {od2 an2 : Option Addr} {sl2 : Array (Option Value)} {oc2 kV2 dc2 pm2 cd2 ct2 : Value} (a2 : PySem.W.nsIn K mainGlobals "_law_distances" = some (some (.ref f2))) (l2 : K.lookup f2 = some ⟨oc2, od2, .func (PySem.W.fnOf "_law_distances" "_law_distances" (defArgs s__law_distances) (defBody s__law_distances) (defScope s__law_distances) .none kV2 dc2 pm2 an2 cd2 ct2), sl2⟩) (c2 : PySem.W.codeIn K cd2 "_law_distances" = true) (k2 : PySem.W.keepIn K (.ref f2) = true)
    {od3 an3 : Option Addr} {sl3 : Array (Option Value)} {oc3 kV3 dc3 pm3 cd3 ct3 : Value} (a3 : PySem.W.nsIn K mainGlobals "_law_rounds" = some (some (.ref f3))) (l3 : K.lookup f3 = some ⟨oc3, od3, .func (PySem.W.fnOf "_law_rounds" "_law_rounds" (defArgs s__law_rounds) (defBody s__law_rounds) (defScope s__law_rounds) .none kV3 dc3 pm3 an3 cd3 ct3), sl3⟩) (c3 : PySem.W.codeIn K cd3 "_law_rounds" = true) (k3 : PySem.W.keepIn K (.ref f3) = true)
    {od4 an4 : Option Addr} {sl4 : Array (Option Value)} {oc4 kV4 dc4 pm4 cd4 ct4 : Value} (a4 : PySem.W.nsIn K mainGlobals "_law_take" = some (some (.ref f4))) (l4 : K.lookup f4 = some ⟨oc4, od4, .func (PySem.W.fnOf "_law_take" "_law_take" (defArgs s__law_take) (defBody s__law_take) (defScope s__law_take) .none kV4 dc4 pm4 an4 cd4 ct4), sl4⟩) (c4 : PySem.W.codeIn K cd4 "_law_take" = true) (k4 : PySem.W.keepIn K (.ref f4) = true)
    {od5 an5 : Option Addr} {sl5 : Array (Option Value)} {oc5 kV5 dc5 pm5 cd5 ct5 : Value} (a5 : PySem.W.nsIn K mainGlobals "_law_some" = some (some (.ref f5))) (l5 : K.lookup f5 = some ⟨oc5, od5, .func (PySem.W.fnOf "_law_some" "_law_some" (defArgs s__law_some) (defBody s__law_some) (defScope s__law_some) .none kV5 dc5 pm5 an5 cd5 ct5), sl5⟩) (c5 : PySem.W.codeIn K cd5 "_law_some" = true) (k5 : PySem.W.keepIn K (.ref f5) = true)
    {od6 an6 : Option Addr} {sl6 : Array (Option Value)} {oc6 kV6 dc6 pm6 cd6 ct6 : Value} (a6 : PySem.W.nsIn K mainGlobals "_law_line" = some (some (.ref f6))) (l6 : K.lookup f6 = some ⟨oc6, od6, .func (PySem.W.fnOf "_law_line" "_law_line" (defArgs s__law_line) (defBody s__law_line) (defScope s__law_line) .none kV6 dc6 pm6 an6 cd6 ct6), sl6⟩) (c6 : PySem.W.codeIn K cd6 "_law_line" = true) (k6 : PySem.W.keepIn K (.ref f6) = true)
    {od7 an7 : Option Addr} {sl7 : Array (Option Value)} {oc7 kV7 dc7 pm7 cd7 ct7 : Value} (a7 : PySem.W.nsIn K mainGlobals "_law_all_bits" = some (some (.ref f7))) (l7 : K.lookup f7 = some ⟨oc7, od7, .func (PySem.W.fnOf "_law_all_bits" "_law_all_bits" (defArgs s__law_all_bits) (defBody s__law_all_bits) (defScope s__law_all_bits) .none kV7 dc7 pm7 an7 cd7 ct7), sl7⟩) (c7 : PySem.W.codeIn K cd7 "_law_all_bits" = true) (k7 : PySem.W.keepIn K (.ref f7) = true)
    {od8 an8 : Option Addr} {sl8 : Array (Option Value)} {oc8 kV8 dc8 pm8 cd8 ct8 : Value} (a8 : PySem.W.nsIn K mainGlobals "is_integer" = some (some (.ref f8))) (l8 : K.lookup f8 = some ⟨oc8, od8, .func (PySem.W.fnOf "is_integer" "is_integer" (defArgs s_is_integer) (defBody s_is_integer) (defScope s_is_integer) .none kV8 dc8 pm8 an8 cd8 ct8), sl8⟩) (c8 : PySem.W.codeIn K cd8 "is_integer" = true) (k8 : PySem.W.keepIn K (.ref f8) = true)
    {od9 an9 : Option Addr} {sl9 : Array (Option Value)} {oc9 kV9 dc9 pm9 cd9 ct9 : Value} (a9 : PySem.W.nsIn K mainGlobals "targets" = some (some (.ref f9))) (l9 : K.lookup f9 = some ⟨oc9, od9, .func (PySem.W.fnOf "targets" "targets" (defArgs s_targets) (defBody s_targets) (defScope s_targets) .none kV9 dc9 pm9 an9 cd9 ct9), sl9⟩) (c9 : PySem.W.codeIn K cd9 "targets" = true) (k9 : PySem.W.keepIn K (.ref f9) = true)
    {od10 an10 : Option Addr} {sl10 : Array (Option Value)} {oc10 kV10 dc10 pm10 cd10 ct10 : Value} (a10 : PySem.W.nsIn K mainGlobals "begins" = some (some (.ref f10))) (l10 : K.lookup f10 = some ⟨oc10, od10, .func (PySem.W.fnOf "begins" "begins" (defArgs s_begins) (defBody s_begins) (defScope s_begins) .none kV10 dc10 pm10 an10 cd10 ct10), sl10⟩) (c10 : PySem.W.codeIn K cd10 "begins" = true) (k10 : PySem.W.keepIn K (.ref f10) = true)
    {od11 an11 : Option Addr} {sl11 : Array (Option Value)} {oc11 kV11 dc11 pm11 cd11 ct11 : Value} (a11 : PySem.W.nsIn K mainGlobals "distances" = some (some (.ref f11))) (l11 : K.lookup f11 = some ⟨oc11, od11, .func (PySem.W.fnOf "distances" "distances" (defArgs s_distances) (defBody s_distances) (defScope s_distances) .none kV11 dc11 pm11 an11 cd11 ct11), sl11⟩) (c11 : PySem.W.codeIn K cd11 "distances" = true) (k11 : PySem.W.keepIn K (.ref f11) = true)
    {od12 an12 : Option Addr} {sl12 : Array (Option Value)} {oc12 kV12 dc12 pm12 cd12 ct12 : Value} (a12 : PySem.W.nsIn K mainGlobals "reasons" = some (some (.ref f12))) (l12 : K.lookup f12 = some ⟨oc12, od12, .func (PySem.W.fnOf "reasons" "reasons" (defArgs s_reasons) (defBody s_reasons) (defScope s_reasons) .none kV12 dc12 pm12 an12 cd12 ct12), sl12⟩) (c12 : PySem.W.codeIn K cd12 "reasons" = true) (k12 : PySem.W.keepIn K (.ref f12) = true)
    {od13 an13 : Option Addr} {sl13 : Array (Option Value)} {oc13 kV13 dc13 pm13 cd13 ct13 : Value} (a13 : PySem.W.nsIn K mainGlobals "least_lengths" = some (some (.ref f13))) (l13 : K.lookup f13 = some ⟨oc13, od13, .func (PySem.W.fnOf "least_lengths" "least_lengths" (defArgs s_least_lengths) (defBody s_least_lengths) (defScope s_least_lengths) .none kV13 dc13 pm13 an13 cd13 ct13), sl13⟩) (c13 : PySem.W.codeIn K cd13 "least_lengths" = true) (k13 : PySem.W.keepIn K (.ref f13) = true)
    {od14 an14 : Option Addr} {sl14 : Array (Option Value)} {oc14 kV14 dc14 pm14 cd14 ct14 : Value} (a14 : PySem.W.nsIn K mainGlobals "_law_is_number" = some (some (.ref f14))) (l14 : K.lookup f14 = some ⟨oc14, od14, .func (PySem.W.fnOf "_law_is_number" "_law_is_number" (defArgs s__law_is_number) (defBody s__law_is_number) (defScope s__law_is_number) .none kV14 dc14 pm14 an14 cd14 ct14), sl14⟩) (c14 : PySem.W.codeIn K cd14 "_law_is_number" = true) (k14 : PySem.W.keepIn K (.ref f14) = true)
    {od15 an15 : Option Addr} {sl15 : Array (Option Value)} {oc15 kV15 dc15 pm15 cd15 ct15 : Value} (a15 : PySem.W.nsIn K mainGlobals "_law_is_right" = some (some (.ref f15))) (l15 : K.lookup f15 = some ⟨oc15, od15, .func (PySem.W.fnOf "_law_is_right" "_law_is_right" (defArgs s__law_is_right) (defBody s__law_is_right) (defScope s__law_is_right) .none kV15 dc15 pm15 an15 cd15 ct15), sl15⟩) (c15 : PySem.W.codeIn K cd15 "_law_is_right" = true) (k15 : PySem.W.keepIn K (.ref f15) = true)
    {od16 an16 : Option Addr} {sl16 : Array (Option Value)} {oc16 kV16 dc16 pm16 cd16 ct16 : Value} (a16 : PySem.W.nsIn K mainGlobals "are_lengths" = some (some (.ref f16))) (l16 : K.lookup f16 = some ⟨oc16, od16, .func (PySem.W.fnOf "are_lengths" "are_lengths" (defArgs s_are_lengths) (defBody s_are_lengths) (defScope s_are_lengths) .none kV16 dc16 pm16 an16 cd16 ct16), sl16⟩) (c16 : PySem.W.codeIn K cd16 "are_lengths" = true) (k16 : PySem.W.keepIn K (.ref f16) = true)
    {od17 an17 : Option Addr} {sl17 : Array (Option Value)} {oc17 kV17 dc17 pm17 cd17 ct17 : Value} (a17 : PySem.W.nsIn K mainGlobals "are_right" = some (some (.ref f17))) (l17 : K.lookup f17 = some ⟨oc17, od17, .func (PySem.W.fnOf "are_right" "are_right" (defArgs s_are_right) (defBody s_are_right) (defScope s_are_right) .none kV17 dc17 pm17 an17 cd17 ct17), sl17⟩) (c17 : PySem.W.codeIn K cd17 "are_right" = true) (k17 : PySem.W.keepIn K (.ref f17) = true)
    {od18 an18 : Option Addr} {sl18 : Array (Option Value)} {oc18 kV18 dc18 pm18 cd18 ct18 : Value} (a18 : PySem.W.nsIn K mainGlobals "_law_bent_reasons" = some (some (.ref f18))) (l18 : K.lookup f18 = some ⟨oc18, od18, .func (PySem.W.fnOf "_law_bent_reasons" "_law_bent_reasons" (defArgs s__law_bent_reasons) (defBody s__law_bent_reasons) (defScope s__law_bent_reasons) .none kV18 dc18 pm18 an18 cd18 ct18), sl18⟩) (c18 : PySem.W.codeIn K cd18 "_law_bent_reasons" = true) (k18 : PySem.W.keepIn K (.ref f18) = true)
    {od19 an19 : Option Addr} {sl19 : Array (Option Value)} {oc19 kV19 dc19 pm19 cd19 ct19 : Value} (a19 : PySem.W.nsIn K mainGlobals "is_reason" = some (some (.ref f19))) (l19 : K.lookup f19 = some ⟨oc19, od19, .func (PySem.W.fnOf "is_reason" "is_reason" (defArgs s_is_reason) (defBody s_is_reason) (defScope s_is_reason) .none kV19 dc19 pm19 an19 cd19 ct19), sl19⟩) (c19 : PySem.W.codeIn K cd19 "is_reason" = true) (k19 : PySem.W.keepIn K (.ref f19) = true)
    {od20 an20 : Option Addr} {sl20 : Array (Option Value)} {oc20 kV20 dc20 pm20 cd20 ct20 : Value} (a20 : PySem.W.nsIn K mainGlobals "are_reasons" = some (some (.ref f20))) (l20 : K.lookup f20 = some ⟨oc20, od20, .func (PySem.W.fnOf "are_reasons" "are_reasons" (defArgs s_are_reasons) (defBody s_are_reasons) (defScope s_are_reasons) .none kV20 dc20 pm20 an20 cd20 ct20), sl20⟩) (c20 : PySem.W.codeIn K cd20 "are_reasons" = true) (k20 : PySem.W.keepIn K (.ref f20) = true)
    {od21 an21 : Option Addr} {sl21 : Array (Option Value)} {oc21 kV21 dc21 pm21 cd21 ct21 : Value} (a21 : PySem.W.nsIn K mainGlobals "_law_are_reasons" = some (some (.ref f21))) (l21 : K.lookup f21 = some ⟨oc21, od21, .func (PySem.W.fnOf "_law_are_reasons" "_law_are_reasons" (defArgs s__law_are_reasons) (defBody s__law_are_reasons) (defScope s__law_are_reasons) .none kV21 dc21 pm21 an21 cd21 ct21), sl21⟩) (c21 : PySem.W.codeIn K cd21 "_law_are_reasons" = true) (k21 : PySem.W.keepIn K (.ref f21) = true)
    {od22 an22 : Option Addr} {sl22 : Array (Option Value)} {oc22 kV22 dc22 pm22 cd22 ct22 : Value} (a22 : PySem.W.nsIn K mainGlobals "law" = some (some (.ref f22))) (l22 : K.lookup f22 = some ⟨oc22, od22, .func (PySem.W.fnOf "law" "law" (defArgs s_law) (defBody s_law) (defScope s_law) .none kV22 dc22 pm22 an22 cd22 ct22), sl22⟩) (c22 : PySem.W.codeIn K cd22 "law" = true) (k22 : PySem.W.keepIn K (.ref f22) = true)
    (z_abs : PySem.W.nsIn K mainGlobals "abs" = some none)
    (z_all : PySem.W.nsIn K mainGlobals "all" = some none)
    (z_bool : PySem.W.nsIn K mainGlobals "bool" = some none)
    (z_enumerate : PySem.W.nsIn K mainGlobals "enumerate" = some none)
    (z_int : PySem.W.nsIn K mainGlobals "int" = some none)
    (z_isinstance : PySem.W.nsIn K mainGlobals "isinstance" = some none)
    (z_len : PySem.W.nsIn K mainGlobals "len" = some none)
    (z_list : PySem.W.nsIn K mainGlobals "list" = some none)
    (z_max : PySem.W.nsIn K mainGlobals "max" = some none)
    (z_min : PySem.W.nsIn K mainGlobals "min" = some none)
    (z_range : PySem.W.nsIn K mainGlobals "range" = some none)
    (z_repr : PySem.W.nsIn K mainGlobals "repr" = some none)
    (z_tuple : PySem.W.nsIn K mainGlobals "tuple" = some none)
    (z_zip : PySem.W.nsIn K mainGlobals "zip" = some none) :
    ∃ fd : FuncData, (∀ (s : Shared) (u : Value), BindsTo s fd ⟨[u], []⟩ [("script", u)]) ∧ ∀ base : Heap, K.In base → base.Ns mainGlobals mg → FnG P w K mg base 6 fa fd ["script"] g_law := by
  have e := hfa.symm.trans (PySem.W.mg_of X G a22)
  cases e
  have nb : NoB K mg := ⟨PySem.W.mg_none_of X G z_abs, PySem.W.mg_none_of X G z_all, PySem.W.mg_none_of X G z_bool, PySem.W.mg_none_of X G z_enumerate, PySem.W.mg_none_of X G z_int, PySem.W.mg_none_of X G z_isinstance, PySem.W.mg_none_of X G z_len, PySem.W.mg_none_of X G z_list, PySem.W.mg_none_of X G z_max, PySem.W.mg_none_of X G z_min, PySem.W.mg_none_of X G z_range, PySem.W.mg_none_of X G z_repr, PySem.W.mg_none_of X G z_tuple, PySem.W.mg_none_of X G z_zip⟩
  have T__law_bag : Top K mg "_law_bag" s__law_bag ["script"] := top_mk (PySem.W.mg_of X G a0) l0 c0 k0 fun _ _ _ _ _ _ us hl => match us, hl with | [_], _ => rfl
  have T__law_alike : Top K mg "_law_alike" s__law_alike ["found", "due"] := top_mk (PySem.W.mg_of X G a1) l1 c1 k1 fun _ _ _ _ _ _ us hl => match us, hl with | [_, _], _ => rfl
  have T__law_distances : Top K mg "_law_distances" s__law_distances ["line", "sizes", "lengths"] := top_mk (PySem.W.mg_of X G a2) l2 c2 k2 fun _ _ _ _ _ _ us hl => match us, hl with | [_, _, _], _ => rfl
  have T__law_rounds : Top K mg "_law_rounds" s__law_rounds ["line", "sizes"] := top_mk (PySem.W.mg_of X G a3) l3 c3 k3 fun _ _ _ _ _ _ us hl => match us, hl with | [_, _], _ => rfl
  have T__law_take : Top K mg "_law_take" s__law_take ["bag", "many"] := top_mk (PySem.W.mg_of X G a4) l4 c4 k4 fun _ _ _ _ _ _ us hl => match us, hl with | [_, _], _ => rfl
  have T__law_some : Top K mg "_law_some" s__law_some ["bag", "things"] := top_mk (PySem.W.mg_of X G a5) l5 c5 k5 fun _ _ _ _ _ _ us hl => match us, hl with | [_, _], _ => rfl
  have T__law_line : Top K mg "_law_line" s__law_line ["bag"] := top_mk (PySem.W.mg_of X G a6) l6 c6 k6 fun _ _ _ _ _ _ us hl => match us, hl with | [_], _ => rfl
  have T__law_all_bits : Top K mg "_law_all_bits" s__law_all_bits ["many"] := top_mk (PySem.W.mg_of X G a7) l7 c7 k7 fun _ _ _ _ _ _ us hl => match us, hl with | [_], _ => rfl
  have T_is_integer : Top K mg "is_integer" s_is_integer ["thing"] := top_mk (PySem.W.mg_of X G a8) l8 c8 k8 fun _ _ _ _ _ _ us hl => match us, hl with | [_], _ => rfl
  have T_targets : Top K mg "targets" s_targets ["line"] := top_mk (PySem.W.mg_of X G a9) l9 c9 k9 fun _ _ _ _ _ _ us hl => match us, hl with | [_], _ => rfl
  have T_begins : Top K mg "begins" s_begins ["line", "sizes", "lengths"] := top_mk (PySem.W.mg_of X G a10) l10 c10 k10 fun _ _ _ _ _ _ us hl => match us, hl with | [_, _, _], _ => rfl
  have T_distances : Top K mg "distances" s_distances ["line", "sizes", "lengths"] := top_mk (PySem.W.mg_of X G a11) l11 c11 k11 fun _ _ _ _ _ _ us hl => match us, hl with | [_, _, _], _ => rfl
  have T_reasons : Top K mg "reasons" s_reasons ["line", "sizes"] := top_mk (PySem.W.mg_of X G a12) l12 c12 k12 fun _ _ _ _ _ _ us hl => match us, hl with | [_, _], _ => rfl
  have T_least_lengths : Top K mg "least_lengths" s_least_lengths ["line", "sizes"] := top_mk (PySem.W.mg_of X G a13) l13 c13 k13 fun _ _ _ _ _ _ us hl => match us, hl with | [_, _], _ => rfl
  have T__law_is_number : Top K mg "_law_is_number" s__law_is_number ["thing", "low", "high"] := top_mk (PySem.W.mg_of X G a14) l14 c14 k14 fun _ _ _ _ _ _ us hl => match us, hl with | [_, _, _], _ => rfl
  have T__law_is_right : Top K mg "_law_is_right" s__law_is_right ["line", "sizes", "thing"] := top_mk (PySem.W.mg_of X G a15) l15 c15 k15 fun _ _ _ _ _ _ us hl => match us, hl with | [_, _, _], _ => rfl
  have T_are_lengths : Top K mg "are_lengths" s_are_lengths ["line", "thing"] := top_mk (PySem.W.mg_of X G a16) l16 c16 k16 fun _ _ _ _ _ _ us hl => match us, hl with | [_, _], _ => rfl
  have T_are_right : Top K mg "are_right" s_are_right ["line", "sizes", "thing"] := top_mk (PySem.W.mg_of X G a17) l17 c17 k17 fun _ _ _ _ _ _ us hl => match us, hl with | [_, _, _], _ => rfl
  have T__law_bent_reasons : Top K mg "_law_bent_reasons" s__law_bent_reasons ["bag", "told"] := top_mk (PySem.W.mg_of X G a18) l18 c18 k18 fun _ _ _ _ _ _ us hl => match us, hl with | [_, _], _ => rfl
  have T_is_reason : Top K mg "is_reason" s_is_reason ["thing"] := top_mk (PySem.W.mg_of X G a19) l19 c19 k19 fun _ _ _ _ _ _ us hl => match us, hl with | [_], _ => rfl
  have T_are_reasons : Top K mg "are_reasons" s_are_reasons ["line", "sizes", "thing"] := top_mk (PySem.W.mg_of X G a20) l20 c20 k20 fun _ _ _ _ _ _ us hl => match us, hl with | [_, _, _], _ => rfl
  have T__law_are_reasons : Top K mg "_law_are_reasons" s__law_are_reasons ["line", "sizes", "thing"] := top_mk (PySem.W.mg_of X G a21) l21 c21 k21 fun _ _ _ _ _ _ us hl => match us, hl with | [_, _, _], _ => rfl
  have F := fun_mk (st := s_law) l22 c22 k22
  refine ⟨PySem.W.fnOf "law" "law" (defArgs s_law) (defBody s_law) (defScope s_law) .none kV22 dc22 pm22 an22 cd22 ct22, fun s v => .of_eq rfl, fun base _ _ => ?_⟩
  have C__law_bag := ok__law_bag (P := P) (w := w) (base := base) nb T__law_bag 
  have C__law_alike := ok__law_alike (P := P) (w := w) (base := base) nb T__law_alike 
  have C__law_distances := ok__law_distances (P := P) (w := w) (base := base) nb T__law_distances 
  have C__law_rounds := ok__law_rounds (P := P) (w := w) (base := base) nb T__law_rounds C__law_distances
  have C__law_take := ok__law_take (P := P) (w := w) (base := base) nb T__law_take 
  have C__law_some := ok__law_some (P := P) (w := w) (base := base) nb T__law_some C__law_take
  have C__law_line := ok__law_line (P := P) (w := w) (base := base) nb T__law_line C__law_take C__law_some
  have C__law_all_bits := ok__law_all_bits (P := P) (w := w) (base := base) nb T__law_all_bits 
  have C_is_integer := ok_is_integer (P := P) (w := w) (base := base) nb T_is_integer 
  have C_targets := ok_targets (P := P) (w := w) (base := base) nb T_targets C_is_integer
  have C_begins := ok_begins (P := P) (w := w) (base := base) nb T_begins C_is_integer
  have C_distances := ok_distances (P := P) (w := w) (base := base) nb T_distances C_begins C_targets
  have C_reasons := ok_reasons (P := P) (w := w) (base := base) nb T_reasons C_targets C_distances
  have C_least_lengths := ok_least_lengths (P := P) (w := w) (base := base) nb T_least_lengths C_reasons
  have C__law_is_number := ok__law_is_number (P := P) (w := w) (base := base) nb T__law_is_number 
  have C__law_is_right := ok__law_is_right (P := P) (w := w) (base := base) nb T__law_is_right C__law_is_number C__law_distances
  have C_are_lengths := ok_are_lengths (P := P) (w := w) (base := base) nb T_are_lengths C_targets C_is_integer
  have C_are_right := ok_are_right (P := P) (w := w) (base := base) nb T_are_right C_are_lengths C_distances
  have C__law_bent_reasons := ok__law_bent_reasons (P := P) (w := w) (base := base) nb T__law_bent_reasons C__law_take C__law_some
  have C_is_reason := ok_is_reason (P := P) (w := w) (base := base) nb T_is_reason C_is_integer
  have C_are_reasons := ok_are_reasons (P := P) (w := w) (base := base) nb T_are_reasons C_targets C_is_reason C_distances
  have C__law_are_reasons := ok__law_are_reasons (P := P) (w := w) (base := base) nb T__law_are_reasons C__law_is_number C__law_distances
  exact fn_law nb F C__law_bag C__law_line C__law_take C__law_rounds C__law_alike C_least_lengths C_reasons C__law_is_right C__law_all_bits C_are_right C__law_are_reasons C__law_bent_reasons C_are_reasons
end K19

namespace K19
open PySem Dm
/-! ### the data -/
inductive It where
  | w (n : Int) | to (t : Int)
def It.d : It → D
  | .w n => .int n
  | .to t => .tup [.str "to", .int t]
def It.isTo : It → Bool
  | .w _ => false
  | .to _ => true
def It.tg : It → Int
  | .w n => n
  | .to t => t
theorem It.fz (i : It) : isFz i.d = true := by cases i <;> rfl
def lineD (l : List It) : D := .tup (l.map It.d)
theorem fz_line (l : List It) : isFz (lineD l) = true := isFzL_map It.d It.fz l
def szD (a b r : Int) : D := .tup [.int a, .int b, .int r]
def tI (ls : List Int) : D := .tup (ls.map .int)
def lI (o : Bool) (ls : List Int) : D := .lst o (ls.map .int)
theorem fz_tI (ls : List Int) : isFz (tI ls) = true := fz_ints ls
def isInt : D → Bool
  | .int _ => true
  | _ => false
theorem is_integer_ok {d : D} (h : (tyName d).isSome = true) : g_is_integer [d] = some (.bl (isInt d), [d]) := by
  refine runD_same [] rfl ?_
  cases d <;> first | rfl | (simp [tyName] at h; done)
/-- the jumps, with their places -/
def tgts : Int → List It → List (Int × Int)
  | _, [] => []
  | k, .w _ :: r => tgts (k + 1) r
  | k, .to t :: r => (k, t) :: tgts (k + 1) r
def prD (p : Int × Int) : D := .tup [.int p.1, .int p.2]
theorem tgts_enum : ∀ (l : List It) (k : Int), ((enumT k l).filter fun p => p.2.isTo).map (fun p => prD (p.1, p.2.tg)) = (tgts k l).map prD
  | [], _ => rfl
  | .w n :: r, k => by
    rw [enumT, List.filter_cons_of_neg (by exact Bool.false_ne_true), tgts_enum r (k + 1)]; rfl
  | .to t :: r, k => by
    rw [enumT, List.filter_cons_of_pos rfl, List.map_cons, tgts_enum r (k + 1)]; rfl
theorem iEnum_var {α : Type} {enc : α → D} (hz : ∀ a, isFz (enc a) = true) {i : Nat} {E : Ev} {ts : List α} (h : E[i]? = some (some (.tup (ts.map enc)))) : iEnum (eCons (eVar i) eNil) E = some ((enumT 0 ts).map fun p => .tup [.int p.1, enc p.2], E) := by
  have e : eVar i E = some (.tup (ts.map enc), E) := eVar_fz h (by simp only [isFz, isFzL_map enc hz])
  unfold iEnum
  rw [eCons_of e (rfl : eNil E = some ([], E))]
  show some (enumD 0 (frozL (ts.map enc)), E) = _
  rw [frozL_mapT enc hz, enumD_map]
theorem targets_ok {l : List It} (hl : l.length ≤ 1000) : g_targets [lineD l] = some (.lst true ((tgts 0 l).map prD), [lineD l]) := by
  refine runD_same [none, none] rfl (sRet_of ?_)
  have q := eComp_typed (own := [1, 2]) (g := gdTup 2 (gdCons (gdName 1) (gdCons (gdName 2) gdNil))) (tt := dNot (tdf (eCall g_is_integer (xSlot 2 xNil)))) (el := eTup (eCons (eVar 1) (eCons (eOf (q2f opIx (qVar 2) (qC (.int 1)))) eNil)))
    (fun p : Int × It => .tup [.int p.1, p.2.d]) (fun p => p.2.isTo) (fun p => prD (p.1, p.2.tg)) (enumT 0 l) (E := [some (lineD l), none, none]) (iEnum_var (i := 0) (ts := l) It.fz rfl) rfl rfl rfl (by rw [enumT_length]; exact Nat.le_trans hl (by decide)) fun t _ => by
      obtain ⟨k, it⟩ := t
      cases it with
      | w n => exact ⟨[some (lineD l), some (.int k), some (.int n)], [some (lineD l), some (.int k), some (.int n)], rfl, rfl, fun _ => rfl, fun e => (Bool.false_ne_true e).elim⟩
      | to t => exact ⟨[some (lineD l), some (.int k), some (.tup [.str "to", .int t])], [some (lineD l), some (.int k), some (.tup [.str "to", .int t])], rfl, rfl, fun e => (Bool.false_ne_true e.symm).elim, fun _ => ⟨[some (lineD l), some (.int k), some (.tup [.str "to", .int t])], rfl, rfl⟩⟩
  rw [tgts_enum] at q
  exact q
/-- the places: running sums -/
def szl (a b x : Int) : Int := if x = 0 then a else b
def run (a b : Int) : Int → List It → List Int → List Int
  | _, [], _ => []
  | acc, .w n :: r, ls => (acc + n) :: run a b (acc + n) r ls
  | acc, .to _ :: r, x :: ls => (acc + szl a b x) :: run a b (acc + szl a b x) r ls
  | _, .to _ :: _, [] => []
def cnt : List It → Nat
  | [] => 0
  | .w _ :: r => cnt r
  | .to _ :: r => cnt r + 1
def Bits (ls : List Int) : Prop := ∀ x ∈ ls, x = 0 ∨ x = 1
theorem last_ok (f : List Int) (z : Int) (o : Bool) : opIx (.lst o ((f ++ [z]).map .int)) (.int (-1)) = some (.int z) := by
  show L2.atI ((f ++ [z]).map D.int) (-1) = _
  rw [List.map_append]
  exact L2.atI_last _ _
theorem append_ok {xs : List D} {y : D} (h : xs.length ≤ 5000) : mAppend xs [y] = some (.non, xs ++ [y]) := by
  unfold mAppend
  exact if_pos (Nat.lt_of_le_of_lt h (by decide))
theorem pop0_ok {xs : List D} {x : D} (hz : isFzL (x :: xs) = true) : mPopAt (x :: xs) [.int 0] = some (x, xs) := by
  have e : PySem.seqIndex? 0 (x :: xs).length = some 0 := by
    unfold PySem.seqIndex?
    simp
  unfold mPopAt
  show (if -(2 ^ 63) ≤ (0 : Int) ∧ (0 : Int) < 2 ^ 63 then _ else _) = _
  rw [if_pos (by decide), e]
  show (if isFzL (x :: xs) = true then some (x, (x :: xs).eraseIdx 0) else none) = _
  rw [if_pos hz]
  rfl
def Ls (d : D) (ls : List Int) : Prop := d = tI ls ∨ d = lI true ls ∨ d = lI false ls
theorem list_ok {d : D} {ls : List Int} (h : Ls d ls) : opList [d] = some (.lst true (ls.map .int)) := by
  rcases h with e | e | e <;> subst e <;> exact if_pos (fz_ints ls)
theorem begins_ok {l : List It} {a b r : Int} {d : D} {ls : List Int} (hl : l.length ≤ 1000) (hd : Ls d ls) (hc : ls.length = cnt l) (hb : Bits ls) :
    g_begins [lineD l, szD a b r, d] = some (.lst true ((0 :: run a b 0 l ls).map .int), [lineD l, szD a b r, d]) := by
  let ds : List D := [lineD l, szD a b r, d]
  let lk : Lks := lkP (lkOf ds) 0
  have loop : ∃ x4 x5 x6, forL (gdName 5) (l_begins_1 lk) (l.map It.d) [some (lineD l), some (szD a b r), some d, some (.lst true [.int 0]), some (.lst true (ls.map .int)), none, none] = some (.nx [some (lineD l), some (szD a b r), some d, some (.lst true ((0 :: run a b 0 l ls).map .int)), x4, x5, x6]) := by
    refine forL_typed It.d (fun rest E => ∃ f z ls' x5 x6, E = [some (lineD l), some (szD a b r), some d, some (.lst true ((f ++ [z]).map .int)), some (.lst true (ls'.map .int)), x5, x6] ∧ (0 :: run a b 0 l ls) = (f ++ [z]) ++ run a b z rest ls' ∧ ls'.length = cnt rest ∧ Bits ls' ∧ f.length + rest.length ≤ 1000)
      (fun o => ∃ x4 x5 x6, o = some (.nx [some (lineD l), some (szD a b r), some d, some (.lst true ((0 :: run a b 0 l ls).map .int)), x4, x5, x6])) ?_ ?_ l _ ⟨[], 0, ls, none, none, rfl, rfl, hc, hb, by simpa using hl⟩
    · rintro it rest E ⟨f, z, ls', x5, x6, rfl, he, hn, hB, hf⟩
      have hlen : ((f ++ [z]).map D.int).length ≤ 5000 := by
        rw [List.length_map, List.length_append]; simp at hf ⊢; omega
      cases it with
      | w n =>
        refine ⟨[some (lineD l), some (szD a b r), some d, some (.lst true ((f ++ [z]).map .int)), some (.lst true (ls'.map .int)), some (.int n), x6], rfl, .inl ⟨[some (lineD l), some (szD a b r), some d, some (.lst true (((f ++ [z]) ++ [z + n]).map .int)), some (.lst true (ls'.map .int)), some (.int n), some (.int n)], ?_, f ++ [z], z + n, ls', _, _, rfl, ?_, hn, hB, ?_⟩⟩
        · refine sSeq_nx (E1 := [some (lineD l), some (szD a b r), some d, some (.lst true ((f ++ [z]).map .int)), some (.lst true (ls'.map .int)), some (.int n), some (.int n)]) rfl (sExpr_of (d := .non) ?_)
          rw [eMt_of (i := 3) rfl (eCons_of (n2f_of (q2f_of rfl rfl (last_ok f z true)) rfl rfl) rfl) rfl (append_ok hlen)]
          rw [List.map_append (l₁ := f ++ [z])]
          rfl
        · rw [he, run]; simp
        · simp at hf ⊢; omega
      | to t =>
        cases ls' with
        | nil => simp [cnt] at hn
        | cons x ls' =>
          have hx := hB x List.mem_cons_self
          refine ⟨[some (lineD l), some (szD a b r), some d, some (.lst true ((f ++ [z]).map .int)), some (.lst true ((x :: ls').map .int)), some (It.to t).d, x6], rfl, .inl ⟨[some (lineD l), some (szD a b r), some d, some (.lst true (((f ++ [z]) ++ [z + szl a b x]).map .int)), some (.lst true (ls'.map .int)), some (It.to t).d, some (.int (szl a b x))], ?_, f ++ [z], z + szl a b x, ls', _, _, rfl, ?_, by simpa [cnt] using hn, fun y m => hB y (List.mem_cons_of_mem _ m), ?_⟩⟩
          · refine sSeq_nx (E1 := [some (lineD l), some (szD a b r), some d, some (.lst true ((f ++ [z]).map .int)), some (.lst true (ls'.map .int)), some (It.to t).d, some (.int (szl a b x))]) (sAsg_of (d := .int (szl a b x)) (E1 := [some (lineD l), some (szD a b r), some d, some (.lst true ((f ++ [z]).map .int)), some (.lst true (ls'.map .int)), some (It.to t).d, x6]) rfl (eIf_f (E1 := [some (lineD l), some (szD a b r), some d, some (.lst true ((f ++ [z]).map .int)), some (.lst true ((x :: ls').map .int)), some (It.to t).d, x6]) rfl ?_) rfl) (sExpr_of (d := .non) ?_)
            · have q := eMt_of (i := 4) (op := mPopAt) (g := eCons (eOf (qC (.int 0))) eNil) (E := [some (lineD l), some (szD a b r), some d, some (.lst true ((f ++ [z]).map .int)), some (.lst true ((x :: ls').map .int)), some (It.to t).d, x6]) (xs0 := (x :: ls').map .int) rfl rfl rfl (pop0_ok (x := .int x) (xs := ls'.map .int) (fz_ints (x :: ls')))
              show eIxN 1 (eMt 4 mPopAt (eCons (eOf (qC (.int 0))) eNil)) _ = _
              unfold eIxN
              show (match eMt 4 mPopAt (eCons (eOf (qC (.int 0))) eNil) _ with | some (k, E1) => _ | none => _) = _
              rw [q]
              rcases hx with e | e <;> subst e <;> rfl
            · rw [eMt_of (i := 3) rfl (eCons_of (n2f_of (q2f_of rfl rfl (last_ok f z true)) rfl rfl) rfl) rfl (append_ok hlen)]
              rw [List.map_append (l₁ := f ++ [z])]
              rfl
          · rw [he, run]; simp
          · simp at hf ⊢; omega
    · rintro E ⟨f, z, ls', x5, x6, rfl, he, hn, hB, hf⟩
      have e : 0 :: run a b 0 l ls = f ++ [z] := by rw [he]; simp [run]
      exact ⟨some (.lst true (ls'.map .int)), x5, x6, by rw [e]⟩
  obtain ⟨x4, x5, x6, loop⟩ := loop
  refine runD_same [none, x4, x5, x6] rfl ?_
  show b_begins (lkOf ds) [some (lineD l), some (szD a b r), some d, none, none, none, none] = _
  unfold b_begins
  refine sSeq_nx (E1 := [some (lineD l), some (szD a b r), some d, some (.lst true [.int 0]), some (.lst true (ls.map .int)), none, none]) (sPar_of (E1 := [some (lineD l), some (szD a b r), some d, none, none, none, none]) rfl (eCons_of rfl (eCons_of (n1L_of rfl (list_ok hd)) rfl))) ?_
  refine sSeq_nx (E1 := [some (lineD l), some (szD a b r), some d, some (.lst true ((0 :: run a b 0 l ls).map .int)), x4, x5, x6]) ?_ rfl
  exact (sForQ_tup It.fz rfl rfl).trans loop
/-! distances -/
def pl (a b : Int) (l : List It) (ls : List Int) : List Int := 0 :: run a b 0 l ls
theorem run_length (a b : Int) : ∀ (l : List It) (acc : Int) (ls : List Int), ls.length = cnt l → (run a b acc l ls).length = l.length
  | [], _, _, _ => rfl
  | .w n :: r, acc, ls, h => by rw [run, List.length_cons, List.length_cons, run_length a b r _ ls h]
  | .to t :: r, acc, [], h => by simp [cnt] at h
  | .to t :: r, acc, x :: ls, h => by rw [run, List.length_cons, List.length_cons, run_length a b r _ ls (by simpa [cnt] using h)]
theorem pl_length {a b : Int} {l : List It} {ls : List Int} (h : ls.length = cnt l) : (pl a b l ls).length = l.length + 1 := by
  rw [pl, List.length_cons, run_length a b l 0 ls h]
def at' (xs : List Int) (i : Int) : Int := xs.getD i.toNat 0
def dist (a b : Int) (l : List It) (ls : List Int) : List Int := (tgts 0 l).map fun p => at' (pl a b l ls) p.2 - at' (pl a b l ls) (p.1 + 1)
/-- the targets lie within the line -/
def Good (n : Nat) (l : List It) : Prop := ∀ t, It.to t ∈ l → 0 ≤ t ∧ t ≤ n
theorem tgts_mem : ∀ (l : List It) (k : Int) (p : Int × Int), p ∈ tgts k l → It.to p.2 ∈ l ∧ k ≤ p.1 ∧ p.1 < k + l.length
  | [], _, _, h => by simp [tgts] at h
  | .w n :: r, k, p, h => by
    obtain ⟨h1, h2, h3⟩ := tgts_mem r (k + 1) p (by simpa [tgts] using h)
    exact ⟨List.mem_cons_of_mem _ h1, by omega, by simp; omega⟩
  | .to t :: r, k, p, h => by
    rw [tgts, List.mem_cons] at h
    rcases h with h | h
    · subst h
      exact ⟨List.mem_cons_self, Int.le_refl _, by simp; omega⟩
    · obtain ⟨h1, h2, h3⟩ := tgts_mem r (k + 1) p h
      exact ⟨List.mem_cons_of_mem _ h1, by omega, by simp; omega⟩
theorem tgts_length : ∀ (l : List It) (k : Int), (tgts k l).length = cnt l
  | [], _ => rfl
  | .w n :: r, k => by rw [tgts, cnt, tgts_length r]
  | .to t :: r, k => by rw [tgts, cnt, List.length_cons, tgts_length r]
theorem cnt_le : ∀ l : List It, cnt l ≤ l.length
  | [] => Nat.le_refl _
  | .w n :: r => Nat.le_succ_of_le (cnt_le r)
  | .to t :: r => Nat.succ_le_succ (cnt_le r)
theorem dist_length (a b : Int) (l : List It) (ls : List Int) : (dist a b l ls).length = cnt l := by rw [dist, List.length_map, tgts_length]
theorem ix_ok {xs : List Int} {o : Bool} {i : Int} (h0 : 0 ≤ i) (h1 : i < xs.length) : opIx (.lst o (xs.map .int)) (.int i) = some (.int (at' xs i)) := by
  show L2.atI (xs.map D.int) i = _
  have e : i = (i.toNat : Int) := by omega
  have hj : i.toNat < xs.length := by omega
  have q := L2.atI_nat (xs := xs.map D.int) (j := i.toNat) (v := .int (at' xs i)) (by
    rw [List.getElem?_map, List.getElem?_eq_getElem hj]
    unfold at'
    rw [List.getD_eq_getElem?_getD, List.getElem?_eq_getElem hj]; rfl)
  rw [← e] at q
  exact q
theorem Ls.fzc {d : D} {ls : List Int} (h : Ls d ls) : True := trivial
theorem distances_ok {l : List It} {a b r : Int} {d : D} {ls : List Int} (hl : l.length ≤ 1000) (hg : Good l.length l) (hd : Ls d ls) (hc : ls.length = cnt l) (hb : Bits ls) :
    g_distances [lineD l, szD a b r, d] = some (.lst true ((dist a b l ls).map .int), [lineD l, szD a b r, d]) := by
  refine runD_same [some (.lst true ((pl a b l ls).map .int)), none, none] rfl ?_
  refine sSeq_nx (E1 := [some (lineD l), some (szD a b r), some d, some (.lst true ((pl a b l ls).map .int)), none, none]) (sAsg_of (E1 := [some (lineD l), some (szD a b r), some d, none, none, none]) rfl (eCall_same (as := [.inl 0, .inl 1, .inl 2]) rfl (.slot rfl (.slot rfl (.slot rfl .nil))) (by decide) (begins_ok hl hd hc hb)) rfl) ?_
  refine sRet_of ?_
  have hi : iSeq (eCall g_targets (xSlot 0 xNil)) [some (lineD l), some (szD a b r), some d, some (.lst true ((pl a b l ls).map .int)), none, none] = some ((tgts 0 l).map prD, [some (lineD l), some (szD a b r), some d, some (.lst true ((pl a b l ls).map .int)), none, none]) := by
    unfold iSeq
    rw [eCall_same (as := [.inl 0]) (E1 := [some (lineD l), some (szD a b r), some d, some (.lst true ((pl a b l ls).map .int)), none, none]) rfl (.slot rfl .nil) (by decide) (targets_ok hl)]
    show some (frozL ((tgts 0 l).map prD), _) = _
    rw [frozL_mapT prD fun _ => rfl]
  have q := eComp_all (own := [4, 5]) (g := gdTup 2 (gdCons (gdName 4) (gdCons (gdName 5) gdNil))) (el := n2f opSub (q2f opIx (qVar 3) (qVar 5)) (q2f opIx (qVar 3) (q2f opAdd (qVar 4) (qC (.int 1))))) prD (fun p => .int (at' (pl a b l ls) p.2 - at' (pl a b l ls) (p.1 + 1))) (tgts 0 l) hi rfl rfl rfl (by rw [tgts_length]; exact Nat.le_trans (cnt_le l) (Nat.le_trans hl (by decide))) fun p m => by
      obtain ⟨m1, m2, m3⟩ := tgts_mem l 0 p m
      obtain ⟨g1, g2⟩ := hg _ m1
      have hlen := pl_length (a := a) (b := b) hc
      refine ⟨[some (lineD l), some (szD a b r), some d, some (.lst true ((pl a b l ls).map .int)), some (.int p.1), some (.int p.2)], [some (lineD l), some (szD a b r), some d, some (.lst true ((pl a b l ls).map .int)), some (.int p.1), some (.int p.2)], rfl, ?_, rfl⟩
      exact n2f_of (q2f_of rfl rfl (ix_ok g1 (by rw [hlen]; omega))) (q2f_of (x := .lst true ((pl a b l ls).map .int)) (y := .int (p.1 + 1)) rfl rfl (ix_ok (by omega) (by rw [hlen]; omega))) rfl
  rw [dist, List.map_map]
  exact q
end K19

namespace K19
open PySem Dm
theorem ne_int (x y : Int) : opNe (.int x) (.int y) = some (.bl (!(x == y))) := rfl
theorem eq_int (x y : Int) : opEq (.int x) (.int y) = some (.bl (x == y)) := rfl
theorem len_tup {α : Type} (f : α → D) (xs : List α) : opLen [.tup (xs.map f)] = some (.int xs.length) := by
  show some (D.int (xs.map f).length) = _
  rw [List.length_map]
theorem len_lst {α : Type} (f : α → D) (o : Bool) (xs : List α) : opLen [.lst o (xs.map f)] = some (.int xs.length) := by
  show some (D.int (xs.map f).length) = _
  rw [List.length_map]
/-- ints and truths -/
inductive Sc where
  | i (n : Int) | b (k : Bool)
def Sc.d : Sc → D
  | .i n => .int n
  | .b k => .bl k
def Sc.bit : Sc → Bool
  | .i n => decide (n = 0) || decide (n = 1)
  | .b _ => false
theorem Sc.fz (s : Sc) : isFz s.d = true := by cases s <;> rfl
theorem all_map {α : Type} (f : α → Bool) (o : Bool) (xs : List α) : opAll [.lst o (xs.map fun x => D.bl (f x))] = some (.bl (xs.all f)) := by
  have e : (xs.map fun x => D.bl (f x)) = (xs.map f).map D.bl := by rw [List.map_map]; rfl
  unfold opAll
  rw [e]
  show (match blsOf ((xs.map f).map D.bl) with | some bs => some (D.bl (bs.all id)) | none => none) = _
  rw [blsOf_map]
  show some (D.bl ((xs.map f).all id)) = _
  rw [List.all_map]; rfl
theorem in01 (n : Int) : opIn (.int n) (.tup [.int 0, .int 1]) = some (.bl (decide (n = 0) || decide (n = 1))) := by
  show some (D.bl (L2.inV (.int n) [.int 0, .int 1])) = _
  have : L2.inV (.int n) [.int 0, .int 1] = (decide (n = 0) || decide (n = 1)) := by
    have e : ∀ m : Int, L2.eqV (.int m) (.int n) = decide (n = m) := fun m => by
      show decide _ = decide _
      rw [decide_eq_decide]
      constructor <;> intro h <;> simp_all
    simp [L2.inV, e]
  rw [this]
theorem int_len_ne (x y : Nat) : (!((x : Int) == (y : Int))) = !decide (x = y) := by
  congr 1
  rw [Bool.eq_iff_iff, beq_iff_eq, decide_eq_true_iff]
  omega
theorem tlen {l : List It} (hl : l.length ≤ 1000) {E : Ev} (h : E[0]? = some (some (lineD l))) : e1L opLen (eCons (eCall g_targets (xSlot 0 xNil)) eNil) E = some (.int (cnt l), E) := by
  refine e1L_of (eCons_of (eCall_same (as := [.inl 0]) (E1 := E) ?_ (.slot h .nil) (by decide) (targets_ok hl)) rfl) ?_
  · unfold xSlot
    rw [h]
    rfl
  · rw [len_lst, tgts_length]
theorem are_lengths_tup {l : List It} {es : List Sc} (hl : l.length ≤ 1000) (he : es.length ≤ 5000) : g_are_lengths [lineD l, .tup (es.map Sc.d)] = some (.bl (decide (es.length = cnt l) && es.all Sc.bit), [lineD l, .tup (es.map Sc.d)]) := by
  refine runD_same [none] rfl ?_
  have c1 : (dOr (tOfQ (qNot (tqf (q1L opIsi (qCons (qVar 1) (qCons (qC (.ty "tuple")) qNil)))))) (tdf (e2f opNe (n1L opLen (qCons (qVar 1) qNil)) (e1L opLen (eCons (eCall g_targets (xSlot 0 xNil)) eNil))))) [some (lineD l), some (.tup (es.map Sc.d)), none] = some (!decide (es.length = cnt l), [some (lineD l), some (.tup (es.map Sc.d)), none]) := by
    rw [← int_len_ne]
    exact dOr_f rfl (tdf_of (e2f_of (n1L_of rfl (len_tup Sc.d es)) (tlen hl rfl) (ne_int _ _)))
  by_cases h : es.length = cnt l
  · rw [decide_eq_true h] at c1 ⊢
    rw [Bool.true_and]
    refine sSeq_nx (sIf_f c1 rfl) (sRet_of ?_)
    have q := eCompQ_all (own := [2]) (i := 1) (g := gdName 2) (el := evAnd (eCall g_is_integer (xSlot 2 xNil)) (eOf (q2f opIn (qVar 2) (qTup (qCons (qC (.int 0)) (qCons (qC (.int 1)) qNil)))))) Sc.d (fun s => .bl s.bit) es (E := [some (lineD l), some (.tup (es.map Sc.d)), none]) rfl (.inr (.inr (.inl rfl))) Sc.fz rfl rfl rfl rfl (by omega) fun s _ => by
      refine ⟨[some (lineD l), some (.tup (es.map Sc.d)), some s.d], [some (lineD l), some (.tup (es.map Sc.d)), some s.d], rfl, ?_, rfl⟩
      cases s with
      | i n =>
        have := evAnd_of (f := eCall g_is_integer (xSlot 2 xNil)) (g := eOf (q2f opIn (qVar 2) (qTup (qCons (qC (.int 0)) (qCons (qC (.int 1)) qNil))))) (E := [some (lineD l), some (.tup (es.map Sc.d)), some (Sc.i n).d]) (E1 := [some (lineD l), some (.tup (es.map Sc.d)), some (Sc.i n).d]) (a := true) (b := decide (n = 0) || decide (n = 1)) rfl fun _ => eOf_of (q2f_of rfl rfl (in01 n)) rfl
        exact this
      | b k => rfl
    rw [e1L_of (eCons_of q rfl) (all_map Sc.bit true es)]
    rfl
  · rw [decide_eq_false h] at c1 ⊢
    rw [Bool.false_and]
    exact sSeq_ret (sIf_t c1 rfl)
theorem are_lengths_non {l : List It} {d : D} {t : String} (ht : tyName d = some t) (hn : isiN t "tuple" = false) : g_are_lengths [lineD l, d] = some (.bl false, [lineD l, d]) := by
  refine runD_same [none] rfl (sSeq_ret (sIf_t (dOr_t ?_) rfl))
  have : q1L opIsi (qCons (qVar 1) (qCons (qC (.ty "tuple")) qNil)) [some (lineD l), some d, none] = some (.bl false) := by
    show opIsi [d, .ty "tuple"] = _
    show (match tyName d with | some t => if "tuple" ∈ tyNames then some (D.bl (isiN t "tuple")) else none | none => none) = _
    rw [ht]
    show (if "tuple" ∈ tyNames then some (D.bl (isiN t "tuple")) else none) = _
    rw [if_pos (by decide), hn]
  exact tOfQ_of (b := true) (qNot_of (tqf_of this))
/-! are_right -/
def iabs (x : Int) : Int := if x < 0 then -x else x
def okAt (r : Int) (p : Int × Int) : Bool := (p.1 == 1) || decide (iabs p.2 ≤ r)
def isRight (a b r : Int) (l : List It) (ls : List Int) : Bool := (ls.zip (dist a b l ls)).all (okAt r)
theorem bits_sc {ls : List Int} (h : Bits ls) : (ls.map Sc.i).all Sc.bit = true := by
  rw [List.all_map, List.all_eq_true]
  intro x m
  show (decide (x = 0) || decide (x = 1)) = true
  rcases h x m with e | e <;> subst e <;> rfl
theorem tI_sc (ls : List Int) : (ls.map Sc.i).map Sc.d = ls.map D.int := by rw [List.map_map]; rfl
theorem sz2 (a b r : Int) : opIx (szD a b r) (.int 2) = some (.int r) := rfl
theorem iZip_of {α β : Type} {e1 : α → D} {e2 : β → D} {f g : Ev → Option (D × Ev)} {E E1 E2 : Ev} {x y : D} {xs : List α} {ys : List β} (h : f E = some (x, E1)) (h2 : g E1 = some (y, E2)) (hx : seqD x = some (xs.map e1)) (hy : seqD y = some (ys.map e2)) :
    iZip (eCons f (eCons g eNil)) E = some ((xs.zip ys).map fun p => .tup [e1 p.1, e2 p.2], E2) := by
  unfold iZip
  rw [eCons_of h (eCons_of h2 (rfl : eNil E2 = some ([], E2)))]
  show (match seqD x, seqD y with | some xs, some ys => some (zipD xs ys, E2) | _, _ => none) = _
  rw [hx, hy]
  show some (zipD (xs.map e1) (ys.map e2), E2) = _
  rw [zipD_map]
theorem seq_tI (ls : List Int) : seqD (tI ls) = some (ls.map .int) := by
  show some (frozL (ls.map .int)) = _
  rw [frozL_ints]
theorem seq_lI (o : Bool) (ls : List Int) : seqD (lI o ls) = some (ls.map .int) := by
  show some (frozL (ls.map .int)) = _
  rw [frozL_ints]
theorem are_lengths_t {l : List It} {ls : List Int} (hl : l.length ≤ 1000) (hc : ls.length = cnt l) (hb : Bits ls) : g_are_lengths [lineD l, tI ls] = some (.bl true, [lineD l, tI ls]) := by
  have hcl := cnt_le l
  have q := are_lengths_tup (l := l) (es := ls.map Sc.i) hl (by rw [List.length_map]; omega)
  rw [List.length_map, decide_eq_true hc, bits_sc hb, tI_sc] at q
  exact q
theorem are_right_ok {l : List It} {a b r : Int} {ls : List Int} (hl : l.length ≤ 1000) (hg : Good l.length l) (hc : ls.length = cnt l) (hb : Bits ls) :
    g_are_right [lineD l, szD a b r, tI ls] = some (.bl (isRight a b r l ls), [lineD l, szD a b r, tI ls]) := by
  have hcl := cnt_le l
  have fz := fz_tI ls
  have fl := fz_line l
  refine runD_same [some (lI false (dist a b l ls)), none, none] rfl ?_
  refine sSeq_nx (sIf_f (E1 := [some (lineD l), some (szD a b r), some (tI ls), none, none, none]) (dNot_of (b := true) (tdf_of (eCall_same (as := [.inl 0, .inl 2]) rfl (.slot rfl (.slot rfl .nil)) (by decide) (are_lengths_t hl hc hb)))) rfl) ?_
  refine sSeq_nx (E1 := [some (lineD l), some (szD a b r), some (tI ls), some (lI true (dist a b l ls)), none, none]) (sAsg_of (E1 := [some (lineD l), some (szD a b r), some (tI ls), none, none, none]) rfl (eCall_same (as := [.inl 0, .inl 1, .inl 2]) rfl (.slot rfl (.slot rfl (.slot rfl .nil))) (by decide) (distances_ok hl hg (.inl rfl) hc hb)) rfl) ?_
  refine sRet_of ?_
  have hv : eVar 3 [some (lineD l), some (szD a b r), some (tI ls), some (lI true (dist a b l ls)), none, none] = some (lI false (dist a b l ls), [some (lineD l), some (szD a b r), some (tI ls), some (lI false (dist a b l ls)), none, none]) := by
    exact eVar_lst rfl (frozL_ints _)
  have hi := iZip_of (f := eVar 2) (eVar_fz (E := [some (lineD l), some (szD a b r), some (tI ls), some (lI true (dist a b l ls)), none, none]) rfl fz) hv (seq_tI ls) (seq_lI false (dist a b l ls))
  have q := eComp_all (own := [4, 5]) (g := gdTup 2 (gdCons (gdName 4) (gdCons (gdName 5) gdNil))) (el := eOf (qvOr (q2f opEq (qVar 4) (qC (.int 1))) (q2f opLe (q1L opAbs (qCons (qVar 5) qNil)) (q2f opIx (qVar 1) (qC (.int 2)))))) (fun p : Int × Int => .tup [.int p.1, .int p.2]) (fun p => .bl (okAt r p)) (ls.zip (dist a b l ls)) hi rfl rfl rfl (by rw [List.length_zip]; exact Nat.le_trans (Nat.min_le_left _ _) (Nat.le_trans (by omega : ls.length ≤ 1000) (by decide))) fun p _ => by
      refine ⟨[some (lineD l), some (szD a b r), some (tI ls), some (lI false (dist a b l ls)), some (.int p.1), some (.int p.2)], [some (lineD l), some (szD a b r), some (tI ls), some (lI false (dist a b l ls)), some (.int p.1), some (.int p.2)], rfl, ?_, rfl⟩
      exact eOf_of (qvOr_of (q2f_of rfl rfl (eq_int _ _)) fun _ => rfl) rfl
  rw [e1L_of (eCons_of q rfl) (all_map (okAt r) true _)]
  rfl
theorem are_right_bad {l : List It} {a b r : Int} {d : D} (h : g_are_lengths [lineD l, d] = some (.bl false, [lineD l, d])) : g_are_right [lineD l, szD a b r, d] = some (.bl false, [lineD l, szD a b r, d]) := by
  refine runD_same [none, none, none] rfl ?_
  exact sSeq_ret (sIf_t (E1 := [some (lineD l), some (szD a b r), some d, none, none, none]) (dNot_of (b := false) (tdf_of (eCall_same (as := [.inl 0, .inl 2]) rfl (.slot rfl (.slot rfl .nil)) (by decide) h))) rfl)
end K19

namespace K19
open PySem Dm
/-! ### rounds -/
abbrev Told := List (Option (Int × Int))
def rD : Option (Int × Int) → D
  | none => .non
  | some p => .tup [.int p.1, .int p.2]
theorem rD_fz (o : Option (Int × Int)) : isFz (rD o) = true := by cases o <;> rfl
theorem isNon_rD (o : Option (Int × Int)) : isNon (rD o) = o.isNone := by cases o <;> rfl
def b01 (k : Bool) : Int := if k then 1 else 0
def lens (T : Told) : List Int := T.map fun o => b01 (!o.isNone)
theorem lens_bits (T : Told) : Bits (lens T) := by
  intro x m
  obtain ⟨o, _, e⟩ := List.mem_map.mp m
  subst e
  cases o
  · exact .inl rfl
  · exact .inr rfl
theorem lens_length (T : Told) : (lens T).length = T.length := List.length_map _
def chg (r : Int) (p : Option (Int × Int) × Int) : Bool := p.1.isNone && decide (r < iabs p.2)
def stp (r t : Int) (p : Option (Int × Int) × Int) : Option (Int × Int) := if chg r p = true then some (t, p.2) else p.1
def step (a b r : Int) (l : List It) (t : Int) (T : Told) : Told := (T.zip (dist a b l (lens T))).map (stp r t)
def chgd (a b r : Int) (l : List It) (T : Told) : Bool := (T.zip (dist a b l (lens T))).any (chg r)
def fixR (a b r : Int) (l : List It) : Nat → Int → Told → Told
  | 0, _, T => T
  | n + 1, t, T => fixR a b r l n (t + 1) (step a b r l t T)
def nones (T : Told) : Nat := (T.filter fun o => o.isNone).length
theorem step_length {a b r : Int} {l : List It} {t : Int} {T : Told} (h : T.length = cnt l) : (step a b r l t T).length = cnt l := by
  rw [step, List.length_map, List.length_zip, dist_length, h, Nat.min_self]
theorem map_zip_fst {α β : Type} (f : α × β → α) : ∀ (xs : List α) (ys : List β), xs.length = ys.length → (∀ p ∈ xs.zip ys, f p = p.1) → (xs.zip ys).map f = xs
  | [], _, _, _ => rfl
  | x :: xs, [], h, _ => by simp at h
  | x :: xs, y :: ys, h, q => by
    rw [List.zip_cons_cons, List.map_cons, q (x, y) (by simp), map_zip_fst f xs ys (by simpa using h) fun p m => q p (by rw [List.zip_cons_cons]; exact List.mem_cons_of_mem _ m)]
theorem step_same {a b r : Int} {l : List It} {T : Told} (hT : T.length = cnt l) (h : chgd a b r l T = false) (t : Int) : step a b r l t T = T := by
  refine map_zip_fst _ _ _ (by rw [dist_length, hT]) fun p m => ?_
  unfold chgd at h
  rw [List.any_eq_false] at h
  exact if_neg (h p m)
theorem fixR_same {a b r : Int} {l : List It} {T : Told} (hT : T.length = cnt l) (h : chgd a b r l T = false) : ∀ (n : Nat) (t : Int), fixR a b r l n t T = T
  | 0, _ => rfl
  | n + 1, t => by rw [fixR, step_same hT h, fixR_same hT h n]
theorem nones_zip (r t : Int) : ∀ (T : Told) (fs : List Int), T.length = fs.length → nones ((T.zip fs).map (stp r t)) ≤ nones T ∧ ((T.zip fs).any (chg r) = true → nones ((T.zip fs).map (stp r t)) < nones T)
  | [], _, _ => ⟨Nat.le_refl _, fun h => by simp at h⟩
  | o :: T, [], h => by simp at h
  | o :: T, f :: fs, h => by
    obtain ⟨h1, h2⟩ := nones_zip r t T fs (by simpa using h)
    rw [List.zip_cons_cons, List.map_cons, List.any_cons]
    cases o with
    | some p =>
      have e1 : stp r t (some p, f) = some p := rfl
      have e2 : chg r (some p, f) = false := rfl
      rw [e1, e2, Bool.false_or]
      exact ⟨h1, h2⟩
    | none =>
      have n0 : nones (none :: T) = nones T + 1 := rfl
      cases hc : chg r (none, f) with
      | true =>
        have e1 : stp r t (none, f) = some (t, f) := if_pos hc
        rw [e1, n0]
        have : nones (some (t, f) :: (T.zip fs).map (stp r t)) = nones ((T.zip fs).map (stp r t)) := rfl
        rw [this]
        exact ⟨by omega, fun _ => by omega⟩
      | false =>
        have e1 : stp r t (none, f) = none := if_neg (by rw [hc]; exact Bool.false_ne_true)
        rw [e1, n0, Bool.false_or]
        have : nones (none :: (T.zip fs).map (stp r t)) = nones ((T.zip fs).map (stp r t)) + 1 := rfl
        rw [this]
        exact ⟨by omega, fun q => by have := h2 q; omega⟩
theorem opIx_mid {done rest : Told} {o : Option (Int × Int)} {c : Bool} : opIx (.lst c ((done ++ o :: rest).map rD)) (.int (done.length : Nat)) = some (rD o) := by
  show L2.atI ((done ++ o :: rest).map rD) ((done.length : Nat) : Int) = _
  refine L2.atI_nat ?_
  rw [List.getElem?_map, List.getElem?_append_right (Nat.le_refl _), Nat.sub_self]
  rfl
theorem setAt_mid {done rest : Told} {o o' : Option (Int × Int)} : setAt ((done ++ o :: rest).map rD) (.int (done.length : Nat)) (rD o') = some ((done ++ o' :: rest).map rD) := by
  have e : L2.ixN ((done ++ o :: rest).map rD).length ((done.length : Nat) : Int) = some done.length := by
    unfold L2.ixN
    rw [if_pos (by omega), if_pos (by rw [List.length_map, List.length_append, List.length_cons]; omega)]
    simp
  unfold setAt
  show (match L2.ixN ((done ++ o :: rest).map rD).length ((done.length : Nat) : Int) with | some j => some (((done ++ o :: rest).map rD).set j (rD o')) | none => none) = _
  rw [e]
  show some (((done ++ o :: rest).map rD).set done.length (rD o')) = _
  rw [List.map_append, List.set_append_right _ _ (by rw [List.length_map] <;> exact Nat.le_refl _), List.length_map, Nat.sub_self, List.map_append]
  rfl
/-! the inner loop -/
theorem reasons_inner {l : List It} {a b r t : Int} {lk : Lks} (h2 : lk 2 = false) (h4 : lk 4 = false) (x5 x6 x9 : Option D) (T : Told) (fs : List Int) (hT : T.length = fs.length) (m0 : Bool) (y7 y8 : Option D) :
    ∃ x7 x8, forL (gdTup 2 (gdCons (gdName 7) (gdCons (gdName 8) gdNil))) (l_reasons_1 lk) ((enumT 0 fs).map prD) [some (lineD l), some (szD a b r), some (.lst true (T.map rD)), some (.int t), some (.bl m0), x5, x6, y7, y8, x9]
      = some (.nx [some (lineD l), some (szD a b r), some (.lst true (((T.zip fs).map (stp r t)).map rD)), some (.int t), some (.bl (m0 || (T.zip fs).any (chg r))), x5, x6, x7, x8, x9]) := by
  refine forL_typed prD (fun ts E => ∃ done restT fars x7 x8 m, ts = enumT (done.length : Nat) fars ∧ restT.length = fars.length ∧ E = [some (lineD l), some (szD a b r), some (.lst true ((done ++ restT).map rD)), some (.int t), some (.bl m), x5, x6, x7, x8, x9] ∧ (T.zip fs).map (stp r t) = done ++ (restT.zip fars).map (stp r t) ∧ (m0 || (T.zip fs).any (chg r)) = (m || (restT.zip fars).any (chg r)))
    (fun o => ∃ x7 x8, o = some (.nx [some (lineD l), some (szD a b r), some (.lst true (((T.zip fs).map (stp r t)).map rD)), some (.int t), some (.bl (m0 || (T.zip fs).any (chg r))), x5, x6, x7, x8, x9])) ?_ ?_ (enumT 0 fs) _ ⟨[], T, fs, y7, y8, m0, rfl, hT, rfl, rfl, rfl⟩
  · rintro p ts E ⟨done, restT, fars, x7, x8, m, ets, hlen, rfl, hd, hm⟩
    cases fars with
    | nil => cases ets
    | cons f fars =>
      cases restT with
      | nil => simp at hlen
      | cons o restT =>
        cases ets
        refine ⟨[some (lineD l), some (szD a b r), some (.lst true ((done ++ o :: restT).map rD)), some (.int t), some (.bl m), x5, x6, some (.int (done.length : Nat)), some (.int f), x9], rfl, .inl ?_⟩
        have c1 : (tOfQ (qAnd (tqf (q2f opIs (q2f opIx (qVar 2) (qVar 7)) (qC .non))) (tqf (q2f opGt (q1L opAbs (qCons (qVar 8) qNil)) (q2f opIx (qVar 1) (qC (.int 2))))))) [some (lineD l), some (szD a b r), some (.lst true ((done ++ o :: restT).map rD)), some (.int t), some (.bl m), x5, x6, some (.int (done.length : Nat)), some (.int f), x9]
            = some (chg r (o, f), [some (lineD l), some (szD a b r), some (.lst true ((done ++ o :: restT).map rD)), some (.int t), some (.bl m), x5, x6, some (.int (done.length : Nat)), some (.int f), x9]) := by
          refine tOfQ_of (qAnd_of (tqf_of (q2f_of (x := rD o) (q2f_of rfl rfl opIx_mid) rfl ?_)) fun _ => rfl)
          show some (D.bl (isNon (rD o))) = _
          rw [isNon_rD]
        have e1 : (done ++ [stp r t (o, f)]).length = done.length + 1 := by simp
        have hk : ((done.length : Nat) : Int) + 1 = (((done ++ [stp r t (o, f)]).length : Nat) : Int) := by rw [e1]; rfl
        cases hc : chg r (o, f) with
        | true =>
          rw [hc] at c1
          have es : stp r t (o, f) = some (t, f) := if_pos hc
          refine ⟨[some (lineD l), some (szD a b r), some (.lst true ((done ++ some (t, f) :: restT).map rD)), some (.int t), some (.bl true), x5, x6, some (.int (done.length : Nat)), some (.int f), x9], ?_, done ++ [some (t, f)], restT, fars, some (.int (done.length : Nat)), some (.int f), true, ?_, by simpa using hlen, ?_, ?_, ?_⟩
          · refine sIf_t c1 (sAsg_of (d := .tup [rD (some (t, f)), .bl true]) (E1 := [some (lineD l), some (szD a b r), some (.lst true ((done ++ o :: restT).map rD)), some (.int t), some (.bl m), x5, x6, some (.int (done.length : Nat)), some (.int f), x9]) ?_ rfl ?_)
            · show (!lk 4 && true) = true
              rw [h4]; rfl
            · show (match gdSub 2 (qVar 7) (rD (some (t, f))) [some (lineD l), some (szD a b r), some (.lst true ((done ++ o :: restT).map rD)), some (.int t), some (.bl m), x5, x6, some (.int (done.length : Nat)), some (.int f), x9] with | some E1 => gdCons (gdName 4) gdNil [.bl true] E1 | none => none) = _
              have g : gdSub 2 (qVar 7) (rD (some (t, f))) [some (lineD l), some (szD a b r), some (.lst true ((done ++ o :: restT).map rD)), some (.int t), some (.bl m), x5, x6, some (.int (done.length : Nat)), some (.int f), x9]
                  = some [some (lineD l), some (szD a b r), some (.lst true ((done ++ some (t, f) :: restT).map rD)), some (.int t), some (.bl m), x5, x6, some (.int (done.length : Nat)), some (.int f), x9] := by
                show (match setAt ((done ++ o :: restT).map rD) (.int (done.length : Nat)) (rD (some (t, f))) with | some ys => some _ | none => none) = _
                rw [setAt_mid]
                rfl
              rw [g]
              rfl
          · rw [es] at hk
            rw [← hk]
          · rw [List.append_assoc]; rfl
          · rw [hd, List.zip_cons_cons, List.map_cons, es, List.append_assoc]; rfl
          · rw [hm, List.zip_cons_cons, List.any_cons, hc]; simp
        | false =>
          rw [hc] at c1
          have es : stp r t (o, f) = o := if_neg (by rw [hc]; exact Bool.false_ne_true)
          refine ⟨[some (lineD l), some (szD a b r), some (.lst true ((done ++ o :: restT).map rD)), some (.int t), some (.bl m), x5, x6, some (.int (done.length : Nat)), some (.int f), x9], sIf_f c1 rfl, done ++ [o], restT, fars, some (.int (done.length : Nat)), some (.int f), m, ?_, by simpa using hlen, ?_, ?_, ?_⟩
          · rw [es] at hk
            rw [← hk]
          · rw [List.append_assoc]; rfl
          · rw [hd, List.zip_cons_cons, List.map_cons, es, List.append_assoc]; rfl
          · rw [hm, List.zip_cons_cons, List.any_cons, hc, Bool.false_or]
  · rintro E ⟨done, restT, fars, x7, x8, m, ets, hlen, rfl, hd, hm⟩
    cases fars with
    | cons f fars => cases ets
    | nil =>
      cases restT with
      | cons o restT => simp at hlen
      | nil =>
        refine ⟨x7, x8, ?_⟩
        rw [hd, hm]
        simp
theorem opIsNot_rD (o : Option (Int × Int)) : opIsNot (rD o) .non = some (.bl (!o.isNone)) := by cases o <;> rfl
theorem opInt_bl (k : Bool) : opInt [.bl k] = some (.int (b01 k)) := by cases k <;> rfl
theorem map_lens (T : Told) : T.map (fun o => D.int (b01 (!o.isNone))) = (lens T).map D.int := by rw [lens, List.map_map]; rfl
/-- one lap of the while -/
theorem reasons_lap {l : List It} {a b r t : Int} {lk : Lks} (hl : l.length ≤ 1000) (hg : Good l.length l) (h2 : lk 2 = false) (h3 : lk 3 = false) (h4 : lk 4 = false) (h5 : lk 5 = false) (h6 : lk 6 = false) (h7 : lk 7 = false) (h8 : lk 8 = false)
    {T : Told} (hT : T.length = cnt l) (x5 x6 x7 x8 : Option D) (m0 : Bool) :
    ∃ y5 y6 y7 y8, l_reasons_2 lk [some (lineD l), some (szD a b r), some (.lst true (T.map rD)), some (.int t), some (.bl m0), x5, x6, x7, x8, none]
      = some (.nx [some (lineD l), some (szD a b r), some (.lst true ((step a b r l t T).map rD)), some (.int (t + 1)), some (.bl (chgd a b r l T)), y5, y6, y7, y8, none]) := by
  have hcl := cnt_le l
  have hc : (lens T).length = cnt l := by rw [lens_length, hT]
  have q1 := eCompQ_all (own := [9]) (i := 2) (g := gdName 9) (el := n1L opInt (qCons (q2f opIsNot (qVar 9) (qC .non)) qNil)) rD (fun o => .int (b01 (!o.isNone))) T (E := [some (lineD l), some (szD a b r), some (.lst true (T.map rD)), some (.int t), some (.bl m0), x5, x6, x7, x8, none]) rfl (.inl rfl) rD_fz rfl rfl rfl rfl (by omega) fun o _ => by
    refine ⟨[some (lineD l), some (szD a b r), some (.lst true (T.map rD)), some (.int t), some (.bl m0), x5, x6, x7, x8, some (rD o)], [some (lineD l), some (szD a b r), some (.lst true (T.map rD)), some (.int t), some (.bl m0), x5, x6, x7, x8, some (rD o)], rfl, ?_, rfl⟩
    exact n1L_of (ds := [.bl (!o.isNone)]) (qCons_of (q2f_of (x := rD o) rfl rfl (opIsNot_rD o)) rfl) (opInt_bl _)
  rw [map_lens] at q1
  have q2 : (eCall g_distances (xSlot 0 (xSlot 1 (xSlot 5 xNil)))) [some (lineD l), some (szD a b r), some (.lst true (T.map rD)), some (.int t), some (.bl m0), some (lI true (lens T)), x6, x7, x8, none] = some (lI true (dist a b l (lens T)), [some (lineD l), some (szD a b r), some (.lst true (T.map rD)), some (.int t), some (.bl m0), some (lI true (lens T)), x6, x7, x8, none]) :=
    eCall_same (as := [.inl 0, .inl 1, .inl 5]) rfl (.slot rfl (.slot rfl (.slot rfl .nil))) (by decide) (distances_ok hl hg (.inr (.inl rfl)) hc (lens_bits T))
  have q3 : iEnum (eCons (eVar 6) eNil) [some (lineD l), some (szD a b r), some (.lst true (T.map rD)), some (.int t), some (.bl false), some (lI true (lens T)), some (lI true (dist a b l (lens T))), x7, x8, none] = some ((enumT 0 (dist a b l (lens T))).map prD, [some (lineD l), some (szD a b r), some (.lst true (T.map rD)), some (.int t), some (.bl false), some (lI true (lens T)), some (lI false (dist a b l (lens T))), x7, x8, none]) := by
    unfold iEnum
    rw [eCons_of (eVar_lst (i := 6) rfl (frozL_ints _)) (rfl : eNil _ = some ([], _))]
    show some (enumD 0 (frozL ((dist a b l (lens T)).map .int)), _) = _
    rw [frozL_ints, enumD_map]
    rfl
  obtain ⟨y7, y8, q4⟩ := reasons_inner (l := l) (a := a) (b := b) (r := r) (t := t) (lk := lk) h2 h4 (some (lI true (lens T))) (some (lI false (dist a b l (lens T)))) none T (dist a b l (lens T)) (by rw [hT, dist_length]) false x7 x8
  refine ⟨some (lI true (lens T)), some (lI false (dist a b l (lens T))), y7, y8, ?_⟩
  unfold l_reasons_2
  refine sSeq_nx (E1 := [some (lineD l), some (szD a b r), some (.lst true (T.map rD)), some (.int t), some (.bl m0), some (lI true (lens T)), x6, x7, x8, none]) (sAsg_of (by show (!lk 5 && true) = true; rw [h5]; rfl) q1 rfl) ?_
  refine sSeq_nx (E1 := [some (lineD l), some (szD a b r), some (.lst true (T.map rD)), some (.int t), some (.bl false), some (lI true (lens T)), some (lI true (dist a b l (lens T))), x7, x8, none]) (sPar_of (lk := lk) (i := 6) (j := 4) (d2 := .bl false) (E1 := [some (lineD l), some (szD a b r), some (.lst true (T.map rD)), some (.int t), some (.bl m0), some (lI true (lens T)), x6, x7, x8, none]) (by rw [h6, h4]; rfl) (eCons_of q2 rfl)) ?_
  refine sSeq_nx (E1 := [some (lineD l), some (szD a b r), some (.lst true ((step a b r l t T).map rD)), some (.int t), some (.bl (chgd a b r l T)), some (lI true (lens T)), some (lI false (dist a b l (lens T))), y7, y8, none]) (sFor_of (by show (!lk 7 && (!lk 8 && true)) = true; rw [h7, h8]; rfl) q3 q4) ?_
  unfold sAug
  rw [if_pos (by rw [h3]; rfl)]
  rfl
theorem reasons_while {l : List It} {a b r : Int} {lk : Lks} (hl : l.length ≤ 1000) (hg : Good l.length l) (h2 : lk 2 = false) (h3 : lk 3 = false) (h4 : lk 4 = false) (h5 : lk 5 = false) (h6 : lk 6 = false) (h7 : lk 7 = false) (h8 : lk 8 = false) :
    ∀ (m n : Nat) (t : Int) (T : Told) (x5 x6 x7 x8 : Option D), T.length = cnt l → nones T ≤ m → m + 2 ≤ n →
      ∃ t' y5 y6 y7 y8, whileN (tOfQ (tqf (qVar 4))) (l_reasons_2 lk) n [some (lineD l), some (szD a b r), some (.lst true (T.map rD)), some (.int t), some (.bl true), x5, x6, x7, x8, none]
        = some (.nx [some (lineD l), some (szD a b r), some (.lst true ((fixR a b r l (m + 1) t T).map rD)), some (.int t'), some (.bl false), y5, y6, y7, y8, none]) := by
  intro m
  induction m with
  | zero =>
    intro n t T x5 x6 x7 x8 hT hm hn
    obtain ⟨n, rfl⟩ : ∃ k, n = k + 2 := ⟨n - 2, by omega⟩
    obtain ⟨y5, y6, y7, y8, q⟩ := reasons_lap (a := a) (b := b) (r := r) (t := t) hl hg h2 h3 h4 h5 h6 h7 h8 hT x5 x6 x7 x8 true
    have hc : chgd a b r l T = false := by
      cases e : chgd a b r l T with
      | false => rfl
      | true =>
        have := (nones_zip r t T (dist a b l (lens T)) (by rw [hT, dist_length])).2 e
        omega
    rw [hc, step_same hT hc] at q
    refine ⟨t + 1, y5, y6, y7, y8, ?_⟩
    rw [fixR_same hT hc]
    show (match l_reasons_2 lk _ with | some (.nx E2) => whileN _ _ (n + 1) E2 | some (.ct E2) => _ | some (.bk E2) => _ | some (.ret d E2) => _ | none => _) = _
    rw [q]
    rfl
  | succ m ih =>
    intro n t T x5 x6 x7 x8 hT hm hn
    obtain ⟨n, rfl⟩ : ∃ k, n = k + 2 := ⟨n - 2, by omega⟩
    obtain ⟨y5, y6, y7, y8, q⟩ := reasons_lap (a := a) (b := b) (r := r) (t := t) hl hg h2 h3 h4 h5 h6 h7 h8 hT x5 x6 x7 x8 true
    cases hc : chgd a b r l T with
    | false =>
      rw [hc, step_same hT hc] at q
      refine ⟨t + 1, y5, y6, y7, y8, ?_⟩
      rw [fixR_same hT hc]
      show (match l_reasons_2 lk _ with | some (.nx E2) => whileN _ _ (n + 1) E2 | some (.ct E2) => _ | some (.bk E2) => _ | some (.ret d E2) => _ | none => _) = _
      rw [q]
      rfl
    | true =>
      rw [hc] at q
      have hlt := (nones_zip r t T (dist a b l (lens T)) (by rw [hT, dist_length])).2 hc
      obtain ⟨t', z5, z6, z7, z8, q2⟩ := ih (n + 1) (t + 1) (step a b r l t T) y5 y6 y7 y8 (step_length hT) (by show nones ((T.zip (dist a b l (lens T))).map (stp r t)) ≤ m; omega) (by omega)
      refine ⟨t', z5, z6, z7, z8, ?_⟩
      show (match l_reasons_2 lk _ with | some (.nx E2) => whileN (tOfQ (tqf (qVar 4))) (l_reasons_2 lk) (n + 1) E2 | some (.ct E2) => _ | some (.bk E2) => _ | some (.ret d E2) => _ | none => _) = _
      rw [q]
      exact q2
def told0 (l : List It) : Told := List.replicate (cnt l) none
def R (a b r : Int) (l : List It) : Told := fixR a b r l (cnt l + 1) 0 (told0 l)
theorem fixR_length {a b r : Int} {l : List It} : ∀ (n : Nat) (t : Int) (T : Told), T.length = cnt l → (fixR a b r l n t T).length = cnt l
  | 0, _, _, h => h
  | n + 1, t, T, h => by rw [fixR]; exact fixR_length n (t + 1) _ (step_length h)
theorem R_length (a b r : Int) (l : List It) : (R a b r l).length = cnt l := fixR_length _ _ _ (by rw [told0, List.length_replicate])
theorem nones_told0 (l : List It) : nones (told0 l) ≤ cnt l := by
  unfold nones told0
  refine Nat.le_trans (List.length_filter_le _ _) ?_
  rw [List.length_replicate]
  exact Nat.le_refl _
theorem mul_one {d : D} (hz : isFz d = true) {n : Nat} (h : n ≤ 5000) (o : Bool) : opMul (.lst o [d]) (.int (n : Nat)) = some (.lst true (List.replicate n d)) := by
  have e : (List.replicate n [d]).flatten = List.replicate n d := by
    induction n with
    | zero => rfl
    | succ n ih => rw [List.replicate_succ, List.flatten_cons, ih (by omega), List.replicate_succ]; rfl
  simp only [opMul]
  have hs : [d].length * ((n : Nat) : Int).toNat ≤ sizeLine := by
    rw [List.length_singleton, Nat.one_mul, Int.toNat_natCast]
    exact Nat.le_trans h (by decide)
  rw [if_pos ⟨by omega, by omega, hs, by simp [isFzL, hz]⟩, Int.toNat_natCast, e]
theorem tuple_own {xs : List D} (hz : isFzL xs = true) (o : Bool) : opTuple [.lst o xs] = some (.tup xs) := if_pos hz
theorem reasons_ok {l : List It} {a b r : Int} (hl : l.length ≤ 1000) (hg : Good l.length l) : g_reasons [lineD l, szD a b r] = some (.tup ((R a b r l).map rD), [lineD l, szD a b r]) := by
  have hcl := cnt_le l
  have hlk : ∀ i, 2 ≤ i → lkOf [lineD l, szD a b r] i = false := fun i h => by
    unfold lkOf
    rw [List.getElem?_eq_none (by simpa using h)]
  obtain ⟨t', y5, y6, y7, y8, q⟩ := reasons_while (a := a) (b := b) (r := r) (lk := lkOf [lineD l, szD a b r]) hl hg rfl rfl rfl rfl rfl rfl rfl (cnt l) whileFuel 0 (told0 l) none none none none (by rw [told0, List.length_replicate]) (nones_told0 l) (by show cnt l + 2 ≤ 1000000; omega)
  refine runD_same [some (.lst true ((R a b r l).map rD)), some (.int t'), some (.bl false), y5, y6, y7, y8, none] rfl ?_
  show b_reasons (lkOf [lineD l, szD a b r]) [some (lineD l), some (szD a b r), none, none, none, none, none, none, none, none] = _
  unfold b_reasons
  have p1 : e2f opMul (eLst (eCons (eOf (qC .non)) eNil)) (e1L opLen (eCons (eCall g_targets (xSlot 0 xNil)) eNil)) [some (lineD l), some (szD a b r), none, none, none, none, none, none, none, none] = some (.lst true ((told0 l).map rD), [some (lineD l), some (szD a b r), none, none, none, none, none, none, none, none]) := by
    refine e2f_of rfl (tlen hl rfl) ?_
    rw [mul_one rfl (by omega), told0, List.map_replicate]
    rfl
  have p2 := sAsg_of (lk := lkOf [lineD l, szD a b r]) (ts := [2]) (g := gdName 2) rfl p1 rfl
  have p3 : (sAsg (lkOf [lineD l, szD a b r]) [3, 4] (eTup (eCons (eOf (qC (.int 0))) (eCons (eOf (qC (.bl true))) eNil))) (gdTup 2 (gdCons (gdName 3) (gdCons (gdName 4) gdNil)))) [some (lineD l), some (szD a b r), some (.lst true ((told0 l).map rD)), none, none, none, none, none, none, none] = some (.nx [some (lineD l), some (szD a b r), some (.lst true ((told0 l).map rD)), some (.int 0), some (.bl true), none, none, none, none, none]) := rfl
  have p4 : sRet (n1L opTuple (qCons (qVar 2) qNil)) [some (lineD l), some (szD a b r), some (.lst true ((R a b r l).map rD)), some (.int t'), some (.bl false), y5, y6, y7, y8, none] = some (.ret (.tup ((R a b r l).map rD)) [some (lineD l), some (szD a b r), some (.lst true ((R a b r l).map rD)), some (.int t'), some (.bl false), y5, y6, y7, y8, none]) :=
    sRet_of (n1L_of rfl (tuple_own (isFzL_map rD rD_fz _) true))
  exact sSeq_nx p2 (sSeq_nx p3 (sSeq_nx q p4))
def least (a b r : Int) (l : List It) : List Int := lens (R a b r l)
theorem least_length (a b r : Int) (l : List It) : (least a b r l).length = cnt l := by rw [least, lens_length, R_length]
theorem least_ok {l : List It} {a b r : Int} (hl : l.length ≤ 1000) (hg : Good l.length l) : g_least_lengths [lineD l, szD a b r] = some (tI (least a b r l), [lineD l, szD a b r]) := by
  have hcl := cnt_le l
  refine runD_same [none] rfl (sRet_of ?_)
  have hi : iSeq (eCall g_reasons (xSlot 0 (xSlot 1 xNil))) [some (lineD l), some (szD a b r), none] = some ((R a b r l).map rD, [some (lineD l), some (szD a b r), none]) := by
    unfold iSeq
    rw [eCall_same (as := [.inl 0, .inl 1]) (E1 := [some (lineD l), some (szD a b r), none]) rfl (.slot rfl (.slot rfl .nil)) (by decide) (reasons_ok hl hg)]
    show (if isFzL ((R a b r l).map rD) = true then some ((R a b r l).map rD, _) else none) = _
    rw [if_pos (isFzL_map rD rD_fz _)]
  have q1 := eComp_all (own := [2]) (g := gdName 2) (el := n1L opInt (qCons (q2f opIsNot (qVar 2) (qC .non)) qNil)) rD (fun o => .int (b01 (!o.isNone))) (R a b r l) hi rfl rfl rfl (by rw [R_length]; exact Nat.le_trans (by omega : cnt l ≤ 1000) (by decide)) fun o _ => by
    refine ⟨[some (lineD l), some (szD a b r), some (rD o)], [some (lineD l), some (szD a b r), some (rD o)], rfl, ?_, rfl⟩
    exact n1L_of (ds := [.bl (!o.isNone)]) (qCons_of (q2f_of (x := rD o) rfl rfl (opIsNot_rD o)) rfl) (opInt_bl _)
  rw [map_lens] at q1
  exact e1L_of (eCons_of q1 rfl) (tuple_own (fz_ints _) true)
end K19

namespace K19
open PySem Dm
/-! ### the law's own distances -/
theorem isi_int (it : It) : opIsi [it.d, .ty "int"] = some (.bl (!it.isTo)) := by cases it <;> rfl
theorem law_distances_ok {l : List It} {a b r : Int} {d : D} {ls : List Int} (hl : l.length ≤ 1000) (hg : Good l.length l) (hd : Ls d ls) (hc : ls.length = cnt l) (hb : Bits ls) :
    g__law_distances [lineD l, szD a b r, d] = some (.lst true ((dist a b l ls).map .int), [lineD l, szD a b r, d]) := by
  let ds : List D := [lineD l, szD a b r, d]
  have loop1 : ∃ x7 x9, forL (gdName 9) (l__law_distances_1 (lkP (lkOf ds) 0)) (l.map It.d) [some (lineD l), some (szD a b r), some d, some (.int a), some (.int b), some (.int r), some (.lst true [.int 0]), some (.lst true (ls.map .int)), some (.lst true []), none, none]
      = some (.nx [some (lineD l), some (szD a b r), some d, some (.int a), some (.int b), some (.int r), some (.lst true ((pl a b l ls).map .int)), x7, some (.lst true []), x9, none]) := by
    refine forL_typed It.d (fun rest E => ∃ f z ls' x9, E = [some (lineD l), some (szD a b r), some d, some (.int a), some (.int b), some (.int r), some (.lst true ((f ++ [z]).map .int)), some (.lst true (ls'.map .int)), some (.lst true []), x9, none] ∧ pl a b l ls = (f ++ [z]) ++ run a b z rest ls' ∧ ls'.length = cnt rest ∧ Bits ls' ∧ f.length + rest.length ≤ 1000)
      (fun o => ∃ x7 x9, o = some (.nx [some (lineD l), some (szD a b r), some d, some (.int a), some (.int b), some (.int r), some (.lst true ((pl a b l ls).map .int)), x7, some (.lst true []), x9, none])) ?_ ?_ l _ ⟨[], 0, ls, none, rfl, rfl, hc, hb, by simpa using hl⟩
    · rintro it rest E ⟨f, z, ls', x9, rfl, he, hn, hB, hf⟩
      have hlen : ((f ++ [z]).map D.int).length ≤ 5000 := by
        rw [List.length_map, List.length_append]; simp at hf ⊢; omega
      cases it with
      | w n =>
        refine ⟨[some (lineD l), some (szD a b r), some d, some (.int a), some (.int b), some (.int r), some (.lst true ((f ++ [z]).map .int)), some (.lst true (ls'.map .int)), some (.lst true []), some (.int n), none], rfl, .inl ⟨[some (lineD l), some (szD a b r), some d, some (.int a), some (.int b), some (.int r), some (.lst true (((f ++ [z]) ++ [z + n]).map .int)), some (.lst true (ls'.map .int)), some (.lst true []), some (.int n), none], ?_, f ++ [z], z + n, ls', some (.int n), rfl, ?_, hn, hB, ?_⟩⟩
        · refine sExpr_of (d := .non) ?_
          rw [eMt_of (i := 6) rfl (eCons_of (e2f_of (eOf_of (q2f_of rfl rfl (last_ok f z true)) rfl) (eIf_t (r := some (D.int n, _)) rfl rfl) rfl) rfl) rfl (append_ok hlen)]
          rw [List.map_append (l₁ := f ++ [z])]
          rfl
        · rw [he, run]; simp
        · simp at hf ⊢; omega
      | to t =>
        cases ls' with
        | nil => simp [cnt] at hn
        | cons x ls' =>
          have hx := hB x List.mem_cons_self
          refine ⟨[some (lineD l), some (szD a b r), some d, some (.int a), some (.int b), some (.int r), some (.lst true ((f ++ [z]).map .int)), some (.lst true ((x :: ls').map .int)), some (.lst true []), some (It.to t).d, none], rfl, .inl ⟨[some (lineD l), some (szD a b r), some d, some (.int a), some (.int b), some (.int r), some (.lst true (((f ++ [z]) ++ [z + szl a b x]).map .int)), some (.lst true (ls'.map .int)), some (.lst true []), some (It.to t).d, none], ?_, f ++ [z], z + szl a b x, ls', some (It.to t).d, rfl, ?_, by simpa [cnt] using hn, fun y m => hB y (List.mem_cons_of_mem _ m), ?_⟩⟩
          · have q := eMt_of (i := 7) (op := mPopAt) (g := eCons (eOf (qC (.int 0))) eNil) (E := [some (lineD l), some (szD a b r), some d, some (.int a), some (.int b), some (.int r), some (.lst true ((f ++ [z]).map .int)), some (.lst true ((x :: ls').map .int)), some (.lst true []), some (It.to t).d, none]) (xs0 := (x :: ls').map .int) rfl rfl rfl (pop0_ok (x := .int x) (xs := ls'.map .int) (fz_ints (x :: ls')))
            have q2 : (eIf (tOfQ (tqf (q1L opIsi (qCons (qVar 9) (qCons (qC (.ty "int")) qNil))))) (eVar 9) (e2f opIxF (eLst (eCons (eVar 3) (eCons (eVar 4) eNil))) (eMt 7 mPopAt (eCons (eOf (qC (.int 0))) eNil)))) [some (lineD l), some (szD a b r), some d, some (.int a), some (.int b), some (.int r), some (.lst true ((f ++ [z]).map .int)), some (.lst true ((x :: ls').map .int)), some (.lst true []), some (It.to t).d, none]
                = some (.int (szl a b x), [some (lineD l), some (szD a b r), some d, some (.int a), some (.int b), some (.int r), some (.lst true ((f ++ [z]).map .int)), some (.lst true (ls'.map .int)), some (.lst true []), some (It.to t).d, none]) :=
              eIf_f (E1 := [some (lineD l), some (szD a b r), some d, some (.int a), some (.int b), some (.int r), some (.lst true ((f ++ [z]).map .int)), some (.lst true ((x :: ls').map .int)), some (.lst true []), some (It.to t).d, none]) rfl (e2f_of (x := .lst true [.int a, .int b]) rfl q (by rcases hx with e | e <;> subst e <;> rfl))
            refine sExpr_of (d := .non) ?_
            rw [eMt_of (i := 6) rfl (eCons_of (e2f_of (eOf_of (q2f_of rfl rfl (last_ok f z true)) rfl) q2 rfl) rfl) rfl (append_ok hlen)]
            rw [List.map_append (l₁ := f ++ [z])]
            rfl
          · rw [he, run]; simp
          · simp at hf ⊢; omega
    · rintro E ⟨f, z, ls', x9, rfl, he, hn, hB, hf⟩
      have e : pl a b l ls = f ++ [z] := by rw [he]; simp [run]
      exact ⟨some (.lst true (ls'.map .int)), x9, by rw [e]⟩
  obtain ⟨x7, x9, loop1⟩ := loop1
  have hlen := pl_length (a := a) (b := b) hc
  have loop2 : ∃ x9 x10, forL (gdTup 2 (gdCons (gdName 10) (gdCons (gdName 9) gdNil))) (l__law_distances_2 (lkOf ds)) ((enumT 0 l).map fun p => .tup [.int p.1, p.2.d]) [some (lineD l), some (szD a b r), some d, some (.int a), some (.int b), some (.int r), some (.lst true ((pl a b l ls).map .int)), x7, some (.lst true []), x9, none]
      = some (.nx [some (lineD l), some (szD a b r), some d, some (.int a), some (.int b), some (.int r), some (.lst true ((pl a b l ls).map .int)), x7, some (.lst true ((dist a b l ls).map .int)), x9, x10]) ∨ True := ⟨none, none, .inr trivial⟩
  clear loop2
  have loop2 : ∃ y9 y10, forL (gdTup 2 (gdCons (gdName 10) (gdCons (gdName 9) gdNil))) (l__law_distances_2 (lkOf ds)) ((enumT 0 l).map fun p => .tup [.int p.1, p.2.d]) [some (lineD l), some (szD a b r), some d, some (.int a), some (.int b), some (.int r), some (.lst true ((pl a b l ls).map .int)), x7, some (.lst true []), x9, none]
      = some (.nx [some (lineD l), some (szD a b r), some d, some (.int a), some (.int b), some (.int r), some (.lst true ((pl a b l ls).map .int)), x7, some (.lst true ((dist a b l ls).map .int)), y9, y10]) := by
    refine forL_typed (fun p : Int × It => .tup [.int p.1, p.2.d]) (fun ts E => ∃ (k : Int) (rest : List It) (F : List Int) (y9 y10 : Option D), ts = enumT k rest ∧ 0 ≤ k ∧ k + rest.length = l.length ∧ (∀ i, i ∈ rest → i ∈ l) ∧ F.length + rest.length ≤ 1000 ∧
        E = [some (lineD l), some (szD a b r), some d, some (.int a), some (.int b), some (.int r), some (.lst true ((pl a b l ls).map .int)), x7, some (.lst true (F.map .int)), y9, y10] ∧ dist a b l ls = F ++ (tgts k rest).map fun p => at' (pl a b l ls) p.2 - at' (pl a b l ls) (p.1 + 1))
      (fun o => ∃ y9 y10, o = some (.nx [some (lineD l), some (szD a b r), some d, some (.int a), some (.int b), some (.int r), some (.lst true ((pl a b l ls).map .int)), x7, some (.lst true ((dist a b l ls).map .int)), y9, y10])) ?_ ?_ (enumT 0 l) _ ⟨0, l, [], x9, none, rfl, Int.le_refl _, by omega, fun i m => m, by simpa using hl, rfl, rfl⟩
    · rintro p ts E ⟨k, rest, F, y9, y10, ets, hk, hkl, hsub, hF, rfl, hd'⟩
      cases rest with
      | nil => cases ets
      | cons it rest =>
        cases ets
        have hF' : (F.map D.int).length + 1 ≤ 5000 := by rw [List.length_map]; simp at hF; omega
        refine ⟨[some (lineD l), some (szD a b r), some d, some (.int a), some (.int b), some (.int r), some (.lst true ((pl a b l ls).map .int)), x7, some (.lst true (F.map .int)), some it.d, some (.int k)], rfl, .inl ?_⟩
        cases it with
        | w n =>
          refine ⟨[some (lineD l), some (szD a b r), some d, some (.int a), some (.int b), some (.int r), some (.lst true ((pl a b l ls).map .int)), x7, some (.lst true (F.map .int)), some (It.w n).d, some (.int k)], ?_, k + 1, rest, F, some (It.w n).d, some (.int k), rfl, by omega, by simp at hkl ⊢; omega, fun i m => hsub i (List.mem_cons_of_mem _ m), by simp at hF ⊢; omega, rfl, hd'⟩
          refine sExpr_of (d := .non) ?_
          have m : mExtend (F.map .int) [.lst true []] = some (.non, F.map .int ++ []) := by
            unfold mExtend
            exact if_pos ⟨Nat.le_trans (by simp at hF' ⊢; omega : (F.map D.int).length + 0 ≤ 5000) (by decide), rfl⟩
          rw [eMt_of (i := 8) rfl (eCons_of (eIf_f (r := some (D.lst true [], _)) rfl rfl) rfl) rfl m, List.append_nil]
          rfl
        | to t =>
          have hgt := hg t (hsub _ List.mem_cons_self)
          have c : (eIf (tOfQ (qNot (tqf (q1L opIsi (qCons (qVar 9) (qCons (qC (.ty "int")) qNil)))))) (eLst (eCons (n2f opSub (q2f opIx (qVar 6) (q2f opIx (qVar 9) (qC (.int 1)))) (q2f opIx (qVar 6) (q2f opAdd (qVar 10) (qC (.int 1))))) eNil)) (eLst eNil)) [some (lineD l), some (szD a b r), some d, some (.int a), some (.int b), some (.int r), some (.lst true ((pl a b l ls).map .int)), x7, some (.lst true (F.map .int)), some (It.to t).d, some (.int k)]
              = some (.lst true [.int (at' (pl a b l ls) t - at' (pl a b l ls) (k + 1))], [some (lineD l), some (szD a b r), some d, some (.int a), some (.int b), some (.int r), some (.lst true ((pl a b l ls).map .int)), x7, some (.lst true (F.map .int)), some (It.to t).d, some (.int k)]) := by
            refine eIf_t (E1 := [some (lineD l), some (szD a b r), some d, some (.int a), some (.int b), some (.int r), some (.lst true ((pl a b l ls).map .int)), x7, some (.lst true (F.map .int)), some (It.to t).d, some (.int k)]) rfl ?_
            have n := n2f_of (op := opSub) (f := q2f opIx (qVar 6) (q2f opIx (qVar 9) (qC (.int 1)))) (g := q2f opIx (qVar 6) (q2f opAdd (qVar 10) (qC (.int 1)))) (E := [some (lineD l), some (szD a b r), some d, some (.int a), some (.int b), some (.int r), some (.lst true ((pl a b l ls).map .int)), x7, some (.lst true (F.map .int)), some (It.to t).d, some (.int k)])
              (q2f_of (y := .int t) rfl rfl (ix_ok hgt.1 (by rw [hlen]; omega))) (q2f_of (x := .lst true ((pl a b l ls).map .int)) (y := .int (k + 1)) rfl rfl (ix_ok (by omega) (by rw [hlen]; simp at hkl; omega))) rfl
            unfold eLst
            rw [eCons_of n rfl]
            rfl
          have m : mExtend (F.map .int) [.lst true [.int (at' (pl a b l ls) t - at' (pl a b l ls) (k + 1))]] = some (.non, F.map .int ++ [.int (at' (pl a b l ls) t - at' (pl a b l ls) (k + 1))]) := by
            unfold mExtend
            exact if_pos ⟨Nat.le_trans (by simp at hF' ⊢; omega : (F.map D.int).length + 1 ≤ 5000) (by decide), rfl⟩
          refine ⟨[some (lineD l), some (szD a b r), some d, some (.int a), some (.int b), some (.int r), some (.lst true ((pl a b l ls).map .int)), x7, some (.lst true ((F ++ [at' (pl a b l ls) t - at' (pl a b l ls) (k + 1)]).map .int)), some (It.to t).d, some (.int k)], ?_, k + 1, rest, F ++ [at' (pl a b l ls) t - at' (pl a b l ls) (k + 1)], some (It.to t).d, some (.int k), rfl, by omega, by simp at hkl ⊢; omega, fun i m => hsub i (List.mem_cons_of_mem _ m), by simp at hF ⊢; omega, rfl, ?_⟩
          · refine sExpr_of (d := .non) ?_
            rw [eMt_of (i := 8) rfl (eCons_of c rfl) rfl m, List.map_append]
            rfl
          · rw [hd', tgts, List.map_cons, List.append_assoc]
            rfl
    · rintro E ⟨k, rest, F, y9, y10, ets, hk, hkl, hsub, hF, rfl, hd'⟩
      cases rest with
      | cons it rest => cases ets
      | nil =>
        refine ⟨y9, y10, ?_⟩
        rw [hd']
        simp [tgts]
  obtain ⟨y9, y10, loop2⟩ := loop2
  refine runD_same [some (.int a), some (.int b), some (.int r), some (.lst true ((pl a b l ls).map .int)), x7, none, y9, y10] rfl ?_
  show b__law_distances (lkOf ds) [some (lineD l), some (szD a b r), some d, none, none, none, none, none, none, none, none] = _
  unfold b__law_distances
  refine sSeq_nx (E1 := [some (lineD l), some (szD a b r), some d, some (.int a), some (.int b), some (.int r), none, none, none, none, none]) rfl ?_
  have p2 : sPar3 (lkOf ds) 6 7 8 (eCons (eLst (eCons (eOf (qC (.int 0))) eNil)) (eCons (n1L opList (qCons (qVar 2) qNil)) (eCons (eLst eNil) eNil))) [some (lineD l), some (szD a b r), some d, some (.int a), some (.int b), some (.int r), none, none, none, none, none]
      = some (.nx [some (lineD l), some (szD a b r), some d, some (.int a), some (.int b), some (.int r), some (.lst true [.int 0]), some (.lst true (ls.map .int)), some (.lst true []), none, none]) := by
    unfold sPar3
    have q : (eCons (eLst (eCons (eOf (qC (.int 0))) eNil)) (eCons (n1L opList (qCons (qVar 2) qNil)) (eCons (eLst eNil) eNil))) [some (lineD l), some (szD a b r), some d, some (.int a), some (.int b), some (.int r), none, none, none, none, none] = some ([.lst true [.int 0], .lst true (ls.map .int), .lst true []], [some (lineD l), some (szD a b r), some d, some (.int a), some (.int b), some (.int r), none, none, none, none, none]) :=
      eCons_of rfl (eCons_of (n1L_of rfl (list_ok hd)) rfl)
    rw [q]
    rfl
  refine sSeq_nx p2 (sSeq_nx ((sForQ_tup It.fz rfl rfl).trans loop1) (sSeq_nx (sFor_of rfl (iEnum_var (i := 0) (ts := l) It.fz rfl) loop2) rfl))
end K19

namespace K19
open PySem Dm
theorem alike_ok {n w : Nat} {x y : D} (hx : Nice n w x) (hy : Nice n w y) (hn : n ≤ 60) (hw : w ≤ sizeLine) (h : toP x = toP y) : g__law_alike [x, y] = some (.bl true, [x, y]) := by
  refine runD_same [] rfl (sRet_of (eOf_of ?_ rfl))
  have e1 : q2f opEq (q1L opRepr (qCons (qVar 0) qNil)) (q1L opRepr (qCons (qVar 1) qNil)) [some x, some y] = some (.bl true) := by
    refine q2f_of (q1L_of rfl (opRepr_of (hx.repr hn hw))) (q1L_of rfl (opRepr_of (hy.repr hn hw))) ?_
    rw [h]
    show some (D.bl ((toP y).shown == (toP y).shown)) = _
    simp
  have e2 : q2f opEq (qVar 0) (qVar 1) [some x, some y] = some (.bl true) := q2f_of rfl rfl (opEq_same (hx.eq hn) (hy.eq hn) h)
  exact qvAnd_of e1 fun _ => e2
theorem is_number_ok (s : Sc) : g__law_is_number [s.d, .int 0, .int 1] = some (.bl s.bit, [s.d, .int 0, .int 1]) := by
  refine runD_same [] rfl (sRet_of (eOf_of ?_ rfl))
  cases s with
  | i n =>
    have q : qCh opLe opLe (qVar 1) (qVar 0) (qVar 2) [some (.int n), some (.int 0), some (.int 1)] = some (.bl (decide (n = 0) || decide (n = 1))) := by
      show (match some (D.bl (decide ((0 : Int) ≤ n))) with | some (.bl true) => some (D.bl (decide (n ≤ 1))) | some (.bl false) => some (.bl false) | _ => none) = _
      by_cases h : (0 : Int) ≤ n
      · rw [decide_eq_true h]
        show some (D.bl (decide (n ≤ 1))) = _
        congr 2
        by_cases h2 : n ≤ 1
        · rw [decide_eq_true h2]
          have : n = 0 ∨ n = 1 := by omega
          rcases this with e | e <;> subst e <;> rfl
        · rw [decide_eq_false h2, decide_eq_false (by omega), decide_eq_false (by omega)]; rfl
      · rw [decide_eq_false h]
        show some (D.bl false) = _
        rw [decide_eq_false (by omega), decide_eq_false (by omega)]; rfl
    exact qvAnd_of (a := true) rfl fun _ => qvAnd_of (a := true) rfl fun _ => q
  | b k => rfl
theorem nice_sc {es : List Sc} (h : ∀ n, Sc.i n ∈ es → n.natAbs.log2 < 1920) : ∀ s ∈ es, Nice 0 1921 s.d := by
  intro s m
  cases s with
  | i n => exact nice_int (h n m)
  | b k => exact (nice_bl k).mono (Nat.le_refl _) (by decide)
theorem sc_nice (s : Sc) : isDat s.d = true ∧ (toP s.d).canLay0 = true ∧ (toP s.d).depth = 0 := by cases s <;> exact ⟨rfl, rfl, rfl⟩
theorem okEq_scs (o : Bool) : ∀ es : List Sc, okEq (.lst o (es.map Sc.d)) = true := by
  intro es
  have h : isDatL (es.map Sc.d) = true ∧ PyData.canLayAll0 (toPL (es.map Sc.d)) = true ∧ PyData.depthAll (toPL (es.map Sc.d)) = 0 := by
    induction es with
    | nil => exact ⟨rfl, rfl, rfl⟩
    | cons s es ih =>
      obtain ⟨h1, h2, h3⟩ := sc_nice s
      simp only [List.map_cons, isDatL, toPL, PyData.canLayAll0, PyData.depthAll, h1, h2, h3, ih]
      exact ⟨rfl, rfl, rfl⟩
  unfold okEq SeqAt.shaped
  simp only [isDat, toP, PyData.canLay0, PyData.depth, h]
  rfl
theorem ne_nil (o : Bool) (es : List Sc) : opNe (.lst o (es.map Sc.d)) (.lst true []) = some (.bl (!es.isEmpty)) := by
  show (if okEq (.lst o (es.map Sc.d)) = true ∧ okEq (.lst true []) = true then some (D.bl (!PyData.eqv (toP (.lst o (es.map Sc.d))) (toP (.lst true [])))) else none) = _
  rw [if_pos ⟨okEq_scs o es, okEq_scs true []⟩]
  cases es <;> simp [toP, toPL, PyData.eqv, PyData.eqvAll]
theorem eq_nil (o : Bool) (es : List Sc) : opEq (.lst o (es.map Sc.d)) (.lst true []) = some (.bl es.isEmpty) := by
  show (if okEq (.lst o (es.map Sc.d)) = true ∧ okEq (.lst true []) = true then some (D.bl (PyData.eqv (toP (.lst o (es.map Sc.d))) (toP (.lst true [])))) else none) = _
  rw [if_pos ⟨okEq_scs o es, okEq_scs true []⟩]
  cases es <;> simp [toP, toPL, PyData.eqv, PyData.eqvAll]
theorem cnt_filter : ∀ l : List It, (l.filter It.isTo).length = cnt l
  | [] => rfl
  | .w n :: r => by rw [List.filter_cons_of_neg (by exact Bool.false_ne_true), cnt_filter r]; rfl
  | .to t :: r => by rw [List.filter_cons_of_pos rfl, List.length_cons, cnt_filter r]; rfl
theorem isi_of {d : D} {t T : String} (h : tyName d = some t) (hT : T ∈ tyNames) : opIsi [d, .ty T] = some (.bl (isiN t T)) := by
  show (match tyName d with | some t => if T ∈ tyNames then some (D.bl (isiN t T)) else none | none => none) = _
  rw [h]
  exact if_pos hT
/-- many = len([item for item in line if not isinstance(item, int)]) with item in the slot j -/
theorem many_ok {l : List It} (hl : l.length ≤ 1000) {j : Nat} {E : Ev} (h0 : E[0]? = some (some (lineD l))) (hj : E[j]? = some none) (hj0 : j ≠ 0) :
    e1L opLen (eCons (eCompQ [j] 0 (gdName j) (tOfQ (qNot (tqf (q1L opIsi (qCons (qVar j) (qCons (qC (.ty "int")) qNil)))))) (eVar j)) eNil) E = some (.int (cnt l), E) := by
  have hlen : j < E.length := (List.getElem?_eq_some_iff.mp hj).1
  have hsame : E.set j none = E := List.ext_getElem? fun k => by
    by_cases e : j = k
    · subst e; rw [List.getElem?_set_self hlen, hj]
    · rw [List.getElem?_set_ne e]
  have q := eCompQ_typed (own := [j]) (i := 0) (g := gdName j) (tt := tOfQ (qNot (tqf (q1L opIsi (qCons (qVar j) (qCons (qC (.ty "int")) qNil)))))) (el := eVar j) It.d It.isTo It.d l (E := E) (E0 := E) (E' := E) h0 (.inr (.inr (.inl rfl))) It.fz
    (by show (match E[j]? with | some (some d) => isFz d | _ => true) && true = true; rw [hj]; rfl) hsame rfl (by show E.set j (E[j]?.join) = E; rw [hj]; exact hsame) (by omega) fun it _ => by
      have hw : (E.set j (some it.d)).set j none = E := by rw [List.set_set]; exact hsame
      have hg : (E.set j (some it.d))[j]? = some (some it.d) := List.getElem?_set_self hlen
      refine ⟨E.set j (some it.d), E.set j (some it.d), rfl, ?_, fun _ => hw, fun _ => ⟨E.set j (some it.d), eVar_fz hg (It.fz it), hw⟩⟩
      have q0 : qVar j (E.set j (some it.d)) = some it.d := by
        unfold qVar
        rw [hg]
      have q1 : q1L opIsi (qCons (qVar j) (qCons (qC (.ty "int")) qNil)) (E.set j (some it.d)) = some (.bl (!it.isTo)) := q1L_of (qCons_of q0 rfl) (isi_int it)
      have q2 := tOfQ_of (qNot_of (tqf_of q1))
      rw [Bool.not_not] at q2
      exact q2
  rw [e1L_of (eCons_of q rfl) (len_lst It.d true _), cnt_filter]
def badTs (es : List Sc) : List Sc := es.filter fun s => !s.bit
theorem badTs_empty (es : List Sc) : (badTs es).isEmpty = es.all Sc.bit := by
  rw [Bool.eq_iff_iff, List.isEmpty_iff, badTs, List.filter_eq_nil_iff, List.all_eq_true]
  simp
theorem law_is_right_tup {l : List It} {a b r : Int} {es : List Sc} (hl : l.length ≤ 1000) (he : es.length ≤ 5000) (hne : (decide (es.length = cnt l) && es.all Sc.bit) = false) :
    g__law_is_right [lineD l, szD a b r, .tup (es.map Sc.d)] = some (.bl false, [lineD l, szD a b r, .tup (es.map Sc.d)]) := by
  refine runD_same [some (.int (cnt l)), none, none, none] rfl ?_
  refine sSeq_nx (E1 := [some (lineD l), some (szD a b r), some (.tup (es.map Sc.d)), some (.int (cnt l)), none, none, none]) (sAsg_of rfl (many_ok hl rfl rfl (by decide)) rfl) ?_
  refine sSeq_ret (sIf_t (E1 := [some (lineD l), some (szD a b r), some (.tup (es.map Sc.d)), some (.int (cnt l)), none, none, none]) (dOr_f (E1 := [some (lineD l), some (szD a b r), some (.tup (es.map Sc.d)), some (.int (cnt l)), none, none, none]) rfl ?_) rfl)
  by_cases h : es.length = cnt l
  · rw [decide_eq_true h, Bool.true_and] at hne
    have c1 : tOfQ (tqf (q2f opNe (q1L opLen (qCons (qVar 2) qNil)) (qVar 3))) [some (lineD l), some (szD a b r), some (.tup (es.map Sc.d)), some (.int (cnt l)), none, none, none] = some (false, [some (lineD l), some (szD a b r), some (.tup (es.map Sc.d)), some (.int (cnt l)), none, none, none]) := by
      refine tOfQ_of (tqf_of (q2f_of (q1L_of rfl (len_tup Sc.d es)) rfl ?_))
      rw [ne_int, int_len_ne, decide_eq_true h]; rfl
    refine dOr_f c1 ?_
    have q := eCompQ_typed (own := [5]) (i := 2) (g := gdName 5) (tt := dNot (tdf (eCall g__law_is_number (xSlot 5 (xVal (eOf (qC (.int 0))) (xVal (eOf (qC (.int 1))) xNil)))))) (el := eVar 5) Sc.d (fun s => !s.bit) Sc.d es (E := [some (lineD l), some (szD a b r), some (.tup (es.map Sc.d)), some (.int (cnt l)), none, none, none]) rfl (.inr (.inr (.inl rfl))) Sc.fz rfl rfl rfl rfl (by omega) fun s _ => by
      refine ⟨[some (lineD l), some (szD a b r), some (.tup (es.map Sc.d)), some (.int (cnt l)), none, some s.d, none], [some (lineD l), some (szD a b r), some (.tup (es.map Sc.d)), some (.int (cnt l)), none, some s.d, none], rfl, ?_, fun _ => rfl, fun _ => ⟨[some (lineD l), some (szD a b r), some (.tup (es.map Sc.d)), some (.int (cnt l)), none, some s.d, none], eVar_fz rfl (Sc.fz s), rfl⟩⟩
      exact dNot_of (tdf_of (eCall_same (as := [.inl 5, .inr (.int 0), .inr (.int 1)]) rfl (.slot rfl (.val (.val .nil))) (by decide) (is_number_ok s)))
    have hb : (!(badTs es).isEmpty) = true := by rw [badTs_empty, hne]; rfl
    have n := ne_nil true (badTs es)
    rw [hb] at n
    exact tdf_of (e2f_of q rfl n)
  · refine dOr_t (tOfQ_of (tqf_of (q2f_of (q1L_of rfl (len_tup Sc.d es)) rfl ?_)))
    rw [ne_int, int_len_ne, decide_eq_false h]; rfl
theorem law_is_right_non {l : List It} {a b r : Int} {d : D} {t : String} (hl : l.length ≤ 1000) (ht : tyName d = some t) (hn : isiN t "tuple" = false) :
    g__law_is_right [lineD l, szD a b r, d] = some (.bl false, [lineD l, szD a b r, d]) := by
  refine runD_same [some (.int (cnt l)), none, none, none] rfl ?_
  refine sSeq_nx (E1 := [some (lineD l), some (szD a b r), some d, some (.int (cnt l)), none, none, none]) (sAsg_of rfl (many_ok hl rfl rfl (by decide)) rfl) ?_
  have e := isi_of (T := "tuple") ht (by decide)
  rw [hn] at e
  exact sSeq_ret (sIf_t (E1 := [some (lineD l), some (szD a b r), some d, some (.int (cnt l)), none, none, none]) (dOr_t (tOfQ_of (b := true) (qNot_of (tqf_of (q1L_of rfl e))))) rfl)
def badAt (r : Int) (p : Int × Int) : Bool := (p.1 == 0) && decide (r < iabs p.2)
theorem isRight_bad {a b r : Int} {l : List It} {ls : List Int} (hb : Bits ls) : ((ls.zip (dist a b l ls)).filter (badAt r)).isEmpty = isRight a b r l ls := by
  rw [Bool.eq_iff_iff, List.isEmpty_iff, List.filter_eq_nil_iff, isRight, List.all_eq_true]
  have key : ∀ p ∈ ls.zip (dist a b l ls), (¬ badAt r p = true) ↔ okAt r p = true := by
    rintro ⟨x, f⟩ m
    have hx := hb x (List.of_mem_zip m).1
    unfold badAt okAt
    rcases hx with e | e <;> subst e <;> simp <;> omega
  exact ⟨fun h p m => (key p m).mp (h p m), fun h p m => (key p m).mpr (h p m)⟩
theorem law_is_right_ok {l : List It} {a b r : Int} {ls : List Int} (hl : l.length ≤ 1000) (hg : Good l.length l) (hc : ls.length = cnt l) (hb : Bits ls) :
    g__law_is_right [lineD l, szD a b r, tI ls] = some (.bl (isRight a b r l ls), [lineD l, szD a b r, tI ls]) := by
  have hcl := cnt_le l
  have fz := fz_tI ls
  have hlen : (ls.map Sc.i).length = cnt l := by rw [List.length_map, hc]
  refine runD_same [some (.int (cnt l)), none, none, none] rfl ?_
  refine sSeq_nx (E1 := [some (lineD l), some (szD a b r), some (tI ls), some (.int (cnt l)), none, none, none]) (sAsg_of rfl (many_ok hl rfl rfl (by decide)) rfl) ?_
  have c1 : tOfQ (tqf (q2f opNe (q1L opLen (qCons (qVar 2) qNil)) (qVar 3))) [some (lineD l), some (szD a b r), some (tI ls), some (.int (cnt l)), none, none, none] = some (false, [some (lineD l), some (szD a b r), some (tI ls), some (.int (cnt l)), none, none, none]) := by
    refine tOfQ_of (tqf_of (q2f_of (q1L_of rfl (len_tup D.int ls)) rfl ?_))
    rw [ne_int, int_len_ne, decide_eq_true hc]; rfl
  have c2 : tdf (e2f opNe (eCompQ [5] 2 (gdName 5) (dNot (tdf (eCall g__law_is_number (xSlot 5 (xVal (eOf (qC (.int 0))) (xVal (eOf (qC (.int 1))) xNil)))))) (eVar 5)) (eLst eNil)) [some (lineD l), some (szD a b r), some (tI ls), some (.int (cnt l)), none, none, none] = some (false, [some (lineD l), some (szD a b r), some (tI ls), some (.int (cnt l)), none, none, none]) := by
    have q := eCompQ_typed (own := [5]) (i := 2) (g := gdName 5) (tt := dNot (tdf (eCall g__law_is_number (xSlot 5 (xVal (eOf (qC (.int 0))) (xVal (eOf (qC (.int 1))) xNil)))))) (el := eVar 5) Sc.d (fun s => !s.bit) Sc.d (ls.map Sc.i) (E := [some (lineD l), some (szD a b r), some (tI ls), some (.int (cnt l)), none, none, none]) rfl (.inr (.inr (.inl (by rw [tI_sc]; rfl)))) Sc.fz rfl rfl rfl rfl (by omega) fun s _ => by
      refine ⟨[some (lineD l), some (szD a b r), some (tI ls), some (.int (cnt l)), none, some s.d, none], [some (lineD l), some (szD a b r), some (tI ls), some (.int (cnt l)), none, some s.d, none], rfl, ?_, fun _ => rfl, fun _ => ⟨[some (lineD l), some (szD a b r), some (tI ls), some (.int (cnt l)), none, some s.d, none], eVar_fz rfl (Sc.fz s), rfl⟩⟩
      exact dNot_of (tdf_of (eCall_same (as := [.inl 5, .inr (.int 0), .inr (.int 1)]) rfl (.slot rfl (.val (.val .nil))) (by decide) (is_number_ok s)))
    have hb' : (!(badTs (ls.map Sc.i)).isEmpty) = false := by rw [badTs_empty, bits_sc hb]; rfl
    have n := ne_nil true (badTs (ls.map Sc.i))
    rw [hb'] at n
    exact tdf_of (e2f_of q rfl n)
  refine sSeq_nx (sIf_f (dOr_f (E1 := [some (lineD l), some (szD a b r), some (tI ls), some (.int (cnt l)), none, none, none]) rfl (dOr_f c1 c2)) rfl) (sRet_of ?_)
  have hi : iZip (eCons (eVar 2) (eCons (eCall g__law_distances (xSlot 0 (xSlot 1 (xSlot 2 xNil)))) eNil)) [some (lineD l), some (szD a b r), some (tI ls), some (.int (cnt l)), none, none, none] = some ((ls.zip (dist a b l ls)).map fun p => .tup [.int p.1, .int p.2], [some (lineD l), some (szD a b r), some (tI ls), some (.int (cnt l)), none, none, none]) :=
    iZip_of (eVar_fz rfl fz) (eCall_same (as := [.inl 0, .inl 1, .inl 2]) rfl (.slot rfl (.slot rfl (.slot rfl .nil))) (by decide) (law_distances_ok hl hg (.inl rfl) hc hb)) (seq_tI ls) (seq_lI true _)
  have q := eComp_typed (own := [5, 6]) (g := gdTup 2 (gdCons (gdName 5) (gdCons (gdName 6) gdNil))) (tt := tOfQ (qAnd (tqf (q2f opEq (qVar 5) (qC (.int 0)))) (tqf (q2f opGt (q1L opAbs (qCons (qVar 6) qNil)) (q2f opIx (qVar 1) (qC (.int 2))))))) (el := eOf (qC (.int 1))) (fun p : Int × Int => .tup [.int p.1, .int p.2]) (badAt r) (fun _ => (Sc.i 1).d) (ls.zip (dist a b l ls)) hi rfl rfl rfl (by rw [List.length_zip]; exact Nat.le_trans (Nat.min_le_left _ _) (Nat.le_trans (by omega : ls.length ≤ 1000) (by decide))) fun p _ => by
    refine ⟨[some (lineD l), some (szD a b r), some (tI ls), some (.int (cnt l)), none, some (.int p.1), some (.int p.2)], [some (lineD l), some (szD a b r), some (tI ls), some (.int (cnt l)), none, some (.int p.1), some (.int p.2)], rfl, ?_, fun _ => rfl, fun _ => ⟨[some (lineD l), some (szD a b r), some (tI ls), some (.int (cnt l)), none, some (.int p.1), some (.int p.2)], rfl, rfl⟩⟩
    exact tOfQ_of (qAnd_of (tqf_of (q2f_of rfl rfl (eq_int _ _))) fun _ => rfl)
  have e := eq_nil true (((ls.zip (dist a b l ls)).filter (badAt r)).map fun _ => Sc.i 1)
  rw [List.map_map, List.isEmpty_map, isRight_bad hb] at e
  exact e2f_of q rfl e
end K19

namespace K19
open PySem Dm
/-! ### the law's rounds -/
def iD (i : Nat) : D := .int (0 + (i : Nat))
theorem iD_fz (i : Nat) : isFz (iD i) = true := rfl
theorem range_of {E E1 : Ev} {g : Ev → Option (List D × Ev)} {n : Nat} (h : g E = some ([.int (n : Nat)], E1)) (hn : n ≤ 5000) : iRange g E = some ((List.range n).map iD, E1) := by
  unfold iRange
  rw [h]
  show (if big62 ((n : Nat) : Int) = true then some (rangeD 0 ((n : Nat) : Int).toNat, E1) else none) = _
  rw [if_pos (big62_iff.mpr ⟨by omega, by omega⟩), Int.toNat_natCast]
  rfl
theorem flatL_ints : ∀ ns : List Int, flatL (ns.map .int) = some (ns.map .int)
  | [] => rfl
  | n :: ns => by
    rw [List.map_cons, flatL, flatL_ints ns]
    rfl
theorem in_ints (k : Int) (o : Bool) (ns : List Int) : opIn (.int k) (.lst o (ns.map .int)) = some (.bl (decide (k ∈ ns))) := by
  have e : inSeq (.int k) (ns.map .int) = some (L2.inV (.int k) (ns.map .int)) := by
    unfold inSeq
    rw [flatL_ints]
    rfl
  show (inSeq (.int k) (ns.map .int)).map D.bl = _
  rw [e]
  show some (D.bl (L2.inV (.int k) (ns.map .int))) = _
  congr 2
  rw [L2.inV, List.any_map, Bool.eq_iff_iff, List.any_eq_true, decide_eq_true_iff]
  constructor
  · rintro ⟨x, m, e⟩
    have : x = k := by
      have e' : (x == k) = true := e
      simpa using e'
    subst this; exact m
  · intro m
    exact ⟨k, m, by show (k == k) = true; simp⟩
def hit (r : Int) (T : Told) (fs : List Int) (i : Nat) : Bool := (at' (lens T) i == 0) && decide (r < iabs (at' fs i))
def setAll (t : Int) (fs : List Int) (F : Told) (is : List Nat) : Told := is.foldl (fun F i => F.set i (some (t, at' fs i))) F
theorem setAll_length (t : Int) (fs : List Int) : ∀ (is : List Nat) (F : Told), (setAll t fs F is).length = F.length
  | [], _ => rfl
  | i :: is, F => by
    show (setAll t fs (F.set i (some (t, at' fs i))) is).length = _
    rw [setAll_length t fs is, List.length_set]
theorem setAll_get (t : Int) (fs : List Int) : ∀ (is : List Nat) (F : Told) (j : Nat), j < F.length → (setAll t fs F is)[j]? = if j ∈ is then some (some (t, at' fs j)) else F[j]?
  | [], F, j, _ => by simp [setAll]
  | i :: is, F, j, hj => by
    show (setAll t fs (F.set i (some (t, at' fs i))) is)[j]? = _
    rw [setAll_get t fs is _ j (by rw [List.length_set]; exact hj)]
    by_cases h1 : j ∈ is
    · rw [if_pos h1, if_pos (List.mem_cons_of_mem _ h1)]
    · rw [if_neg h1]
      by_cases h2 : i = j
      · subst h2
        rw [if_pos List.mem_cons_self, List.getElem?_set_self hj]
      · rw [if_neg (by
          rw [List.mem_cons, not_or]
          exact ⟨fun e => h2 e.symm, h1⟩), List.getElem?_set_ne h2]
theorem at_nat (xs : List Int) (j : Nat) : at' xs (j : Nat) = xs.getD j 0 := by unfold at'; rw [Int.toNat_natCast]
theorem at_get {xs : List Int} {j : Nat} {x : Int} (h : xs[j]? = some x) : at' xs (j : Nat) = x := by rw [at_nat, List.getD_eq_getElem?_getD, h]; rfl
theorem hit_chg {r : Int} {T : Told} {fs : List Int} {j : Nat} {o : Option (Int × Int)} {f : Int} (h1 : T[j]? = some o) (h2 : fs[j]? = some f) : hit r T fs j = chg r (o, f) := by
  have e1 : (lens T)[j]? = some (b01 (!o.isNone)) := by rw [lens, List.getElem?_map, h1]; rfl
  unfold hit chg
  rw [at_get e1, at_get h2]
  cases o <;> rfl
theorem setAll_step {a b r t : Int} {l : List It} {T : Told} (hT : T.length = cnt l) :
    setAll t (dist a b l (lens T)) T ((List.range (cnt l)).filter (hit r T (dist a b l (lens T)))) = step a b r l t T := by
  refine List.ext_getElem? fun j => ?_
  have hs : (step a b r l t T).length = cnt l := step_length hT
  by_cases hj : j < cnt l
  · have h1 : T[j]? = some T[j] := List.getElem?_eq_getElem (by omega)
    have hd : j < (dist a b l (lens T)).length := by rw [dist_length]; exact hj
    have h2 : (dist a b l (lens T))[j]? = some (dist a b l (lens T))[j] := List.getElem?_eq_getElem hd
    rw [setAll_get _ _ _ _ _ (by omega)]
    have e : (step a b r l t T)[j]? = some (stp r t (T[j], (dist a b l (lens T))[j])) := by
      unfold step
      rw [List.getElem?_map, (List.getElem?_zip_eq_some (z := (T[j], (dist a b l (lens T))[j]))).mpr ⟨h1, h2⟩]
      rfl
    rw [e]
    have hm : j ∈ (List.range (cnt l)).filter (hit r T (dist a b l (lens T))) ↔ chg r (T[j], (dist a b l (lens T))[j]) = true := by
      rw [List.mem_filter, List.mem_range, hit_chg h1 h2]
      exact ⟨fun q => q.2, fun q => ⟨hj, q⟩⟩
    unfold stp
    by_cases hc : chg r (T[j], (dist a b l (lens T))[j]) = true
    · rw [if_pos (hm.mpr hc), if_pos hc, at_get h2]
    · rw [if_neg (fun q => hc (hm.mp q)), if_neg hc, h1]
  · rw [List.getElem?_eq_none (by rw [setAll_length]; omega), List.getElem?_eq_none (by omega)]
theorem lens_step {a b r t : Int} {l : List It} {T : Told} (hT : T.length = cnt l) :
    (List.range (cnt l)).map (fun i => b01 ((at' (lens T) (i : Nat) == 1) || decide (i ∈ (List.range (cnt l)).filter (hit r T (dist a b l (lens T)))))) = lens (step a b r l t T) := by
  refine List.ext_getElem? fun j => ?_
  have hs : (step a b r l t T).length = cnt l := step_length hT
  by_cases hj : j < cnt l
  · have h1 : T[j]? = some T[j] := List.getElem?_eq_getElem (by omega)
    have hd : j < (dist a b l (lens T)).length := by rw [dist_length]; exact hj
    have h2 : (dist a b l (lens T))[j]? = some (dist a b l (lens T))[j] := List.getElem?_eq_getElem hd
    have e1 : (lens T)[j]? = some (b01 (!T[j].isNone)) := by rw [lens, List.getElem?_map, h1]; rfl
    have e : (step a b r l t T)[j]? = some (stp r t (T[j], (dist a b l (lens T))[j])) := by
      unfold step
      rw [List.getElem?_map, (List.getElem?_zip_eq_some (z := (T[j], (dist a b l (lens T))[j]))).mpr ⟨h1, h2⟩]
      rfl
    have eL : (lens (step a b r l t T))[j]? = some (b01 (!(stp r t (T[j], (dist a b l (lens T))[j])).isNone)) := by
      show ((step a b r l t T).map fun o => b01 (!o.isNone))[j]? = _
      rw [List.getElem?_map, e]; rfl
    rw [List.getElem?_map, List.getElem?_range hj, eL]
    show some (b01 _) = some (b01 _)
    congr 2
    rw [at_get e1]
    have hm : decide (j ∈ (List.range (cnt l)).filter (hit r T (dist a b l (lens T)))) = chg r (T[j], (dist a b l (lens T))[j]) := by
      rw [Bool.eq_iff_iff, decide_eq_true_iff, List.mem_filter, List.mem_range, hit_chg h1 h2]
      exact ⟨fun q => q.2, fun q => ⟨hj, q⟩⟩
    rw [hm]
    unfold stp
    cases hc : chg r (T[j], (dist a b l (lens T))[j]) with
    | true => rw [if_pos rfl, Bool.or_true]; rfl
    | false =>
      rw [if_neg Bool.false_ne_true, Bool.or_false]
      cases T[j] <;> rfl
  · rw [List.getElem?_eq_none (by rw [List.length_map, List.length_range]; omega), List.getElem?_eq_none (by rw [lens_length]; omega)]
theorem setAt_rD {F : Told} {i : Nat} (h : i < F.length) (o : Option (Int × Int)) : setAt (F.map rD) (iD i) (rD o) = some ((F.set i o).map rD) := by
  have e : L2.ixN (F.map rD).length (0 + ((i : Nat) : Int)) = some i := by
    unfold L2.ixN
    rw [List.length_map, if_pos (by omega), if_pos (by omega)]
    congr 1
    omega
  show (match L2.ixN (F.map rD).length (0 + ((i : Nat) : Int)) with | some j => some ((F.map rD).set j (rD o)) | none => none) = _
  rw [e]
  show some ((F.map rD).set i (rD o)) = _
  rw [List.map_set]
theorem ix_iD {xs : List Int} {o : Bool} {i : Nat} (h : i < xs.length) : opIx (.lst o (xs.map .int)) (iD i) = some (.int (at' xs (i : Nat))) := by
  unfold iD
  rw [Int.zero_add]
  exact ix_ok (by omega) (by omega)
def FzO (x : Option D) : Prop := ∀ d, x = some d → isFz d = true
theorem ownFz_one {j : Nat} {E : Ev} {x : Option D} (h : E[j]? = some x) (hz : FzO x) : ownFz E [j] = true := by
  show ((match E[j]? with | some (some d) => isFz d | _ => true) && true) = true
  rw [h]
  cases x with
  | none => rfl
  | some d =>
    show (isFz d && true) = true
    rw [hz d rfl]; rfl
theorem in_iD (i : Nat) (o : Bool) (is : List Nat) : opIn (iD i) (.lst o (is.map iD)) = some (.bl (decide (i ∈ is))) := by
  have e : is.map iD = (is.map fun i => (0 + (i : Nat) : Int)).map D.int := by rw [List.map_map]; rfl
  rw [e]
  show opIn (.int (0 + (i : Nat))) _ = _
  rw [in_ints]
  congr 2
  rw [decide_eq_decide, List.mem_map]
  constructor
  · rintro ⟨j, m, e⟩
    have : j = i := by omega
    subst this; exact m
  · intro m
    exact ⟨i, m, rfl⟩
theorem rounds_set {l : List It} {a b r t : Int} {lk : Lks} {n : Nat} {fs : List Int} {is0 : List Nat} {x3 : Option D} (hfs : fs.length = n) (his : ∀ i ∈ is0, i < n) (hl : is0.length ≤ 5000) (T : Told) (hT : T.length = n) (y8 : Option D) (hy : FzO y8) :
    ∃ z8, FzO z8 ∧ forQ 7 (gdName 8) (l__law_rounds_1 lk) whileFuel 0 [some (lineD l), some (szD a b r), some (.int n), x3, some (.lst true (T.map rD)), some (.int t), some (lI true fs), some (.lst true (is0.map iD)), y8, none]
      = some (.nx [some (lineD l), some (szD a b r), some (.int n), x3, some (.lst true ((setAll t fs T is0).map rD)), some (.int t), some (lI true fs), some (.lst true (is0.map iD)), z8, none]) := by
  refine forQ_typed (i := 7) iD iD_fz is0 (fun ts E => ∃ F y8, FzO y8 ∧ setAll t fs F ts = setAll t fs T is0 ∧ F.length = n ∧ (∀ i ∈ ts, i < n) ∧ E = [some (lineD l), some (szD a b r), some (.int n), x3, some (.lst true (F.map rD)), some (.int t), some (lI true fs), some (.lst true (is0.map iD)), y8, none])
    (fun o => ∃ z8, FzO z8 ∧ o = some (.nx [some (lineD l), some (szD a b r), some (.int n), x3, some (.lst true ((setAll t fs T is0).map rD)), some (.int t), some (lI true fs), some (.lst true (is0.map iD)), z8, none])) true ?_ ?_ ?_ whileFuel 0 _ (Nat.zero_le _) (by show is0.length < 1000000 + 0; omega) ⟨T, y8, hy, rfl, hT, his, rfl⟩
  · rintro ts E ⟨F, y8, _, _, _, _, rfl⟩
    rfl
  · rintro i ts E ⟨F, y8, hy, he, hF, hi, rfl⟩
    have hin := hi i List.mem_cons_self
    refine ⟨[some (lineD l), some (szD a b r), some (.int n), x3, some (.lst true (F.map rD)), some (.int t), some (lI true fs), some (.lst true (is0.map iD)), some (iD i), none], rfl, .inl ⟨[some (lineD l), some (szD a b r), some (.int n), x3, some (.lst true ((F.set i (some (t, at' fs (i : Nat)))).map rD)), some (.int t), some (lI true fs), some (.lst true (is0.map iD)), some (iD i), none], ?_, F.set i (some (t, at' fs (i : Nat))), some (iD i), fun d e => by cases e; rfl, he, by rw [List.length_set]; exact hF, fun j m => hi j (List.mem_cons_of_mem _ m), rfl⟩⟩
    refine sAsg_of (d := rD (some (t, at' fs (i : Nat)))) (E1 := [some (lineD l), some (szD a b r), some (.int n), x3, some (.lst true (F.map rD)), some (.int t), some (lI true fs), some (.lst true (is0.map iD)), some (iD i), none]) rfl ?_ ?_
    · have q := eOf_of (f := q2f opIx (qVar 6) (qVar 8)) (E := [some (lineD l), some (szD a b r), some (.int n), x3, some (.lst true (F.map rD)), some (.int t), some (lI true fs), some (.lst true (is0.map iD)), some (iD i), none]) (q2f_of rfl rfl (ix_iD (by rw [hfs]; exact hin))) rfl
      unfold eTup
      rw [eCons_of (eVar_fz (i := 5) (d := .int t) rfl rfl) (eCons_of q rfl)]
      rfl
    · show (match setAt (F.map rD) (iD i) (rD (some (t, at' fs (i : Nat)))) with | some ys => some _ | none => none) = _
      rw [setAt_rD (by rw [hF]; exact hin)]
      rfl
  · rintro E ⟨F, y8, hy, he, hF, hi, rfl⟩
    refine ⟨y8, hy, ?_⟩
    have he' : F = setAll t fs T is0 := he
    rw [he']
theorem rounds_lap {l : List It} {a b r t : Int} {lk : Lks} (hl : l.length ≤ 1000) (hg : Good l.length l) (h3 : lk 3 = false) (h6 : lk 6 = false) (h7 : lk 7 = false) (h8 : lk 8 = false) {T : Told} (hT : T.length = cnt l) (x6 x7 x8 : Option D) (hz : FzO x8) :
    ∃ y6 y7 y8, FzO y8 ∧ l__law_rounds_2 lk [some (lineD l), some (szD a b r), some (.int (cnt l)), some (lI true (lens T)), some (.lst true (T.map rD)), some (.int t), x6, x7, x8, none]
      = some (.nx [some (lineD l), some (szD a b r), some (.int (cnt l)), some (lI true (lens (step a b r l t T))), some (.lst true ((step a b r l t T).map rD)), some (.int t), y6, y7, y8, none]) := by
  have hcl := cnt_le l
  have hc : (lens T).length = cnt l := by rw [lens_length, hT]
  have hd : (dist a b l (lens T)).length = cnt l := dist_length a b l (lens T)
  have q1 : (eCall g__law_distances (xSlot 0 (xSlot 1 (xSlot 3 xNil)))) [some (lineD l), some (szD a b r), some (.int (cnt l)), some (lI true (lens T)), some (.lst true (T.map rD)), some (.int t), x6, x7, x8, none] = some (lI true (dist a b l (lens T)), [some (lineD l), some (szD a b r), some (.int (cnt l)), some (lI true (lens T)), some (.lst true (T.map rD)), some (.int t), x6, x7, x8, none]) :=
    eCall_same (as := [.inl 0, .inl 1, .inl 3]) rfl (.slot rfl (.slot rfl (.slot rfl .nil))) (by decide) (law_distances_ok hl hg (.inr (.inl rfl)) hc (lens_bits T))
  have q2 := eComp_typed (own := [8]) (fi := iRange (eCons (eVar 2) eNil)) (g := gdName 8) (tt := tOfQ (qAnd (tqf (q2f opEq (q2f opIx (qVar 3) (qVar 8)) (qC (.int 0)))) (tqf (q2f opGt (q1L opAbs (qCons (q2f opIx (qVar 6) (qVar 8)) qNil)) (q2f opIx (qVar 1) (qC (.int 2))))))) (el := eVar 8) iD (hit r T (dist a b l (lens T))) iD (List.range (cnt l))
    (E := [some (lineD l), some (szD a b r), some (.int (cnt l)), some (lI true (lens T)), some (.lst true (T.map rD)), some (.int t), some (lI true (dist a b l (lens T))), x7, x8, none]) (range_of rfl (by omega)) (ownFz_one rfl hz) rfl rfl (by rw [List.length_range]; exact Nat.le_trans (by omega : cnt l ≤ 1000) (by decide)) fun i m => by
      have hi : i < cnt l := List.mem_range.mp m
      refine ⟨[some (lineD l), some (szD a b r), some (.int (cnt l)), some (lI true (lens T)), some (.lst true (T.map rD)), some (.int t), some (lI true (dist a b l (lens T))), x7, some (iD i), none], [some (lineD l), some (szD a b r), some (.int (cnt l)), some (lI true (lens T)), some (.lst true (T.map rD)), some (.int t), some (lI true (dist a b l (lens T))), x7, some (iD i), none], rfl, ?_, fun _ => rfl, fun _ => ⟨[some (lineD l), some (szD a b r), some (.int (cnt l)), some (lI true (lens T)), some (.lst true (T.map rD)), some (.int t), some (lI true (dist a b l (lens T))), x7, some (iD i), none], rfl, rfl⟩⟩
      exact tOfQ_of (qAnd_of (tqf_of (q2f_of (q2f_of rfl rfl (ix_iD (by omega))) rfl (eq_int _ _))) fun _ => tqf_of (q2f_of (q1L_of (qCons_of (q2f_of rfl rfl (ix_iD (by omega))) rfl) rfl) rfl rfl))
  obtain ⟨z8, hz8, q3⟩ := rounds_set (l := l) (a := a) (b := b) (r := r) (t := t) (lk := lkP lk 7) (n := cnt l) (fs := dist a b l (lens T)) (is0 := (List.range (cnt l)).filter (hit r T (dist a b l (lens T)))) (x3 := some (lI true (lens T))) hd (fun i m => List.mem_range.mp (List.mem_filter.mp m).1)
    (Nat.le_trans (List.length_filter_le _ _) (by rw [List.length_range]; omega)) T hT x8 hz
  rw [setAll_step hT] at q3
  have q4 := eComp_all (own := [8]) (fi := iRange (eCons (eVar 2) eNil)) (g := gdName 8) (el := n1L opInt (qCons (qvOr (q2f opEq (q2f opIx (qVar 3) (qVar 8)) (qC (.int 1))) (q2f opIn (qVar 8) (qVar 7))) qNil)) iD (fun i => .int (b01 ((at' (lens T) (i : Nat) == 1) || decide (i ∈ (List.range (cnt l)).filter (hit r T (dist a b l (lens T))))))) (List.range (cnt l))
    (E := [some (lineD l), some (szD a b r), some (.int (cnt l)), some (lI true (lens T)), some (.lst true ((step a b r l t T).map rD)), some (.int t), some (lI true (dist a b l (lens T))), some (.lst true (((List.range (cnt l)).filter (hit r T (dist a b l (lens T)))).map iD)), z8, none]) (range_of rfl (by omega)) (ownFz_one rfl hz8) rfl rfl (by rw [List.length_range]; exact Nat.le_trans (by omega : cnt l ≤ 1000) (by decide)) fun i m => by
      have hi : i < cnt l := List.mem_range.mp m
      refine ⟨[some (lineD l), some (szD a b r), some (.int (cnt l)), some (lI true (lens T)), some (.lst true ((step a b r l t T).map rD)), some (.int t), some (lI true (dist a b l (lens T))), some (.lst true (((List.range (cnt l)).filter (hit r T (dist a b l (lens T)))).map iD)), some (iD i), none], [some (lineD l), some (szD a b r), some (.int (cnt l)), some (lI true (lens T)), some (.lst true ((step a b r l t T).map rD)), some (.int t), some (lI true (dist a b l (lens T))), some (.lst true (((List.range (cnt l)).filter (hit r T (dist a b l (lens T)))).map iD)), some (iD i), none], rfl, ?_, rfl⟩
      exact n1L_of (qCons_of (qvOr_of (q2f_of (q2f_of rfl rfl (ix_iD (by omega))) rfl (eq_int _ _)) fun _ => q2f_of rfl rfl (in_iD _ _ _)) rfl) (opInt_bl _)
  have e4 : (List.range (cnt l)).map (fun i => D.int (b01 ((at' (lens T) (i : Nat) == 1) || decide (i ∈ (List.range (cnt l)).filter (hit r T (dist a b l (lens T))))))) = (lens (step a b r l t T)).map D.int := by
    rw [← lens_step hT, List.map_map]; rfl
  rw [e4] at q4
  refine ⟨some (lI true (dist a b l (lens T))), some (.lst true (((List.range (cnt l)).filter (hit r T (dist a b l (lens T)))).map iD)), z8, hz8, ?_⟩
  unfold l__law_rounds_2
  refine sSeq_nx (E1 := [some (lineD l), some (szD a b r), some (.int (cnt l)), some (lI true (lens T)), some (.lst true (T.map rD)), some (.int t), some (lI true (dist a b l (lens T))), x7, x8, none]) (sAsg_of (by show (!lk 6 && true) = true; rw [h6]; rfl) q1 rfl) ?_
  refine sSeq_nx (E1 := [some (lineD l), some (szD a b r), some (.int (cnt l)), some (lI true (lens T)), some (.lst true (T.map rD)), some (.int t), some (lI true (dist a b l (lens T))), some (.lst true (((List.range (cnt l)).filter (hit r T (dist a b l (lens T)))).map iD)), x8, none]) (sAsg_of (by show (!lk 7 && true) = true; rw [h7]; rfl) q2 rfl) ?_
  refine sSeq_nx ((sForQ_lst (isFzL_map iD iD_fz _) (by show (!(lk 8 || false) && true) = true; rw [h8]; rfl) rfl).trans q3) ?_
  exact sAsg_of (by show (!lk 3 && true) = true; rw [h3]; rfl) q4 rfl
theorem rounds_loop {l : List It} {a b r : Int} {lk : Lks} (hl : l.length ≤ 1000) (hg : Good l.length l) (h3 : lk 3 = false) (h6 : lk 6 = false) (h7 : lk 7 = false) (h8 : lk 8 = false) : ∀ (n s : Nat) (T : Told) (x5 x6 x7 x8 : Option D), T.length = cnt l → FzO x8 → ∃ y5 y6 y7 y8, forL (gdName 5) (l__law_rounds_2 lk) ((List.range' s n).map iD) [some (lineD l), some (szD a b r), some (.int (cnt l)), some (lI true (lens T)), some (.lst true (T.map rD)), x5, x6, x7, x8, none]
      = some (.nx [some (lineD l), some (szD a b r), some (.int (cnt l)), some (lI true (lens (fixR a b r l n (s : Nat) T))), some (.lst true ((fixR a b r l n (s : Nat) T).map rD)), y5, y6, y7, y8, none]) := by
    intro n
    induction n with
    | zero => intro s T x5 x6 x7 x8 hT hz; exact ⟨x5, x6, x7, x8, rfl⟩
    | succ n ih =>
      intro s T x5 x6 x7 x8 hT hz
      obtain ⟨y6, y7, y8, hy, q⟩ := rounds_lap (a := a) (b := b) (r := r) (t := (0 + (s : Nat) : Int)) (lk := lk) hl hg h3 h6 h7 h8 hT x6 x7 x8 hz
      obtain ⟨z5, z6, z7, z8, q2⟩ := ih (s + 1) (step a b r l (0 + (s : Nat) : Int) T) (some (iD s)) y6 y7 y8 (step_length hT) hy
      refine ⟨z5, z6, z7, z8, ?_⟩
      rw [List.range'_succ, List.map_cons, forL]
      show (match l__law_rounds_2 lk [some (lineD l), some (szD a b r), some (.int (cnt l)), some (lI true (lens T)), some (.lst true (T.map rD)), some (.int (0 + (s : Nat))), x6, x7, x8, none] with | some (.nx E2) => forL (gdName 5) (l__law_rounds_2 lk) ((List.range' (s + 1) n).map iD) E2 | some (.ct E2) => _ | some (.bk E2) => _ | some (.ret d E2) => _ | none => _) = _
      rw [q]
      have e : fixR a b r l (n + 1) (s : Nat) T = fixR a b r l n ((s + 1 : Nat) : Int) (step a b r l (0 + (s : Nat) : Int) T) := by
        rw [fixR, Int.zero_add, Int.natCast_succ]
      rw [e]
      exact q2
theorem qLst_one {d : D} (hz : isFz d = true) (E : Ev) : qLst (qCons (qC d) qNil) E = some (.lst true [d]) := by
  unfold qLst
  rw [qCons_of (f := qC d) (g := qNil) (E := E) (d := d) (ds := []) rfl rfl]
  show (if isFzL [d] = true ∧ [d].length ≤ sizeLine then some (D.lst true [d]) else none) = _
  rw [if_pos ⟨by simp only [isFzL, hz]; rfl, by rw [List.length_singleton]; decide⟩]
theorem eTup_two {f g : Ev → Option (D × Ev)} {E E1 E2 : Ev} {x y : D} (h : f E = some (x, E1)) (h2 : g E1 = some (y, E2)) : eTup (eCons f (eCons g eNil)) E = some (.tup [x, y], E2) := by
  unfold eTup
  rw [eCons_of h (eCons_of h2 (rfl : eNil E2 = some ([], E2)))]
  show (if [x, y].length ≤ sizeLine then some (D.tup [x, y], E2) else none) = _
  rw [if_pos (by simp only [List.length_cons, List.length_nil]; decide)]
theorem rounds_init {l : List It} {a b r : Int} (h : cnt l ≤ 5000) : (eTup (eCons (n2f opMul (qLst (qCons (qC (.int 0)) qNil)) (qVar 2)) (eCons (n2f opMul (qLst (qCons (qC .non) qNil)) (qVar 2)) eNil))) [some (lineD l), some (szD a b r), some (.int (cnt l)), none, none, none, none, none, none, none]
      = some (.tup [lI true (lens (told0 l)), .lst true ((told0 l).map rD)], [some (lineD l), some (szD a b r), some (.int (cnt l)), none, none, none, none, none, none, none]) := by
  have e0 : lens (told0 l) = List.replicate (cnt l) 0 := by rw [lens, told0, List.map_replicate]; rfl
  have e1 : lI true (lens (told0 l)) = .lst true (List.replicate (cnt l) (.int 0)) := by rw [e0, lI, List.map_replicate]
  have e2 : (told0 l).map rD = List.replicate (cnt l) .non := by rw [told0, List.map_replicate]; rfl
  rw [e1, e2]
  have m1 := mul_one (d := .int 0) rfl h true
  have m2 := mul_one (d := .non) rfl h true
  exact eTup_two (n2f_of (qLst_one rfl _) rfl m1) (n2f_of (qLst_one rfl _) rfl m2)
theorem law_rounds_ok {l : List It} {a b r : Int} (hl : l.length ≤ 1000) (hg : Good l.length l) : g__law_rounds [lineD l, szD a b r] = some (.tup [tI (least a b r l), .tup ((R a b r l).map rD)], [lineD l, szD a b r]) := by
  have hcl := cnt_le l
  obtain ⟨y5, y6, y7, y8, q⟩ := rounds_loop (a := a) (b := b) (r := r) (lk := lkOf [lineD l, szD a b r]) hl hg rfl rfl rfl rfl (cnt l + 1) 0 (told0 l) none none none none (by rw [told0, List.length_replicate]) (fun d e => by cases e)
  have hr : fixR a b r l (cnt l + 1) ((0 : Nat) : Int) (told0 l) = R a b r l := by unfold R; rw [Int.natCast_zero]
  rw [hr, ← List.range_eq_range'] at q
  refine runD_same [some (.int (cnt l)), some (lI true (least a b r l)), some (.lst true ((R a b r l).map rD)), y5, y6, y7, y8, none] rfl ?_
  show b__law_rounds (lkOf [lineD l, szD a b r]) [some (lineD l), some (szD a b r), none, none, none, none, none, none, none, none] = _
  unfold b__law_rounds
  have p1 := sAsg_of (lk := lkOf [lineD l, szD a b r]) (ts := [2]) (g := gdName 2) (E2 := [some (lineD l), some (szD a b r), some (.int (cnt l)), none, none, none, none, none, none, none]) rfl (many_ok (j := 9) (E := [some (lineD l), some (szD a b r), none, none, none, none, none, none, none, none]) hl rfl rfl (by decide)) rfl
  have p2 := sAsg_of (lk := lkOf [lineD l, szD a b r]) (ts := [3, 4]) (g := gdTup 2 (gdCons (gdName 3) (gdCons (gdName 4) gdNil))) (E2 := [some (lineD l), some (szD a b r), some (.int (cnt l)), some (lI true (lens (told0 l))), some (.lst true ((told0 l).map rD)), none, none, none, none, none]) rfl (rounds_init (l := l) (a := a) (b := b) (r := r) (by omega)) rfl
  have n1 : n2f opAdd (qVar 2) (qC (.int 1)) [some (lineD l), some (szD a b r), some (.int (cnt l)), some (lI true (lens (told0 l))), some (.lst true ((told0 l).map rD)), none, none, none, none, none] = some (.int ((cnt l + 1 : Nat) : Int), [some (lineD l), some (szD a b r), some (.int (cnt l)), some (lI true (lens (told0 l))), some (.lst true ((told0 l).map rD)), none, none, none, none, none]) := by
    rw [Int.natCast_succ]; rfl
  have p3 := sFor_of (lk := lkOf [lineD l, szD a b r]) (ts := [5]) rfl (range_of (n := cnt l + 1) (eCons_of (g := eNil) n1 rfl) (by omega)) q
  have p4 : sRet (eTup (eCons (n1L opTuple (qCons (qVar 3) qNil)) (eCons (n1L opTuple (qCons (qVar 4) qNil)) eNil))) [some (lineD l), some (szD a b r), some (.int (cnt l)), some (lI true (lens (R a b r l))), some (.lst true ((R a b r l).map rD)), y5, y6, y7, y8, none]
      = some (.ret (.tup [tI (least a b r l), .tup ((R a b r l).map rD)]) [some (lineD l), some (szD a b r), some (.int (cnt l)), some (lI true (lens (R a b r l))), some (.lst true ((R a b r l).map rD)), y5, y6, y7, y8, none]) := by
    exact sRet_of (eTup_two (n1L_of rfl (tuple_own (fz_ints (lens (R a b r l))) true)) (n1L_of rfl (tuple_own (isFzL_map rD rD_fz (R a b r l)) true)))
  exact sSeq_nx p1 (sSeq_nx p2 (sSeq_nx p3 p4))
end K19

namespace K19
open PySem Dm
/-! ### the least lengths are the least: plain mathematics -/
def szs (a b : Int) : List It → List Int → List Int
  | [], _ => []
  | .w n :: r, ls => n :: szs a b r ls
  | .to _ :: r, x :: ls => szl a b x :: szs a b r ls
  | .to _ :: _, [] => []
theorem szs_length (a b : Int) : ∀ (l : List It) (ls : List Int), ls.length = cnt l → (szs a b l ls).length = l.length
  | [], _, _ => rfl
  | .w n :: r, ls, h => by rw [szs, List.length_cons, List.length_cons, szs_length a b r ls h]
  | .to t :: r, [], h => by simp [cnt] at h
  | .to t :: r, x :: ls, h => by rw [szs, List.length_cons, List.length_cons, szs_length a b r ls (by simpa [cnt] using h)]
theorem run_sum (a b : Int) : ∀ (l : List It) (ls : List Int) (acc : Int) (j : Nat), ls.length = cnt l → j ≤ l.length → (acc :: run a b acc l ls)[j]? = some (acc + ((szs a b l ls).take j).sum)
  | l, ls, acc, 0, _, _ => by simp
  | [], _, _, j + 1, _, h => by simp at h
  | .w n :: r, ls, acc, j + 1, h, hj => by
    rw [run, List.getElem?_cons_succ, run_sum a b r ls (acc + n) j h (by simpa using hj), szs, List.take_succ_cons, List.sum_cons, Int.add_assoc]
  | .to t :: r, [], _, _ + 1, h, _ => by simp [cnt] at h
  | .to t :: r, x :: ls, acc, j + 1, h, hj => by
    rw [run, List.getElem?_cons_succ, run_sum a b r ls (acc + szl a b x) j (by simpa [cnt] using h) (by simpa using hj), szs, List.take_succ_cons, List.sum_cons, Int.add_assoc]
theorem pl_at {a b : Int} {l : List It} {ls : List Int} {i : Int} (hc : ls.length = cnt l) (h0 : 0 ≤ i) (h1 : i ≤ l.length) : at' (pl a b l ls) i = ((szs a b l ls).take i.toNat).sum := by
  have q := run_sum a b l ls 0 i.toNat hc (by omega)
  unfold at' pl
  rw [List.getD_eq_getElem?_getD, q, Int.zero_add]; rfl
/-- words are not negative -/
def Pos (l : List It) : Prop := ∀ n, It.w n ∈ l → 0 ≤ n
def LeL : List Int → List Int → Prop
  | x :: xs, y :: ys => (x = 1 → y = 1) ∧ LeL xs ys
  | [], [] => True
  | _, _ => False
def Dom : List Int → List Int → Prop
  | x :: xs, y :: ys => (0 ≤ x ∧ x ≤ y) ∧ Dom xs ys
  | [], [] => True
  | _, _ => False
theorem szs_dom {a b : Int} (ha : 0 ≤ a) (hab : a ≤ b) : ∀ (l : List It) (ls ms : List Int), Pos l → Bits ls → Bits ms → ls.length = cnt l → LeL ls ms → Dom (szs a b l ls) (szs a b l ms)
  | [], _, _, _, _, _, _, _ => trivial
  | .w n :: r, ls, ms, hp, h1, h2, hc, hle => ⟨⟨hp n List.mem_cons_self, Int.le_refl _⟩, szs_dom ha hab r ls ms (fun m q => hp m (List.mem_cons_of_mem _ q)) h1 h2 hc hle⟩
  | .to t :: r, [], _, _, _, _, hc, _ => by simp [cnt] at hc
  | .to t :: r, x :: ls, [], _, _, _, _, hle => False.elim hle
  | .to t :: r, x :: ls, y :: ms, hp, h1, h2, hc, hle => by
    refine ⟨?_, szs_dom ha hab r ls ms (fun m q => hp m (List.mem_cons_of_mem _ q)) (fun z q => h1 z (List.mem_cons_of_mem _ q)) (fun z q => h2 z (List.mem_cons_of_mem _ q)) (by simpa [cnt] using hc) hle.2⟩
    have q := hle.1
    unfold szl
    rcases h1 x List.mem_cons_self with e | e <;> rcases h2 y List.mem_cons_self with e' | e' <;> subst e <;> subst e' <;> simp at q ⊢ <;> omega
theorem dom_sum : ∀ (xs ys : List Int) (j : Nat), Dom xs ys → 0 ≤ (xs.take j).sum ∧ (xs.take j).sum ≤ (ys.take j).sum
  | _, _, 0, _ => by simp
  | [], [], _ + 1, _ => by simp
  | x :: xs, y :: ys, j + 1, h => by
    have q := dom_sum xs ys j h.2
    have := h.1
    rw [List.take_succ_cons, List.take_succ_cons, List.sum_cons, List.sum_cons]
    omega
  | [], _ :: _, _ + 1, h => False.elim h
  | _ :: _, [], _ + 1, h => False.elim h
theorem dom_diff : ∀ (xs ys : List Int) (i j : Nat), Dom xs ys → i ≤ j → 0 ≤ (xs.take j).sum - (xs.take i).sum ∧ (xs.take j).sum - (xs.take i).sum ≤ (ys.take j).sum - (ys.take i).sum
  | xs, ys, 0, j, h, _ => by
    have := dom_sum xs ys j h
    simp
    omega
  | _, _, i + 1, 0, _, h => by omega
  | [], [], i + 1, j + 1, _, _ => by simp
  | x :: xs, y :: ys, i + 1, j + 1, h, hij => by
    have q := dom_diff xs ys i j h.2 (by omega)
    simp only [List.take_succ_cons, List.sum_cons]
    omega
  | [], _ :: _, _ + 1, _ + 1, h, _ => False.elim h
  | _ :: _, [], _ + 1, _ + 1, h, _ => False.elim h
theorem dist_mono {a b : Int} {l : List It} {ls ms : List Int} (ha : 0 ≤ a) (hab : a ≤ b) (hp : Pos l) (hg : Good l.length l) (h1 : Bits ls) (h2 : Bits ms) (hc : ls.length = cnt l) (hc' : ms.length = cnt l) (hle : LeL ls ms) {k : Nat} {f g : Int}
    (hf : (dist a b l ls)[k]? = some f) (hg' : (dist a b l ms)[k]? = some g) : iabs f ≤ iabs g := by
  have D := szs_dom ha hab l ls ms hp h1 h2 hc hle
  unfold dist at hf hg'
  rw [List.getElem?_map] at hf hg'
  cases hp : (tgts 0 l)[k]? with
  | none => rw [hp] at hf; cases hf
  | some p =>
    rw [hp] at hf hg'
    cases hf
    cases hg'
    obtain ⟨m1, m2, m3⟩ := tgts_mem l 0 p (List.mem_of_getElem? hp)
    obtain ⟨g1, g2⟩ := hg _ m1
    show iabs (at' (pl a b l ls) p.2 - at' (pl a b l ls) (p.1 + 1)) ≤ iabs (at' (pl a b l ms) p.2 - at' (pl a b l ms) (p.1 + 1))
    rw [pl_at hc g1 g2, pl_at hc (by omega) (by omega), pl_at hc' g1 g2, pl_at hc' (by omega) (by omega)]
    unfold iabs
    by_cases hle2 : p.2.toNat ≤ (p.1 + 1).toNat
    · have q := dom_diff _ _ _ _ D hle2
      split <;> split <;> omega
    · have q := dom_diff _ _ (p.1 + 1).toNat p.2.toNat D (by omega)
      split <;> split <;> omega
theorem LeL.get : ∀ {xs ys : List Int}, LeL xs ys ↔ xs.length = ys.length ∧ ∀ k : Nat, xs[k]? = some 1 → ys[k]? = some 1
  | [], [] => by simp [LeL]
  | x :: xs, y :: ys => by
    rw [LeL, LeL.get (xs := xs) (ys := ys)]
    constructor
    · rintro ⟨h1, h2, h3⟩
      refine ⟨by simpa using h2, fun k h => ?_⟩
      cases k with
      | zero =>
        simp at h ⊢
        exact h1 h
      | succ k => simpa using h3 k (by simpa using h)
    · rintro ⟨h1, h2⟩
      refine ⟨fun e => ?_, by simpa using h1, fun k h => ?_⟩
      · have := h2 0 (by simp [e])
        simpa using this
      · have := h2 (k + 1) (by simpa using h)
        simpa using this
  | [], y :: ys => by simp [LeL]
  | x :: xs, [] => by simp [LeL]
theorem lens_one {T : Told} {k : Nat} : (lens T)[k]? = some 1 ↔ ∃ p, T[k]? = some (some p) := by
  rw [lens, List.getElem?_map]
  cases T[k]? with
  | none => simp
  | some o => cases o <;> simp [b01]
theorem right_at {a b r : Int} {l : List It} {ls : List Int} (h : isRight a b r l ls = true) {k : Nat} {x f : Int} (h1 : ls[k]? = some x) (h2 : (dist a b l ls)[k]? = some f) : okAt r (x, f) = true := by
  unfold isRight at h
  rw [List.all_eq_true] at h
  exact h (x, f) (List.mem_of_getElem? ((List.getElem?_zip_eq_some (z := (x, f))).mpr ⟨h1, h2⟩))
theorem step_le {a b r t : Int} {l : List It} {T : Told} {ls : List Int} (ha : 0 ≤ a) (hab : a ≤ b) (hp : Pos l) (hg : Good l.length l) (hT : T.length = cnt l) (hb : Bits ls) (hc : ls.length = cnt l) (hr : isRight a b r l ls = true) (h : LeL (lens T) ls) : LeL (lens (step a b r l t T)) ls := by
  refine LeL.get.mpr ⟨by rw [lens_length, step_length hT, hc], fun k hk => ?_⟩
  obtain ⟨p, hp'⟩ := lens_one.mp hk
  have hkl : k < cnt l := by
    have := (List.getElem?_eq_some_iff.mp hp').1
    rw [step_length hT] at this
    exact this
  have h1 : T[k]? = some T[k] := List.getElem?_eq_getElem (by omega)
  have hd : k < (dist a b l (lens T)).length := by rw [dist_length]; exact hkl
  have h2 : (dist a b l (lens T))[k]? = some (dist a b l (lens T))[k] := List.getElem?_eq_getElem hd
  have e : (step a b r l t T)[k]? = some (stp r t (T[k], (dist a b l (lens T))[k])) := by
    unfold step
    rw [List.getElem?_map, (List.getElem?_zip_eq_some (z := (T[k], (dist a b l (lens T))[k]))).mpr ⟨h1, h2⟩]
    rfl
  rw [e] at hp'
  cases hTk : T[k] with
  | some q => exact (LeL.get.mp h).2 k (lens_one.mpr ⟨q, by rw [h1, hTk]⟩)
  | none =>
    rw [hTk] at hp'
    unfold stp at hp'
    split at hp'
    · rename_i hch
      have hls : ls[k]? = some ls[k] := List.getElem?_eq_getElem (by omega)
      have hd' : k < (dist a b l ls).length := by rw [dist_length]; exact hkl
      have h3 : (dist a b l ls)[k]? = some (dist a b l ls)[k] := List.getElem?_eq_getElem hd'
      have ok := right_at hr hls h3
      have mono := dist_mono (a := a) (b := b) ha hab hp hg (lens_bits T) hb (by rw [lens_length, hT]) hc h h2 h3
      unfold chg at hch
      unfold okAt at ok
      simp at hch ok
      rcases ok with ok | ok
      · rw [hls, ok]
      · omega
    · cases hp'
theorem fixR_le {a b r : Int} {l : List It} {ls : List Int} (ha : 0 ≤ a) (hab : a ≤ b) (hp : Pos l) (hg : Good l.length l) (hb : Bits ls) (hc : ls.length = cnt l) (hr : isRight a b r l ls = true) : ∀ (n : Nat) (t : Int) (T : Told), T.length = cnt l → LeL (lens T) ls → LeL (lens (fixR a b r l n t T)) ls
  | 0, _, _, _, h => h
  | n + 1, t, T, hT, h => by rw [fixR]; exact fixR_le ha hab hp hg hb hc hr n (t + 1) _ (step_length hT) (step_le ha hab hp hg hT hb hc hr h)
theorem least_le {a b r : Int} {l : List It} {ls : List Int} (ha : 0 ≤ a) (hab : a ≤ b) (hp : Pos l) (hg : Good l.length l) (hb : Bits ls) (hc : ls.length = cnt l) (hr : isRight a b r l ls = true) : LeL (least a b r l) ls := by
  refine fixR_le ha hab hp hg hb hc hr _ _ _ (by rw [told0, List.length_replicate]) (LeL.get.mpr ⟨by rw [lens_length, told0, List.length_replicate, hc], fun k h => ?_⟩)
  obtain ⟨p, h⟩ := lens_one.mp h
  rw [told0] at h
  have := List.mem_of_getElem? h
  rw [List.mem_replicate] at this
  cases this.2
theorem fixR_fix {a b r : Int} {l : List It} : ∀ (m : Nat) (t : Int) (T : Told), T.length = cnt l → nones T ≤ m → chgd a b r l (fixR a b r l (m + 1) t T) = false
  | 0, t, T, hT, hm => by
    have hc : chgd a b r l T = false := by
      cases e : chgd a b r l T with
      | false => rfl
      | true =>
        have := (nones_zip r t T (dist a b l (lens T)) (by rw [hT, dist_length])).2 e
        omega
    rw [fixR_same hT hc]
    exact hc
  | m + 1, t, T, hT, hm => by
    cases hc : chgd a b r l T with
    | false => rw [fixR_same hT hc]; exact hc
    | true =>
      have hlt := (nones_zip r t T (dist a b l (lens T)) (by rw [hT, dist_length])).2 hc
      rw [fixR]
      exact fixR_fix m (t + 1) _ (step_length hT) (by show nones ((T.zip (dist a b l (lens T))).map (stp r t)) ≤ m; omega)
theorem R_fix (a b r : Int) (l : List It) : chgd a b r l (R a b r l) = false := fixR_fix _ _ _ (by rw [told0, List.length_replicate]) (nones_told0 l)
theorem least_right (a b r : Int) (l : List It) : isRight a b r l (least a b r l) = true := by
  have h := R_fix a b r l
  unfold chgd at h
  rw [List.any_eq_false] at h
  unfold isRight
  rw [List.all_eq_true]
  rintro ⟨x, f⟩ m
  obtain ⟨k, hk⟩ := List.mem_iff_getElem?.mp m
  obtain ⟨h1, h2⟩ := List.getElem?_zip_eq_some.mp hk
  have hx : (least a b r l)[k]? = some x := h1
  unfold least lens at hx
  rw [List.getElem?_map] at hx
  cases hR : (R a b r l)[k]? with
  | none => rw [hR] at hx; cases hx
  | some o =>
    rw [hR] at hx
    have q := h (o, f) (List.mem_of_getElem? ((List.getElem?_zip_eq_some (z := (o, f))).mpr ⟨hR, h2⟩))
    cases o with
    | some p =>
      have e : x = 1 := by cases hx; rfl
      subst e
      rfl
    | none =>
      unfold chg at q
      unfold okAt
      simp at q ⊢
      exact .inr q
/-! all rows of bits -/
def allb : Nat → List (List Int)
  | 0 => [[]]
  | n + 1 => (allb n).map (· ++ [0]) ++ (allb n).map (· ++ [1])
theorem allb_mem : ∀ (n : Nat) (ls : List Int), ls ∈ allb n ↔ ls.length = n ∧ Bits ls
  | 0, ls => by
    rw [allb, List.mem_singleton]
    constructor
    · intro e; subst e; exact ⟨rfl, fun x m => by cases m⟩
    · intro h; exact List.length_eq_zero_iff.mp h.1
  | n + 1, ls => by
    rw [allb, List.mem_append, List.mem_map, List.mem_map]
    constructor
    · rintro (⟨ms, m, e⟩ | ⟨ms, m, e⟩) <;> subst e <;> obtain ⟨h1, h2⟩ := (allb_mem n ms).mp m <;> refine ⟨by simp [h1], fun x q => ?_⟩ <;> rcases List.mem_append.mp q with q | q
      · exact h2 x q
      · simp at q; exact .inl q
      · exact h2 x q
      · simp at q; exact .inr q
    · rintro ⟨h1, h2⟩
      have hne : ls ≠ [] := fun e => by subst e; simp at h1
      have hd := List.dropLast_concat_getLast hne
      have hm : ls.dropLast ∈ allb n := (allb_mem n _).mpr ⟨by rw [List.length_dropLast, h1]; rfl, fun x q => h2 x (List.dropLast_subset _ q)⟩
      rcases h2 _ (List.getLast_mem hne) with e | e
      · exact .inl ⟨ls.dropLast, hm, by rw [← e]; exact hd⟩
      · exact .inr ⟨ls.dropLast, hm, by rw [← e]; exact hd⟩
theorem allb_length : ∀ n : Nat, (allb n).length = 2 ^ n
  | 0 => rfl
  | n + 1 => by rw [allb, List.length_append, List.length_map, List.length_map, allb_length n, Nat.pow_succ]; omega
end K19

namespace K19
open PySem Dm
/-! ### reasons checked -/
def vbit (t : Int) (o : Option (Int × Int)) : Bool := match o with
  | some p => decide (p.1 < t)
  | none => false
def vlens (T : Told) (t : Int) : List Int := T.map fun o => b01 (vbit t o)
theorem vlens_length (T : Told) (t : Int) : (vlens T t).length = T.length := List.length_map _
theorem vlens_bits (T : Told) (t : Int) : Bits (vlens T t) := by
  intro x m
  obtain ⟨o, _, e⟩ := List.mem_map.mp m
  subst e
  cases vbit t o
  · exact .inl rfl
  · exact .inr rfl
theorem map_vlens (T : Told) (t : Int) : T.map (fun o => D.int (b01 (vbit t o))) = (vlens T t).map D.int := by rw [vlens, List.map_map]; rfl
def far (a b : Int) (l : List It) (T : Told) (p : Int × Int) (k : Int) : Int := at' (dist a b l (vlens T p.1)) k
def badE (a b r : Int) (l : List It) (T : Told) (k : Int) (p : Int × Int) : Bool := (!(far a b l T p k == p.2)) || decide (iabs (far a b l T p k) ≤ r)
def okE (a b r : Int) (l : List It) (T : Told) (q : Int × Option (Int × Int)) : Bool := match q.2 with
  | none => true
  | some p => !badE a b r l T q.1 p
def validT (a b r : Int) (l : List It) (T : Told) : Bool := (enumT 0 T).all (okE a b r l T)
theorem vb_ok (t : Int) (o : Option (Int × Int)) (E : Ev) (i j : Nat) (p : Int × Int) (ht : t = p.1) (hi : E[i]? = some (some (rD o))) (hj : E[j]? = some (some (rD (some p)))) :
    n1L opInt (qCons (qvAnd (q2f opIsNot (qVar i) (qC .non)) (q2f opLt (q2f opIx (qVar i) (qC (.int 0))) (q2f opIx (qVar j) (qC (.int 0))))) qNil) E = some (.int (b01 (vbit t o)), E) := by
  subst ht
  have qi : qVar i E = some (rD o) := by unfold qVar; rw [hi]
  have qj : qVar j E = some (rD (some p)) := by unfold qVar; rw [hj]
  refine n1L_of (qCons_of (d := .bl (vbit p.1 o)) ?_ rfl) (opInt_bl _)
  have e1 : q2f opIsNot (qVar i) (qC .non) E = some (.bl (!o.isNone)) := q2f_of qi rfl (opIsNot_rD o)
  cases o with
  | none =>
    have := qvAnd_of (g := q2f opLt (q2f opIx (qVar i) (qC (.int 0))) (q2f opIx (qVar j) (qC (.int 0)))) (b := true) e1 (fun h => by cases h)
    exact this
  | some q =>
    have e2 : q2f opLt (q2f opIx (qVar i) (qC (.int 0))) (q2f opIx (qVar j) (qC (.int 0))) E = some (.bl (decide (q.1 < p.1))) := q2f_of (q2f_of qi rfl rfl) (q2f_of qj rfl rfl) rfl
    have := qvAnd_of e1 fun _ => e2
    exact this
theorem ixF_ok {xs : List Int} {o : Bool} {i : Int} (h0 : 0 ≤ i) (h1 : i < xs.length) : opIxF (.lst o (xs.map .int)) (.int i) = some (.int (at' xs i)) := by
  unfold opIxF
  rw [ix_ok h0 h1]
  rfl
/-- one turn of the program's loop -/
theorem turn1 {l : List It} {a b r k : Int} {lk : Lks} (hl : l.length ≤ 1000) (hg : Good l.length l) (h5 : lk 5 = false) (h6 : lk 6 = false) {T : Told} (hT : T.length = cnt l) (h0 : 0 ≤ k) (h1 : k < cnt l) (o : Option (Int × Int)) (x5 x6 : Option D) :
    ∃ y5 y6, l_are_reasons_1 lk [some (lineD l), some (szD a b r), some (.tup (T.map rD)), some (.int k), some (rD o), x5, x6, none]
      = if okE a b r l T (k, o) = true then some (.nx [some (lineD l), some (szD a b r), some (.tup (T.map rD)), some (.int k), some (rD o), y5, y6, none])
        else some (.ret (.bl false) [some (lineD l), some (szD a b r), some (.tup (T.map rD)), some (.int k), some (rD o), y5, y6, none]) := by
  have hcl := cnt_le l
  cases o with
  | none =>
    refine ⟨x5, x6, ?_⟩
    rw [if_pos (show okE a b r l T (k, none) = true from rfl)]
    rfl
  | some p =>
    have hc : (vlens T p.1).length = cnt l := by rw [vlens_length, hT]
    have q1 := eCompQ_all (own := [7]) (i := 2) (g := gdName 7) (el := n1L opInt (qCons (qvAnd (q2f opIsNot (qVar 7) (qC .non)) (q2f opLt (q2f opIx (qVar 7) (qC (.int 0))) (q2f opIx (qVar 4) (qC (.int 0))))) qNil)) rD (fun o => .int (b01 (vbit p.1 o))) T (E := [some (lineD l), some (szD a b r), some (.tup (T.map rD)), some (.int k), some (rD (some p)), x5, x6, none]) rfl (.inr (.inr (.inl rfl))) rD_fz rfl rfl rfl rfl (by omega) fun o _ =>
      ⟨[some (lineD l), some (szD a b r), some (.tup (T.map rD)), some (.int k), some (rD (some p)), x5, x6, some (rD o)], [some (lineD l), some (szD a b r), some (.tup (T.map rD)), some (.int k), some (rD (some p)), x5, x6, some (rD o)], rfl, vb_ok p.1 o _ 7 4 p rfl rfl rfl, rfl⟩
    rw [map_vlens] at q1
    have q2 : (eCall g_distances (xSlot 0 (xSlot 1 (xSlot 5 xNil)))) [some (lineD l), some (szD a b r), some (.tup (T.map rD)), some (.int k), some (rD (some p)), some (lI true (vlens T p.1)), x6, none] = some (lI true (dist a b l (vlens T p.1)), [some (lineD l), some (szD a b r), some (.tup (T.map rD)), some (.int k), some (rD (some p)), some (lI true (vlens T p.1)), x6, none]) :=
      eCall_same (as := [.inl 0, .inl 1, .inl 5]) rfl (.slot rfl (.slot rfl (.slot rfl .nil))) (by decide) (distances_ok hl hg (.inr (.inl rfl)) hc (vlens_bits T p.1))
    have p1 := sAsg_of (lk := lk) (ts := [5]) (g := gdName 5) (E2 := [some (lineD l), some (szD a b r), some (.tup (T.map rD)), some (.int k), some (rD (some p)), some (lI true (vlens T p.1)), x6, none]) (by show (!lk 5 && true) = true; rw [h5]; rfl) q1 rfl
    have p2 := sAsg_of (lk := lk) (ts := [6]) (g := gdName 6) (E2 := [some (lineD l), some (szD a b r), some (.tup (T.map rD)), some (.int k), some (rD (some p)), some (lI true (vlens T p.1)), some (.int (far a b l T p k)), none]) (by show (!lk 6 && true) = true; rw [h6]; rfl) (e2f_of (op := opIxF) q2 (eVar_fz (i := 3) rfl rfl) (ixF_ok h0 (by rw [dist_length]; exact h1))) rfl
    have p3 : tOfQ (qOr (tqf (q2f opNe (qVar 6) (q2f opIx (qVar 4) (qC (.int 1))))) (tqf (q2f opLe (q1L opAbs (qCons (qVar 6) qNil)) (q2f opIx (qVar 1) (qC (.int 2)))))) [some (lineD l), some (szD a b r), some (.tup (T.map rD)), some (.int k), some (rD (some p)), some (lI true (vlens T p.1)), some (.int (far a b l T p k)), none]
        = some (badE a b r l T k p, [some (lineD l), some (szD a b r), some (.tup (T.map rD)), some (.int k), some (rD (some p)), some (lI true (vlens T p.1)), some (.int (far a b l T p k)), none]) :=
      tOfQ_of (qOr_of (tqf_of (q2f_of rfl (q2f_of rfl rfl rfl) (ne_int _ _))) fun _ => rfl)
    refine ⟨some (lI true (vlens T p.1)), some (.int (far a b l T p k)), ?_⟩
    unfold l_are_reasons_1
    refine sIf_t (E1 := [some (lineD l), some (szD a b r), some (.tup (T.map rD)), some (.int k), some (rD (some p)), x5, x6, none]) rfl (sSeq_nx p1 (sSeq_nx p2 ?_))
    have e : okE a b r l T (k, some p) = !badE a b r l T k p := rfl
    rw [e]
    cases hb : badE a b r l T k p with
    | true =>
      rw [hb] at p3
      rw [if_neg (by decide)]
      exact sIf_t p3 rfl
    | false =>
      rw [hb] at p3
      rw [if_pos (by decide)]
      exact sIf_f p3 rfl
def isR (o : Option (Int × Int)) : Bool := match o with
  | none => true
  | some p => decide (0 ≤ p.1)
theorem is_reason_ok (o : Option (Int × Int)) : g_is_reason [rD o] = some (.bl (isR o), [rD o]) := by cases o <;> rfl
theorem is_reason_w : g_is_reason [.tup [.int 0]] = some (.bl false, [.tup [.int 0]]) := rfl
/-- what may be shown as reasons -/
inductive Th where
  | v (T : Told) | l (T : Told) | n | w (T1 T2 : Told)
def Th.d : Th → D
  | .v T => .tup (T.map rD)
  | .l T => .lst false (T.map rD)
  | .n => .non
  | .w T1 T2 => .tup (T1.map rD ++ .tup [.int 0] :: T2.map rD)
def Bd (B : Int) (T : Told) : Prop := ∀ p, some p ∈ T → 0 ≤ p.1 ∧ p.1 ≤ B ∧ -B ≤ p.2 ∧ p.2 ≤ B
theorem all_isR {B : Int} {T : Told} (h : Bd B T) : T.all isR = true := by
  rw [List.all_eq_true]
  intro o m
  cases o with
  | none => rfl
  | some p => exact decide_eq_true (h p m).1
/-- an entry: a reason or the odd one -/
abbrev En := Option (Option (Int × Int))
def En.d : En → D
  | some o => rD o
  | none => .tup [.int 0]
theorem En.fz (e : En) : isFz e.d = true := by
  cases e with
  | none => rfl
  | some o => exact rD_fz o
def En.ok : En → Bool
  | some o => isR o
  | none => false
theorem is_reason_en (e : En) : g_is_reason [e.d] = some (.bl e.ok, [e.d]) := by
  cases e with
  | none => rfl
  | some o => exact is_reason_ok o
def Th.es : Th → List En
  | .v T => T.map some
  | .w T1 T2 => T1.map some ++ none :: T2.map some
  | _ => []
theorem es_v (T : Told) : (Th.v T).d = .tup ((Th.v T).es.map En.d) := by
  show D.tup (T.map rD) = .tup ((T.map some).map En.d)
  rw [List.map_map]; rfl
theorem es_w (T1 T2 : Told) : (Th.w T1 T2).d = .tup ((Th.w T1 T2).es.map En.d) := by
  show D.tup (T1.map rD ++ .tup [.int 0] :: T2.map rD) = .tup ((T1.map some ++ none :: T2.map some).map En.d)
  rw [List.map_append, List.map_cons, List.map_map, List.map_map]; rfl
/-- the first test of are_reasons, of a tuple -/
theorem are_reasons_c {l : List It} {a b r : Int} {es : List En} (hl : l.length ≤ 1000) (he : es.length ≤ 5000) {d : D} (hd : d = .tup (es.map En.d)) :
    (dOr (tOfQ (qNot (tqf (q1L opIsi (qCons (qVar 2) (qCons (qC (.ty "tuple")) qNil)))))) (dOr (tdf (e2f opNe (n1L opLen (qCons (qVar 2) qNil)) (e1L opLen (eCons (eCall g_targets (xSlot 0 xNil)) eNil)))) (dNot (tdf (e1L opAll (eCons (eCompQ [4] 2 (gdName 4) dYes (eCall g_is_reason (xSlot 4 xNil))) eNil)))))) [some (lineD l), some (szD a b r), some d, none, none, none, none, none]
      = some (!(decide (es.length = cnt l) && es.all En.ok), [some (lineD l), some (szD a b r), some d, none, none, none, none, none]) := by
  subst hd
  refine dOr_f rfl ?_
  have c1 : tdf (e2f opNe (n1L opLen (qCons (qVar 2) qNil)) (e1L opLen (eCons (eCall g_targets (xSlot 0 xNil)) eNil))) [some (lineD l), some (szD a b r), some (.tup (es.map En.d)), none, none, none, none, none] = some (!decide (es.length = cnt l), [some (lineD l), some (szD a b r), some (.tup (es.map En.d)), none, none, none, none, none]) := by
    rw [← int_len_ne]
    exact tdf_of (e2f_of (n1L_of rfl (len_tup En.d es)) (tlen hl rfl) (ne_int _ _))
  by_cases h : es.length = cnt l
  · rw [decide_eq_true h] at c1 ⊢
    rw [Bool.true_and]
    refine dOr_f c1 ?_
    have q := eCompQ_all (own := [4]) (i := 2) (g := gdName 4) (el := eCall g_is_reason (xSlot 4 xNil)) En.d (fun e => .bl e.ok) es (E := [some (lineD l), some (szD a b r), some (.tup (es.map En.d)), none, none, none, none, none]) rfl (.inr (.inr (.inl rfl))) En.fz rfl rfl rfl rfl (by omega) fun e _ =>
      ⟨[some (lineD l), some (szD a b r), some (.tup (es.map En.d)), none, some e.d, none, none, none], [some (lineD l), some (szD a b r), some (.tup (es.map En.d)), none, some e.d, none, none, none], rfl, eCall_same (as := [.inl 4]) rfl (.slot rfl .nil) (by decide) (is_reason_en e), rfl⟩
    exact dNot_of (tdf_of (e1L_of (eCons_of q rfl) (all_map En.ok true es)))
  · rw [decide_eq_false h] at c1 ⊢
    rw [Bool.false_and]
    exact dOr_t c1
theorem all_some (T : Told) : (T.map some).all En.ok = T.all isR := by rw [List.all_map]; rfl
theorem are_reasons_v {l : List It} {a b r B : Int} {T : Told} (hl : l.length ≤ 1000) (hg : Good l.length l) (hB : Bd B T) (he : T.length ≤ 5000) :
    g_are_reasons [lineD l, szD a b r, (Th.v T).d] = some (.bl (decide (T.length = cnt l) && validT a b r l T), [lineD l, szD a b r, (Th.v T).d]) := by
  have hcl := cnt_le l
  have c := are_reasons_c (a := a) (b := b) (r := r) hl (es := T.map some) (by rw [List.length_map]; exact he) (es_v T)
  rw [List.length_map, all_some, all_isR hB, Bool.and_true] at c
  by_cases h : T.length = cnt l
  · rw [decide_eq_true h] at c ⊢
    rw [Bool.true_and]
    have loop : (validT a b r l T = true ∧ ∃ x3 x4 x5 x6, forL (gdTup 2 (gdCons (gdName 3) (gdCons (gdName 4) gdNil))) (l_are_reasons_1 (lkOf [lineD l, szD a b r, (Th.v T).d])) ((enumT 0 T).map fun p => .tup [.int p.1, rD p.2]) [some (lineD l), some (szD a b r), some (.tup (T.map rD)), none, none, none, none, none] = some (.nx [some (lineD l), some (szD a b r), some (.tup (T.map rD)), x3, x4, x5, x6, none])) ∨
        (validT a b r l T = false ∧ ∃ x3 x4 x5 x6, forL (gdTup 2 (gdCons (gdName 3) (gdCons (gdName 4) gdNil))) (l_are_reasons_1 (lkOf [lineD l, szD a b r, (Th.v T).d])) ((enumT 0 T).map fun p => .tup [.int p.1, rD p.2]) [some (lineD l), some (szD a b r), some (.tup (T.map rD)), none, none, none, none, none] = some (.ret (.bl false) [some (lineD l), some (szD a b r), some (.tup (T.map rD)), x3, x4, x5, x6, none])) := by
      refine forL_typed (fun p : Int × Option (Int × Int) => .tup [.int p.1, rD p.2]) (fun ts E => ∃ (k : Int) (rest : Told) (x3 x4 x5 x6 : Option D), ts = enumT k rest ∧ 0 ≤ k ∧ k + rest.length = cnt l ∧ validT a b r l T = (enumT k rest).all (okE a b r l T) ∧ E = [some (lineD l), some (szD a b r), some (.tup (T.map rD)), x3, x4, x5, x6, none])
        (fun o => (validT a b r l T = true ∧ ∃ x3 x4 x5 x6, o = some (.nx [some (lineD l), some (szD a b r), some (.tup (T.map rD)), x3, x4, x5, x6, none])) ∨ (validT a b r l T = false ∧ ∃ x3 x4 x5 x6, o = some (.ret (.bl false) [some (lineD l), some (szD a b r), some (.tup (T.map rD)), x3, x4, x5, x6, none]))) ?_ ?_ (enumT 0 T) _ ⟨0, T, none, none, none, none, rfl, Int.le_refl _, by omega, rfl, rfl⟩
      · rintro p ts E ⟨k, rest, x3, x4, x5, x6, ets, hk, hkl, hv, rfl⟩
        cases rest with
        | nil => cases ets
        | cons o rest =>
          cases ets
          obtain ⟨y5, y6, q⟩ := turn1 (a := a) (b := b) (r := r) (k := k) (lk := lkOf [lineD l, szD a b r, (Th.v T).d]) hl hg rfl rfl h hk (by simp at hkl; omega) o x5 x6
          refine ⟨[some (lineD l), some (szD a b r), some (.tup (T.map rD)), some (.int k), some (rD o), x5, x6, none], rfl, ?_⟩
          rw [enumT, List.all_cons] at hv
          cases hok : okE a b r l T (k, o) with
          | true =>
            rw [hok, if_pos rfl] at q
            rw [hok, Bool.true_and] at hv
            exact .inl ⟨_, q, k + 1, rest, some (.int k), some (rD o), y5, y6, rfl, by omega, by simp at hkl ⊢; omega, hv, rfl⟩
          | false =>
            rw [hok, if_neg (by decide)] at q
            rw [hok, Bool.false_and] at hv
            exact .inr ⟨_, _, q, .inr ⟨hv, _, _, _, _, rfl⟩⟩
      · rintro E ⟨k, rest, x3, x4, x5, x6, ets, hk, hkl, hv, rfl⟩
        cases rest with
        | cons o rest => cases ets
        | nil => exact .inl ⟨hv, x3, x4, x5, x6, rfl⟩
    have hi := iEnum_var (i := 2) (enc := rD) (ts := T) (E := [some (lineD l), some (szD a b r), some (.tup (T.map rD)), none, none, none, none, none]) rD_fz rfl
    rcases loop with ⟨hv, x3, x4, x5, x6, q⟩ | ⟨hv, x3, x4, x5, x6, q⟩
    · rw [hv]
      refine runD_same [x3, x4, x5, x6, none] rfl ?_
      show b_are_reasons (lkOf [lineD l, szD a b r, (Th.v T).d]) [some (lineD l), some (szD a b r), some (Th.v T).d, none, none, none, none, none] = _
      unfold b_are_reasons
      exact sSeq_nx (sIf_f c rfl) (sSeq_nx (sFor_of rfl hi q) rfl)
    · rw [hv]
      refine runD_same [x3, x4, x5, x6, none] rfl ?_
      show b_are_reasons (lkOf [lineD l, szD a b r, (Th.v T).d]) [some (lineD l), some (szD a b r), some (Th.v T).d, none, none, none, none, none] = _
      unfold b_are_reasons
      exact sSeq_nx (sIf_f c rfl) (sSeq_ret (sFor_of rfl hi q))
  · rw [decide_eq_false h] at c ⊢
    rw [Bool.false_and]
    refine runD_same [none, none, none, none, none] rfl ?_
    show b_are_reasons (lkOf [lineD l, szD a b r, (Th.v T).d]) [some (lineD l), some (szD a b r), some (Th.v T).d, none, none, none, none, none] = _
    unfold b_are_reasons
    exact sSeq_ret (sIf_t c rfl)
theorem are_reasons_w {l : List It} {a b r : Int} {T1 T2 : Told} (hl : l.length ≤ 1000) (he : (Th.w T1 T2).es.length ≤ 5000) :
    g_are_reasons [lineD l, szD a b r, (Th.w T1 T2).d] = some (.bl false, [lineD l, szD a b r, (Th.w T1 T2).d]) := by
  have c := are_reasons_c (a := a) (b := b) (r := r) hl (es := (Th.w T1 T2).es) he (es_w T1 T2)
  have e : (Th.w T1 T2).es.all En.ok = false := by
    show (T1.map some ++ none :: T2.map some).all En.ok = false
    rw [List.all_append, List.all_cons]
    have : En.ok none = false := rfl
    rw [this, Bool.false_and, Bool.and_false]
  rw [e, Bool.and_false] at c
  refine runD_same [none, none, none, none, none] rfl ?_
  show b_are_reasons (lkOf [lineD l, szD a b r, (Th.w T1 T2).d]) [some (lineD l), some (szD a b r), some (Th.w T1 T2).d, none, none, none, none, none] = _
  unfold b_are_reasons
  exact sSeq_ret (sIf_t c rfl)
theorem are_reasons_non {l : List It} {a b r : Int} {d : D} {t : String} (ht : tyName d = some t) (hn : isiN t "tuple" = false) :
    g_are_reasons [lineD l, szD a b r, d] = some (.bl false, [lineD l, szD a b r, d]) := by
  have e := isi_of (T := "tuple") ht (by decide)
  rw [hn] at e
  refine runD_same [none, none, none, none, none] rfl ?_
  show b_are_reasons (lkOf [lineD l, szD a b r, d]) [some (lineD l), some (szD a b r), some d, none, none, none, none, none] = _
  unfold b_are_reasons
  exact sSeq_ret (sIf_t (dOr_t (tOfQ_of (b := true) (qNot_of (tqf_of (q1L_of rfl e))))) rfl)
end K19

namespace K19
open PySem Dm
/-! ### the law's are_reasons -/
def B60 : Int := (10 : Int) ^ 60
theorem pow60 : opPow (.int 10) (.int 60) = some (.int B60) := by
  show (if 0 ≤ (60 : Int) ∧ (60 : Int) ≤ 1000000 ∧ (10 : Int).natAbs < 2 ^ 64 then some (D.int ((10 : Int) ^ (60 : Int).toNat)) else none) = _
  rw [if_pos (by decide)]
  rfl
theorem is_number60 {x : Int} (h0 : -B60 ≤ x) (h1 : x ≤ B60) : g__law_is_number [.int x, .int (-B60), .int B60] = some (.bl true, [.int x, .int (-B60), .int B60]) := by
  refine runD_same [] rfl (sRet_of (eOf_of ?_ rfl))
  have q : qCh opLe opLe (qVar 1) (qVar 0) (qVar 2) [some (.int x), some (.int (-B60)), some (.int B60)] = some (.bl true) := by
    show (match some (D.bl (decide (-B60 ≤ x))) with | some (.bl true) => some (D.bl (decide (x ≤ B60))) | some (.bl false) => some (.bl false) | _ => none) = _
    rw [decide_eq_true h0, decide_eq_true h1]
  exact qvAnd_of (a := true) (b := true) rfl fun _ => qvAnd_of (a := true) (b := true) rfl fun _ => q
/-- what a walk over entries needs of each -/
def En.in (e : En) : Prop := ∀ p, e = some (some p) → -B60 ≤ p.1 ∧ p.1 ≤ B60 ∧ -B60 ≤ p.2 ∧ p.2 ≤ B60
theorem lawturn1 {l : List It} {a b r : Int} {lk : Lks} {d : D} {x3 : Option D} (e : En) (he : e.in) : l__law_are_reasons_1 lk [some (lineD l), some (szD a b r), some d, x3, some e.d, none, none, none, none, none, none]
    = if e.isSome = true then some (.nx [some (lineD l), some (szD a b r), some d, x3, some e.d, none, none, none, none, none, none]) else some (.ret (.bl false) [some (lineD l), some (szD a b r), some d, x3, some e.d, none, none, none, none, none, none]) := by
  cases e with
  | none =>
    rw [if_neg (by decide)]
    rfl
  | some o =>
    rw [if_pos (show (some o : En).isSome = true from rfl)]
    cases o with
    | none => rfl
    | some p =>
      obtain ⟨h1, h2, h3, h4⟩ := he p rfl
      have q := eCompQ_typed (own := [10]) (i := 4) (g := gdName 10) (tt := dNot (tdf (eCall g__law_is_number (xSlot 10 (xVal (eOf (q1f opNeg (q2f opPow (qC (.int 10)) (qC (.int 60))))) (xVal (n2f opPow (qC (.int 10)) (qC (.int 60))) xNil)))))) (el := eVar 10) D.int (fun _ => false) (fun _ => (Sc.i 0).d) [p.1, p.2] (E := [some (lineD l), some (szD a b r), some d, x3, some (rD (some p)), none, none, none, none, none, none]) rfl (.inr (.inr (.inl rfl))) fz_int rfl rfl rfl rfl (show 2 < 1000000 by decide) fun x m => by
        have hx : -B60 ≤ x ∧ x ≤ B60 := by
          simp at m
          rcases m with m | m <;> subst m
          · exact ⟨h1, h2⟩
          · exact ⟨h3, h4⟩
        refine ⟨[some (lineD l), some (szD a b r), some d, x3, some (rD (some p)), none, none, none, none, none, some (.int x)], [some (lineD l), some (szD a b r), some d, x3, some (rD (some p)), none, none, none, none, none, some (.int x)], rfl, ?_, fun _ => rfl, fun e => (Bool.false_ne_true e).elim⟩
        have xa : (xSlot 10 (xVal (eOf (q1f opNeg (q2f opPow (qC (.int 10)) (qC (.int 60))))) (xVal (n2f opPow (qC (.int 10)) (qC (.int 60))) xNil))) [some (lineD l), some (szD a b r), some d, x3, some (rD (some p)), none, none, none, none, none, some (.int x)] = some ([.inl 10, .inr (.int (-B60)), .inr (.int B60)], [some (lineD l), some (szD a b r), some d, x3, some (rD (some p)), none, none, none, none, none, some (.int x)]) := by
          have v1 : eOf (q1f opNeg (q2f opPow (qC (.int 10)) (qC (.int 60)))) [some (lineD l), some (szD a b r), some d, x3, some (rD (some p)), none, none, none, none, none, some (.int x)] = some (.int (-B60), [some (lineD l), some (szD a b r), some d, x3, some (rD (some p)), none, none, none, none, none, some (.int x)]) := by
            refine eOf_of ?_ rfl
            unfold q1f
            rw [q2f_of (f := qC (.int 10)) (g := qC (.int 60)) rfl rfl pow60]
            rfl
          have v2 : n2f opPow (qC (.int 10)) (qC (.int 60)) [some (lineD l), some (szD a b r), some d, x3, some (rD (some p)), none, none, none, none, none, some (.int x)] = some (.int B60, [some (lineD l), some (szD a b r), some d, x3, some (rD (some p)), none, none, none, none, none, some (.int x)]) := n2f_of rfl rfl pow60
          exact xSlot_of rfl (xVal_of v1 (xVal_of v2 rfl))
        exact dNot_of (b := true) (tdf_of (eCall_same xa (.slot rfl (.val (.val .nil))) (by decide) (is_number60 hx.1 hx.2)))
      have n := ne_nil true []
      have c : dAnd (tOfQ (tqf (q2f opIsNot (qVar 4) (qC .non)))) (dOr (tOfQ (qNot (tqf (q1L opIsi (qCons (qVar 4) (qCons (qC (.ty "tuple")) qNil)))))) (dOr (tOfQ (tqf (q2f opNe (q1L opLen (qCons (qVar 4) qNil)) (qC (.int 2))))) (tdf (e2f opNe (eCompQ [10] 4 (gdName 10) (dNot (tdf (eCall g__law_is_number (xSlot 10 (xVal (eOf (q1f opNeg (q2f opPow (qC (.int 10)) (qC (.int 60))))) (xVal (n2f opPow (qC (.int 10)) (qC (.int 60))) xNil)))))) (eVar 10)) (eLst eNil))))) [some (lineD l), some (szD a b r), some d, x3, some (rD (some p)), none, none, none, none, none, none]
          = some (false, [some (lineD l), some (szD a b r), some d, x3, some (rD (some p)), none, none, none, none, none, none]) :=
        dAnd_t (E1 := [some (lineD l), some (szD a b r), some d, x3, some (rD (some p)), none, none, none, none, none, none]) rfl (dOr_f (E1 := [some (lineD l), some (szD a b r), some d, x3, some (rD (some p)), none, none, none, none, none, none]) rfl (dOr_f (E1 := [some (lineD l), some (szD a b r), some d, x3, some (rD (some p)), none, none, none, none, none, none]) rfl (tdf_of (e2f_of q rfl n))))
      exact sIf_f c rfl
theorem lawturn2 {l : List It} {a b r k : Int} {lk : Lks} (hl : l.length ≤ 1000) (hg : Good l.length l) (h6 : lk 6 = false) (h7 : lk 7 = false) {T : Told} (hT : T.length = cnt l) (h0 : 0 ≤ k) (h1 : k < cnt l) (o : Option (Int × Int)) (x3 x6 x7 : Option D) :
    ∃ y6 y7, l__law_are_reasons_2 lk [some (lineD l), some (szD a b r), some (.tup (T.map rD)), x3, some (rD o), some (.int k), x6, x7, none, none, none]
      = if okE a b r l T (k, o) = true then some (.nx [some (lineD l), some (szD a b r), some (.tup (T.map rD)), x3, some (rD o), some (.int k), y6, y7, none, none, none])
        else some (.ret (.bl false) [some (lineD l), some (szD a b r), some (.tup (T.map rD)), x3, some (rD o), some (.int k), y6, y7, none, none, none]) := by
  have hcl := cnt_le l
  cases o with
  | none =>
    refine ⟨x6, x7, ?_⟩
    rw [if_pos (show okE a b r l T (k, none) = true from rfl)]
    rfl
  | some p =>
    have hc : (vlens T p.1).length = cnt l := by rw [vlens_length, hT]
    have q1 := eCompQ_all (own := [9]) (i := 2) (g := gdName 9) (el := n1L opInt (qCons (qvAnd (q2f opIsNot (qVar 9) (qC .non)) (q2f opLt (q2f opIx (qVar 9) (qC (.int 0))) (q2f opIx (qVar 4) (qC (.int 0))))) qNil)) rD (fun o => .int (b01 (vbit p.1 o))) T (E := [some (lineD l), some (szD a b r), some (.tup (T.map rD)), x3, some (rD (some p)), some (.int k), x6, x7, none, none, none]) rfl (.inr (.inr (.inl rfl))) rD_fz rfl rfl rfl rfl (by omega) fun o _ =>
      ⟨[some (lineD l), some (szD a b r), some (.tup (T.map rD)), x3, some (rD (some p)), some (.int k), x6, x7, none, some (rD o), none], [some (lineD l), some (szD a b r), some (.tup (T.map rD)), x3, some (rD (some p)), some (.int k), x6, x7, none, some (rD o), none], rfl, vb_ok p.1 o _ 9 4 p rfl rfl rfl, rfl⟩
    rw [map_vlens] at q1
    have q2 : (eCall g__law_distances (xSlot 0 (xSlot 1 (xSlot 6 xNil)))) [some (lineD l), some (szD a b r), some (.tup (T.map rD)), x3, some (rD (some p)), some (.int k), some (lI true (vlens T p.1)), x7, none, none, none] = some (lI true (dist a b l (vlens T p.1)), [some (lineD l), some (szD a b r), some (.tup (T.map rD)), x3, some (rD (some p)), some (.int k), some (lI true (vlens T p.1)), x7, none, none, none]) :=
      eCall_same (as := [.inl 0, .inl 1, .inl 6]) rfl (.slot rfl (.slot rfl (.slot rfl .nil))) (by decide) (law_distances_ok hl hg (.inr (.inl rfl)) hc (vlens_bits T p.1))
    have p1 := sAsg_of (lk := lk) (ts := [6]) (g := gdName 6) (E2 := [some (lineD l), some (szD a b r), some (.tup (T.map rD)), x3, some (rD (some p)), some (.int k), some (lI true (vlens T p.1)), x7, none, none, none]) (by show (!lk 6 && true) = true; rw [h6]; rfl) q1 rfl
    have p2 := sAsg_of (lk := lk) (ts := [7]) (g := gdName 7) (E2 := [some (lineD l), some (szD a b r), some (.tup (T.map rD)), x3, some (rD (some p)), some (.int k), some (lI true (vlens T p.1)), some (.int (far a b l T p k)), none, none, none]) (by show (!lk 7 && true) = true; rw [h7]; rfl) (e2f_of (op := opIxF) q2 (eVar_fz (i := 5) rfl rfl) (ixF_ok h0 (by rw [dist_length]; exact h1))) rfl
    have p3 : tOfQ (qOr (tqf (q2f opNe (qVar 7) (q2f opIx (qVar 4) (qC (.int 1))))) (tqf (q2f opLe (q1L opAbs (qCons (qVar 7) qNil)) (q2f opIx (qVar 1) (qC (.int 2)))))) [some (lineD l), some (szD a b r), some (.tup (T.map rD)), x3, some (rD (some p)), some (.int k), some (lI true (vlens T p.1)), some (.int (far a b l T p k)), none, none, none]
        = some (badE a b r l T k p, [some (lineD l), some (szD a b r), some (.tup (T.map rD)), x3, some (rD (some p)), some (.int k), some (lI true (vlens T p.1)), some (.int (far a b l T p k)), none, none, none]) :=
      tOfQ_of (qOr_of (tqf_of (q2f_of rfl (q2f_of rfl rfl rfl) (ne_int _ _))) fun _ => rfl)
    refine ⟨some (lI true (vlens T p.1)), some (.int (far a b l T p k)), ?_⟩
    unfold l__law_are_reasons_2
    refine sIf_t (E1 := [some (lineD l), some (szD a b r), some (.tup (T.map rD)), x3, some (rD (some p)), some (.int k), x6, x7, none, none, none]) rfl (sSeq_nx p1 (sSeq_nx p2 ?_))
    have e : okE a b r l T (k, some p) = !badE a b r l T k p := rfl
    rw [e]
    cases hb : badE a b r l T k p with
    | true =>
      rw [hb] at p3
      rw [if_neg (by decide)]
      exact sIf_t p3 rfl
    | false =>
      rw [hb] at p3
      rw [if_pos (by decide)]
      exact sIf_f p3 rfl
theorem law_c {l : List It} {a b r : Int} {es : List En} (he : es.length ≤ 5000) : tOfQ (qOr (qNot (tqf (q1L opIsi (qCons (qVar 2) (qCons (qC (.ty "tuple")) qNil))))) (tqf (q2f opNe (q1L opLen (qCons (qVar 2) qNil)) (qVar 3)))) [some (lineD l), some (szD a b r), some (.tup (es.map En.d)), some (.int (cnt l)), none, none, none, none, none, none, none]
    = some (!decide (es.length = cnt l), [some (lineD l), some (szD a b r), some (.tup (es.map En.d)), some (.int (cnt l)), none, none, none, none, none, none, none]) := by
  rw [← int_len_ne]
  have q := qOr_of (f := qNot (tqf (q1L opIsi (qCons (qVar 2) (qCons (qC (.ty "tuple")) qNil))))) (g := tqf (q2f opNe (q1L opLen (qCons (qVar 2) qNil)) (qVar 3))) (E := [some (lineD l), some (szD a b r), some (.tup (es.map En.d)), some (.int (cnt l)), none, none, none, none, none, none, none]) (a := false) (b := !((es.length : Int) == (cnt l : Int))) rfl fun _ => tqf_of (q2f_of (q1L_of rfl (len_tup En.d es)) rfl (ne_int _ _))
  exact tOfQ_of q
/-- the first walk of the law's are_reasons -/
theorem law_walk1 {l : List It} {a b r : Int} {lk : Lks} {d : D} {x3 : Option D} : ∀ (es : List En) (x4 : Option D), (∀ e ∈ es, e.in) →
    ∃ y4, forL (gdName 4) (l__law_are_reasons_1 lk) (es.map En.d) [some (lineD l), some (szD a b r), some d, x3, x4, none, none, none, none, none, none]
      = if es.all (·.isSome) = true then some (.nx [some (lineD l), some (szD a b r), some d, x3, y4, none, none, none, none, none, none]) else some (.ret (.bl false) [some (lineD l), some (szD a b r), some d, x3, y4, none, none, none, none, none, none])
  | [], x4, _ => ⟨x4, rfl⟩
  | e :: es, x4, h => by
    have q := lawturn1 (l := l) (a := a) (b := b) (r := r) (lk := lk) (d := d) (x3 := x3) e (h e List.mem_cons_self)
    obtain ⟨y4, q2⟩ := law_walk1 (l := l) (a := a) (b := b) (r := r) (lk := lk) (d := d) (x3 := x3) es (some e.d) fun x m => h x (List.mem_cons_of_mem _ m)
    rw [List.map_cons, forL, List.all_cons]
    cases he : e.isSome with
    | true =>
      rw [he, if_pos rfl] at q
      refine ⟨y4, ?_⟩
      show (match l__law_are_reasons_1 lk [some (lineD l), some (szD a b r), some d, x3, some e.d, none, none, none, none, none, none] with | some (.nx E2) => forL (gdName 4) (l__law_are_reasons_1 lk) (es.map En.d) E2 | some (.ct E2) => _ | some (.bk E2) => _ | some (.ret d E2) => _ | none => _) = _
      rw [q, Bool.true_and]
      exact q2
    | false =>
      rw [he, if_neg (by decide)] at q
      refine ⟨some e.d, ?_⟩
      show (match l__law_are_reasons_1 lk [some (lineD l), some (szD a b r), some d, x3, some e.d, none, none, none, none, none, none] with | some (.nx E2) => forL (gdName 4) (l__law_are_reasons_1 lk) (es.map En.d) E2 | some (.ct E2) => _ | some (.bk E2) => _ | some (.ret d E2) => some (.ret d E2) | none => _) = _
      rw [q, Bool.false_and, if_neg (by decide)]
theorem in_some {B : Int} {T : Told} (hB : Bd B T) (h : B ≤ B60) : ∀ e ∈ T.map some, En.in e := by
  intro e m p ep
  obtain ⟨o, m', e'⟩ := List.mem_map.mp m
  subst e'
  cases ep
  obtain ⟨h1, h2, h3, h4⟩ := hB p m'
  have h5 : 0 ≤ B60 := by unfold B60; decide
  omega
theorem law_are_reasons_v {l : List It} {a b r B : Int} {T : Told} (hl : l.length ≤ 1000) (hg : Good l.length l) (hB : Bd B T) (hB2 : B ≤ B60) (he : T.length ≤ 5000) :
    g__law_are_reasons [lineD l, szD a b r, (Th.v T).d] = some (.bl (decide (T.length = cnt l) && validT a b r l T), [lineD l, szD a b r, (Th.v T).d]) := by
  have hcl := cnt_le l
  have c := law_c (l := l) (a := a) (b := b) (r := r) (es := T.map some) (by rw [List.length_map]; exact he)
  rw [List.length_map, ← show (Th.v T).d = .tup ((T.map some).map En.d) from es_v T] at c
  have many := sAsg_of (lk := lkOf [lineD l, szD a b r, (Th.v T).d]) (ts := [3]) (g := gdName 3) (E2 := [some (lineD l), some (szD a b r), some (Th.v T).d, some (.int (cnt l)), none, none, none, none, none, none, none]) rfl (many_ok (j := 8) (E := [some (lineD l), some (szD a b r), some (Th.v T).d, none, none, none, none, none, none, none, none]) hl rfl rfl (by decide)) rfl
  by_cases h : T.length = cnt l
  · rw [decide_eq_true h] at c ⊢
    rw [Bool.true_and]
    obtain ⟨y4, w1⟩ := law_walk1 (l := l) (a := a) (b := b) (r := r) (lk := lkP (lkOf [lineD l, szD a b r, (Th.v T).d]) 2) (d := (Th.v T).d) (x3 := some (.int (cnt l))) (T.map some) none (in_some hB hB2)
    rw [if_pos (by rw [List.all_map, List.all_eq_true]; exact fun _ _ => rfl)] at w1
    have f1 := (sForQ_tup (lk := lkOf [lineD l, szD a b r, (Th.v T).d]) (i := 2) (ts := [4]) (g := gdName 4) (body := l__law_are_reasons_1) (enc := En.d) (as := T.map some) (E := [some (lineD l), some (szD a b r), some (Th.v T).d, some (.int (cnt l)), none, none, none, none, none, none, none]) En.fz rfl (by rw [show (Th.v T).d = .tup ((T.map some).map En.d) from es_v T]; rfl)).trans w1
    have loop : (validT a b r l T = true ∧ ∃ x4 x5 x6 x7, forL (gdTup 2 (gdCons (gdName 5) (gdCons (gdName 4) gdNil))) (l__law_are_reasons_2 (lkOf [lineD l, szD a b r, (Th.v T).d])) ((enumT 0 T).map fun p => .tup [.int p.1, rD p.2]) [some (lineD l), some (szD a b r), some (.tup (T.map rD)), some (.int (cnt l)), y4, none, none, none, none, none, none] = some (.nx [some (lineD l), some (szD a b r), some (.tup (T.map rD)), some (.int (cnt l)), x4, x5, x6, x7, none, none, none])) ∨
        (validT a b r l T = false ∧ ∃ x4 x5 x6 x7, forL (gdTup 2 (gdCons (gdName 5) (gdCons (gdName 4) gdNil))) (l__law_are_reasons_2 (lkOf [lineD l, szD a b r, (Th.v T).d])) ((enumT 0 T).map fun p => .tup [.int p.1, rD p.2]) [some (lineD l), some (szD a b r), some (.tup (T.map rD)), some (.int (cnt l)), y4, none, none, none, none, none, none] = some (.ret (.bl false) [some (lineD l), some (szD a b r), some (.tup (T.map rD)), some (.int (cnt l)), x4, x5, x6, x7, none, none, none])) := by
      refine forL_typed (fun p : Int × Option (Int × Int) => .tup [.int p.1, rD p.2]) (fun ts E => ∃ (k : Int) (rest : Told) (x4 x5 x6 x7 : Option D), ts = enumT k rest ∧ 0 ≤ k ∧ k + rest.length = cnt l ∧ validT a b r l T = (enumT k rest).all (okE a b r l T) ∧ E = [some (lineD l), some (szD a b r), some (.tup (T.map rD)), some (.int (cnt l)), x4, x5, x6, x7, none, none, none])
        (fun o => (validT a b r l T = true ∧ ∃ x4 x5 x6 x7, o = some (.nx [some (lineD l), some (szD a b r), some (.tup (T.map rD)), some (.int (cnt l)), x4, x5, x6, x7, none, none, none])) ∨ (validT a b r l T = false ∧ ∃ x4 x5 x6 x7, o = some (.ret (.bl false) [some (lineD l), some (szD a b r), some (.tup (T.map rD)), some (.int (cnt l)), x4, x5, x6, x7, none, none, none]))) ?_ ?_ (enumT 0 T) _ ⟨0, T, y4, none, none, none, rfl, Int.le_refl _, by omega, rfl, rfl⟩
      · rintro p ts E ⟨k, rest, x4, x5, x6, x7, ets, hk, hkl, hv, rfl⟩
        cases rest with
        | nil => cases ets
        | cons o rest =>
          cases ets
          obtain ⟨y6, y7, q⟩ := lawturn2 (a := a) (b := b) (r := r) (k := k) (lk := lkOf [lineD l, szD a b r, (Th.v T).d]) hl hg rfl rfl h hk (by simp at hkl; omega) o (some (.int (cnt l))) x6 x7
          refine ⟨[some (lineD l), some (szD a b r), some (.tup (T.map rD)), some (.int (cnt l)), some (rD o), some (.int k), x6, x7, none, none, none], rfl, ?_⟩
          rw [enumT, List.all_cons] at hv
          cases hok : okE a b r l T (k, o) with
          | true =>
            rw [hok, if_pos rfl] at q
            rw [hok, Bool.true_and] at hv
            exact .inl ⟨_, q, k + 1, rest, some (rD o), some (.int k), y6, y7, rfl, by omega, by simp at hkl ⊢; omega, hv, rfl⟩
          | false =>
            rw [hok, if_neg (by decide)] at q
            rw [hok, Bool.false_and] at hv
            exact .inr ⟨_, _, q, .inr ⟨hv, _, _, _, _, rfl⟩⟩
      · rintro E ⟨k, rest, x4, x5, x6, x7, ets, hk, hkl, hv, rfl⟩
        cases rest with
        | cons o rest => cases ets
        | nil => exact .inl ⟨hv, x4, x5, x6, x7, rfl⟩
    have hi := iEnum_var (i := 2) (enc := rD) (ts := T) (E := [some (lineD l), some (szD a b r), some (.tup (T.map rD)), some (.int (cnt l)), y4, none, none, none, none, none, none]) rD_fz rfl
    rcases loop with ⟨hv, x4, x5, x6, x7, q⟩ | ⟨hv, x4, x5, x6, x7, q⟩
    · rw [hv]
      refine runD_same [some (.int (cnt l)), x4, x5, x6, x7, none, none, none] rfl ?_
      show b__law_are_reasons (lkOf [lineD l, szD a b r, (Th.v T).d]) [some (lineD l), some (szD a b r), some (Th.v T).d, none, none, none, none, none, none, none, none] = _
      unfold b__law_are_reasons
      exact sSeq_nx many (sSeq_nx (sIf_f c rfl) (sSeq_nx f1 (sSeq_nx (sFor_of rfl hi q) rfl)))
    · rw [hv]
      refine runD_same [some (.int (cnt l)), x4, x5, x6, x7, none, none, none] rfl ?_
      show b__law_are_reasons (lkOf [lineD l, szD a b r, (Th.v T).d]) [some (lineD l), some (szD a b r), some (Th.v T).d, none, none, none, none, none, none, none, none] = _
      unfold b__law_are_reasons
      exact sSeq_nx many (sSeq_nx (sIf_f c rfl) (sSeq_nx f1 (sSeq_ret (sFor_of rfl hi q))))
  · rw [decide_eq_false h] at c ⊢
    rw [Bool.false_and]
    refine runD_same [some (.int (cnt l)), none, none, none, none, none, none, none] rfl ?_
    show b__law_are_reasons (lkOf [lineD l, szD a b r, (Th.v T).d]) [some (lineD l), some (szD a b r), some (Th.v T).d, none, none, none, none, none, none, none, none] = _
    unfold b__law_are_reasons
    exact sSeq_nx many (sSeq_ret (sIf_t c rfl))
theorem law_are_reasons_w {l : List It} {a b r B : Int} {T1 T2 : Told} (hl : l.length ≤ 1000) (hB1 : Bd B T1) (hB2 : Bd B T2) (hB : B ≤ B60) (he : (Th.w T1 T2).es.length ≤ 5000) :
    g__law_are_reasons [lineD l, szD a b r, (Th.w T1 T2).d] = some (.bl false, [lineD l, szD a b r, (Th.w T1 T2).d]) := by
  have hcl := cnt_le l
  have c := law_c (l := l) (a := a) (b := b) (r := r) (es := (Th.w T1 T2).es) he
  rw [← es_w T1 T2] at c
  have many := sAsg_of (lk := lkOf [lineD l, szD a b r, (Th.w T1 T2).d]) (ts := [3]) (g := gdName 3) (E2 := [some (lineD l), some (szD a b r), some (Th.w T1 T2).d, some (.int (cnt l)), none, none, none, none, none, none, none]) rfl (many_ok (j := 8) (E := [some (lineD l), some (szD a b r), some (Th.w T1 T2).d, none, none, none, none, none, none, none, none]) hl rfl rfl (by decide)) rfl
  by_cases h : (Th.w T1 T2).es.length = cnt l
  · rw [decide_eq_true h] at c
    have hin : ∀ e ∈ (Th.w T1 T2).es, En.in e := fun e m => by
      rcases List.mem_append.mp (show e ∈ T1.map some ++ none :: T2.map some from m) with m | m
      · exact in_some hB1 hB e m
      · rcases List.mem_cons.mp m with m | m
        · subst m
          exact fun p h => by cases h
        · exact in_some hB2 hB e m
    obtain ⟨y4, w1⟩ := law_walk1 (l := l) (a := a) (b := b) (r := r) (lk := lkP (lkOf [lineD l, szD a b r, (Th.w T1 T2).d]) 2) (d := (Th.w T1 T2).d) (x3 := some (.int (cnt l))) (Th.w T1 T2).es none hin
    have hn : ¬ ((Th.w T1 T2).es.all (·.isSome)) = true := by
      show ¬ ((T1.map some ++ none :: T2.map some).all (·.isSome)) = true
      rw [List.all_append, List.all_cons]
      simp
    rw [if_neg hn] at w1
    have f1 := (sForQ_tup (lk := lkOf [lineD l, szD a b r, (Th.w T1 T2).d]) (i := 2) (ts := [4]) (g := gdName 4) (body := l__law_are_reasons_1) (enc := En.d) (as := (Th.w T1 T2).es) (E := [some (lineD l), some (szD a b r), some (Th.w T1 T2).d, some (.int (cnt l)), none, none, none, none, none, none, none]) En.fz rfl (by rw [es_w]; rfl)).trans w1
    refine runD_same [some (.int (cnt l)), y4, none, none, none, none, none, none] rfl ?_
    show b__law_are_reasons (lkOf [lineD l, szD a b r, (Th.w T1 T2).d]) [some (lineD l), some (szD a b r), some (Th.w T1 T2).d, none, none, none, none, none, none, none, none] = _
    unfold b__law_are_reasons
    exact sSeq_nx many (sSeq_nx (sIf_f c rfl) (sSeq_ret f1))
  · rw [decide_eq_false h] at c
    refine runD_same [some (.int (cnt l)), none, none, none, none, none, none, none] rfl ?_
    show b__law_are_reasons (lkOf [lineD l, szD a b r, (Th.w T1 T2).d]) [some (lineD l), some (szD a b r), some (Th.w T1 T2).d, none, none, none, none, none, none, none, none] = _
    unfold b__law_are_reasons
    exact sSeq_nx many (sSeq_ret (sIf_t c rfl))
theorem law_are_reasons_non {l : List It} {a b r : Int} {d : D} {t : String} (hl : l.length ≤ 1000) (ht : tyName d = some t) (hn : isiN t "tuple" = false) :
    g__law_are_reasons [lineD l, szD a b r, d] = some (.bl false, [lineD l, szD a b r, d]) := by
  have e := isi_of (T := "tuple") ht (by decide)
  rw [hn] at e
  have many := sAsg_of (lk := lkOf [lineD l, szD a b r, d]) (ts := [3]) (g := gdName 3) (E2 := [some (lineD l), some (szD a b r), some d, some (.int (cnt l)), none, none, none, none, none, none, none]) rfl (many_ok (j := 8) (E := [some (lineD l), some (szD a b r), some d, none, none, none, none, none, none, none, none]) hl rfl rfl (by decide)) rfl
  have c : tOfQ (qOr (qNot (tqf (q1L opIsi (qCons (qVar 2) (qCons (qC (.ty "tuple")) qNil))))) (tqf (q2f opNe (q1L opLen (qCons (qVar 2) qNil)) (qVar 3)))) [some (lineD l), some (szD a b r), some d, some (.int (cnt l)), none, none, none, none, none, none, none] = some (true, [some (lineD l), some (szD a b r), some d, some (.int (cnt l)), none, none, none, none, none, none, none]) :=
    tOfQ_of (qOr_of (a := true) (b := true) (qNot_of (b := false) (tqf_of (q1L_of rfl e))) fun h => by cases h)
  refine runD_same [some (.int (cnt l)), none, none, none, none, none, none, none] rfl ?_
  show b__law_are_reasons (lkOf [lineD l, szD a b r, d]) [some (lineD l), some (szD a b r), some d, none, none, none, none, none, none, none, none] = _
  unfold b__law_are_reasons
  exact sSeq_nx many (sSeq_ret (sIf_t c rfl))
end K19

namespace K19
open PySem Dm
/-! ### draws -/
theorem runD_of {n np : Nat} {b : Lks → Ev → Option Out} {ds os : List D} {d : D} {E' : Ev} (hl : ds.length = np) (h : b (lkOf ds) (ds.map some ++ List.replicate (n - np) none) = some (.ret d E')) (ho : outsD ds E' = some os) : runD n np b ds = some (d, os) := by
  unfold runD
  rw [if_pos hl, h]
  show (match outsD ds E' with | some os => some (d, os) | none => none) = _
  rw [ho]
def bagD (x y z : Int) (cs : List Int) : D := .lst true [.int x, .int y, .int z, .lst true (cs.map .int)]
theorem mul_s {i j : Int} (h : small i = true ∨ small j = true) : opMul (.int i) (.int j) = some (.int (i * j)) := if_pos h
theorem mod_s {i j : Int} (h : j ≠ 0) : opMod (.int i) (.int j) = some (.int (i.fmod j)) := if_pos h
theorem fdiv_s {i j : Int} (h : j ≠ 0) (h2 : j.natAbs < 1073741824) : opFDiv (.int i) (.int j) = some (.int (i.fdiv j)) := if_pos ⟨h, h2⟩
theorem pow18 : opPow (.int 10) (.int 18) = some (.int 1000000000000000000) := by
  show (if 0 ≤ (18 : Int) ∧ (18 : Int) ≤ 1000000 ∧ (10 : Int).natAbs < 2 ^ 64 then some (D.int ((10 : Int) ^ (18 : Int).toNat)) else none) = _
  rw [if_pos (by decide)]
  rfl
theorem cut_map (f : Int → D) (xs : List Int) (lo hi : Option Int) : cutG (xs.map f) lo hi = (cutG xs lo hi).map f := by
  unfold cutG
  rw [List.length_map, ← List.map_drop, ← List.map_take]
theorem cell_ok (cs : List Int) (hc : cs.length ≤ 1000) (z : Int) : ∃ c, ∀ (x y : Int) (E : Ev), E[0]? = some (some (bagD x y z cs)) → eOf (q2f opIx (q2f opAdd (qSl (q2f opIx (qVar 0) (qC (.int 3))) (qPart (q2f opIx (qVar 0) (qC (.int 2)))) qNo) (qLst (qCons (qC (.int 0)) qNil))) (qC (.int 0))) E = some (.int c, E) := by
  have hne : cutG cs (some z) none ++ [0] ≠ [] := by simp
  refine ⟨(cutG cs (some z) none ++ [0]).head hne, fun x y E h => ?_⟩
  have q0 : qVar 0 E = some (bagD x y z cs) := by unfold qVar; rw [h]
  have q3 : q2f opIx (qVar 0) (qC (.int 3)) E = some (.lst true (cs.map .int)) := q2f_of q0 rfl rfl
  have q2 : q2f opIx (qVar 0) (qC (.int 2)) E = some (.int z) := q2f_of q0 rfl rfl
  have s1 : qSl (q2f opIx (qVar 0) (qC (.int 3))) (qPart (q2f opIx (qVar 0) (qC (.int 2)))) qNo E = some (.lst true ((cutG cs (some z) none).map .int)) := by
    have p2 : qPart (q2f opIx (qVar 0) (qC (.int 2))) E = some (some z) := by
      unfold qPart
      rw [q2]; rfl
    unfold qSl
    rw [q3, p2]
    show (if isFzL (cs.map .int) = true then some (D.lst true (cutG (cs.map .int) (some z) none)) else none) = _
    rw [if_pos (fz_ints cs), cut_map]
  have hl : (cutG cs (some z) none).length ≤ 1000 := by
    unfold cutG
    rw [List.length_take, List.length_drop]
    omega
  have a1 : opAdd (.lst true ((cutG cs (some z) none).map .int)) (.lst true [.int 0]) = some (.lst true ((cutG cs (some z) none ++ [0]).map .int)) := by
    show (if ((cutG cs (some z) none).map D.int).length + [D.int 0].length ≤ sizeLine ∧ isFzL ((cutG cs (some z) none).map D.int) = true ∧ isFzL [D.int 0] = true then some (D.lst true ((cutG cs (some z) none).map D.int ++ [.int 0])) else none) = _
    rw [if_pos ⟨by rw [List.length_map]; exact Nat.le_trans (by simp; omega : (cutG cs (some z) none).length + [D.int 0].length ≤ 5000) (by decide), fz_ints _, rfl⟩, List.map_append]
    rfl
  refine eOf_of (q2f_of (q2f_of s1 (qLst_one rfl E) a1) rfl ?_) rfl
  show L2.atI ((cutG cs (some z) none ++ [0]).map D.int) ((0 : Nat) : Int) = _
  refine L2.atI_nat ?_
  rw [List.getElem?_map, ← List.head?_eq_getElem?, List.head?_eq_some_head hne]
  rfl
theorem take_ok (x y z : Int) (cs : List Int) (hc : cs.length ≤ 1000) {n : Int} (h0 : 0 < n) (h1 : n ≤ 1000) :
    ∃ x' y' z' v, 0 ≤ v ∧ v < n ∧ g__law_take [bagD x y z cs, .int n] = some (.int v, [bagD x' y' z' cs, .int n]) := by
  have hn : n ≠ 0 := by omega
  have hn2 : n.natAbs < 1073741824 := by omega
  -- the first part
  have first : ∃ x' y' z' c2 c3, (sIf (tOfQ (tqf (q2f opEq (q2f opIx (qVar 0) (qC (.int 0))) (qC (.int 0))))) (sSeq (sAsg (lkOf [bagD x y z cs, .int n]) [2] (eOf (q2f opIx (q2f opAdd (qSl (q2f opIx (qVar 0) (qC (.int 3))) (qPart (q2f opIx (qVar 0) (qC (.int 2)))) qNo) (qLst (qCons (qC (.int 0)) qNil))) (qC (.int 0)))) (gdName 2))
  (sSeq (sAugIx 0 opIAdd (qC (.int 2)) (qC (.int 1)))
  (sSeq (sIf (tOfQ (tqf (q2f opGe (qVar 2) (q2f opPow (qC (.int 10)) (qC (.int 18)))))) (sAsg (lkOf [bagD x y z cs, .int n]) [] (eVar 2) (gdSub 0 (qC (.int 0)))) sNil)
  (sSeq (sAsg (lkOf [bagD x y z cs, .int n]) [3] (n2f opAdd (q2f opAdd (q2f opMul (q2f opIx (qVar 0) (qC (.int 1))) (qC (.int 48271))) (q2f opMod (q1L opInt (qCons (qVar 2) qNil)) (qC (.int 2147483647)))) (q2f opMul (qC (.int 7919)) (q2f opIx (qVar 0) (qC (.int 2))))) (gdName 3))
  (sAsg (lkOf [bagD x y z cs, .int n]) [] (n2f opMod (q1L opInt (qCons (qVar 3) qNil)) (qC (.int 2147483647))) (gdSub 0 (qC (.int 1)))))))) sNil) [some (bagD x y z cs), some (.int n), none, none, none, none, none] = some (.nx [some (bagD x' y' z' cs), some (.int n), c2, c3, none, none, none]) := by
    by_cases hx : x = 0
    · obtain ⟨c, hcell⟩ := cell_ok cs hc z
      have p1 := sAsg_of (lk := lkOf [bagD x y z cs, .int n]) (ts := [2]) (g := gdName 2) (E2 := [some (bagD x y z cs), some (.int n), some (.int c), none, none, none, none]) rfl (hcell x y [some (bagD x y z cs), some (.int n), none, none, none, none, none] rfl) rfl
      have p2 : sAugIx 0 opIAdd (qC (.int 2)) (qC (.int 1)) [some (bagD x y z cs), some (.int n), some (.int c), none, none, none, none] = some (.nx [some (bagD x y (z + 1) cs), some (.int n), some (.int c), none, none, none, none]) := rfl
      have g1 : q2f opGe (qVar 2) (q2f opPow (qC (.int 10)) (qC (.int 18))) [some (bagD x y (z + 1) cs), some (.int n), some (.int c), none, none, none, none] = some (.bl (decide (1000000000000000000 ≤ c))) := q2f_of rfl (q2f_of rfl rfl pow18) rfl
      have p3 : ∃ x', (sIf (tOfQ (tqf (q2f opGe (qVar 2) (q2f opPow (qC (.int 10)) (qC (.int 18)))))) (sAsg (lkOf [bagD x y z cs, .int n]) [] (eVar 2) (gdSub 0 (qC (.int 0)))) sNil) [some (bagD x y (z + 1) cs), some (.int n), some (.int c), none, none, none, none] = some (.nx [some (bagD x' y (z + 1) cs), some (.int n), some (.int c), none, none, none, none]) := by
        by_cases hg : 1000000000000000000 ≤ c
        · rw [decide_eq_true hg] at g1
          exact ⟨c, sIf_t (tOfQ_of (tqf_of g1)) rfl⟩
        · rw [decide_eq_false hg] at g1
          exact ⟨x, sIf_f (tOfQ_of (tqf_of g1)) rfl⟩
      obtain ⟨x', p3⟩ := p3
      have m1 : q2f opMul (q2f opIx (qVar 0) (qC (.int 1))) (qC (.int 48271)) [some (bagD x' y (z + 1) cs), some (.int n), some (.int c), none, none, none, none] = some (.int (y * 48271)) := q2f_of rfl rfl (mul_s (.inr (by decide)))
      have m2 : q2f opMod (q1L opInt (qCons (qVar 2) qNil)) (qC (.int 2147483647)) [some (bagD x' y (z + 1) cs), some (.int n), some (.int c), none, none, none, none] = some (.int (c.fmod 2147483647)) := q2f_of rfl rfl (mod_s (by decide))
      have m3 : q2f opMul (qC (.int 7919)) (q2f opIx (qVar 0) (qC (.int 2))) [some (bagD x' y (z + 1) cs), some (.int n), some (.int c), none, none, none, none] = some (.int (7919 * (z + 1))) := q2f_of rfl rfl (mul_s (.inl (by decide)))
      have p4 := sAsg_of (lk := lkOf [bagD x y z cs, .int n]) (ts := [3]) (g := gdName 3) (E2 := [some (bagD x' y (z + 1) cs), some (.int n), some (.int c), some (.int (y * 48271 + c.fmod 2147483647 + 7919 * (z + 1))), none, none, none]) rfl (n2f_of (op := opAdd) (q2f_of (op := opAdd) m1 m2 rfl) m3 rfl) rfl
      have p5 := sAsg_of (lk := lkOf [bagD x y z cs, .int n]) (ts := []) (g := gdSub 0 (qC (.int 1))) (E2 := [some (bagD x' ((y * 48271 + c.fmod 2147483647 + 7919 * (z + 1)).fmod 2147483647) (z + 1) cs), some (.int n), some (.int c), some (.int (y * 48271 + c.fmod 2147483647 + 7919 * (z + 1))), none, none, none]) rfl (n2f_of (op := opMod) (f := q1L opInt (qCons (qVar 3) qNil)) (g := qC (.int 2147483647)) (x := .int (y * 48271 + c.fmod 2147483647 + 7919 * (z + 1))) (E := [some (bagD x' y (z + 1) cs), some (.int n), some (.int c), some (.int (y * 48271 + c.fmod 2147483647 + 7919 * (z + 1))), none, none, none]) rfl rfl (mod_s (by decide))) rfl
      subst hx
      exact ⟨_, _, _, _, _, sIf_t (E1 := [some (bagD 0 y z cs), some (.int n), none, none, none, none, none]) rfl (sSeq_nx p1 (sSeq_nx p2 (sSeq_nx p3 (sSeq_nx p4 p5))))⟩
    · have c : tOfQ (tqf (q2f opEq (q2f opIx (qVar 0) (qC (.int 0))) (qC (.int 0)))) [some (bagD x y z cs), some (.int n), none, none, none, none, none] = some (false, [some (bagD x y z cs), some (.int n), none, none, none, none, none]) := by
        refine tOfQ_of (tqf_of (q2f_of (x := .int x) rfl rfl ?_))
        rw [eq_int]
        have : (x == 0) = false := by simpa using hx
        rw [this]
      exact ⟨x, y, z, none, none, sIf_f c rfl⟩
  obtain ⟨x', y', z', c2, c3, first⟩ := first
  have g2 : q2f opGt (q2f opIx (qVar 0) (qC (.int 0))) (qC (.int 0)) [some (bagD x' y' z' cs), some (.int n), c2, c3, none, none, none] = some (.bl (decide (0 < x'))) := rfl
  by_cases hp : 0 < x'
  · rw [decide_eq_true hp] at g2
    refine ⟨x'.fdiv n, y', z', x'.fmod n, Int.fmod_nonneg_of_pos _ h0, Int.fmod_lt_of_pos _ h0, ?_⟩
    refine runD_of (E' := [some (bagD (x'.fdiv n) y' z' cs), some (.int n), c2, c3, some (.int (x'.fmod n)), none, none]) rfl ?_ rfl
    show b__law_take (lkOf [bagD x y z cs, .int n]) [some (bagD x y z cs), some (.int n), none, none, none, none, none] = _
    unfold b__law_take
    have p1 := sAsg_of (lk := lkOf [bagD x y z cs, .int n]) (ts := [4]) (g := gdName 4) (E2 := [some (bagD x' y' z' cs), some (.int n), c2, c3, some (.int (x'.fmod n)), none, none]) rfl (n2f_of (op := opMod) (f := q1L opInt (qCons (q2f opIx (qVar 0) (qC (.int 0))) qNil)) (g := qVar 1) (x := .int x') (E := [some (bagD x' y' z' cs), some (.int n), c2, c3, none, none, none]) rfl rfl (mod_s hn)) rfl
    have p2 := sAsg_of (lk := lkOf [bagD x y z cs, .int n]) (ts := []) (g := gdSub 0 (qC (.int 0))) (E2 := [some (bagD (x'.fdiv n) y' z' cs), some (.int n), c2, c3, some (.int (x'.fmod n)), none, none]) rfl (n2f_of (op := opFDiv) (f := q1L opInt (qCons (q2f opIx (qVar 0) (qC (.int 0))) qNil)) (g := qVar 1) (x := .int x') (E := [some (bagD x' y' z' cs), some (.int n), c2, c3, some (.int (x'.fmod n)), none, none]) rfl rfl (fdiv_s hn hn2)) rfl
    exact sSeq_nx first (sSeq_ret (sIf_t (tOfQ_of (tqf_of g2)) (sSeq_nx p1 (sSeq_nx p2 rfl))))
  · rw [decide_eq_false hp] at g2
    have hb0 : 0 ≤ ((y' + 1) * 39373).fmod 1000000007 := Int.fmod_nonneg_of_pos _ (by decide)
    have hb1 : ((y' + 1) * 39373).fmod 1000000007 < 1000000007 := Int.fmod_lt_of_pos _ (by decide)
    generalize hbg : ((y' + 1) * 39373).fmod 1000000007 = bg at hb0 hb1
    have hs0 : small bg = true := small_iff.mpr ⟨by omega, by omega⟩
    refine ⟨x', y', z', (((((bg * bg).fmod 998244353) * 30011).fmod 998244353).fdiv 7).fmod n, Int.fmod_nonneg_of_pos _ h0, Int.fmod_lt_of_pos _ h0, ?_⟩
    refine runD_of (E' := [some (bagD x' y' z' cs), some (.int n), c2, c3, none, some (.int bg), some (.int ((((bg * bg).fmod 998244353) * 30011).fmod 998244353))]) rfl ?_ rfl
    show b__law_take (lkOf [bagD x y z cs, .int n]) [some (bagD x y z cs), some (.int n), none, none, none, none, none] = _
    unfold b__law_take
    have m1 : q2f opMul (q2f opAdd (q2f opIx (qVar 0) (qC (.int 1))) (qC (.int 1))) (qC (.int 39373)) [some (bagD x' y' z' cs), some (.int n), c2, c3, none, none, none] = some (.int ((y' + 1) * 39373)) := q2f_of (x := .int (y' + 1)) rfl rfl (mul_s (.inr (by decide)))
    have e1 : n2f opMod (q1L opInt (qCons (q2f opMul (q2f opAdd (q2f opIx (qVar 0) (qC (.int 1))) (qC (.int 1))) (qC (.int 39373))) qNil)) (qC (.int 1000000007)) [some (bagD x' y' z' cs), some (.int n), c2, c3, none, none, none] = some (.int bg, [some (bagD x' y' z' cs), some (.int n), c2, c3, none, none, none]) := by
      rw [← hbg]
      exact n2f_of (q1L_of (qCons_of m1 rfl) rfl) rfl (mod_s (by decide))
    have p1 := sAsg_of (lk := lkOf [bagD x y z cs, .int n]) (ts := [5]) (g := gdName 5) (E2 := [some (bagD x' y' z' cs), some (.int n), c2, c3, none, some (.int bg), none]) rfl e1 rfl
    have m2 : q2f opMul (qVar 5) (qVar 5) [some (bagD x' y' z' cs), some (.int n), c2, c3, none, some (.int bg), none] = some (.int (bg * bg)) := q2f_of rfl rfl (mul_s (.inl hs0))
    have m3 : q2f opMod (q1L opInt (qCons (q2f opMul (qVar 5) (qVar 5)) qNil)) (qC (.int 998244353)) [some (bagD x' y' z' cs), some (.int n), c2, c3, none, some (.int bg), none] = some (.int ((bg * bg).fmod 998244353)) := q2f_of (q1L_of (qCons_of m2 rfl) rfl) rfl (mod_s (by decide))
    have m4 : q2f opMul (q2f opMod (q1L opInt (qCons (q2f opMul (qVar 5) (qVar 5)) qNil)) (qC (.int 998244353))) (qC (.int 30011)) [some (bagD x' y' z' cs), some (.int n), c2, c3, none, some (.int bg), none] = some (.int (((bg * bg).fmod 998244353) * 30011)) := q2f_of m3 rfl (mul_s (.inr (by decide)))
    have p2 := sAsg_of (lk := lkOf [bagD x y z cs, .int n]) (ts := [6]) (g := gdName 6) (E2 := [some (bagD x' y' z' cs), some (.int n), c2, c3, none, some (.int bg), some (.int ((((bg * bg).fmod 998244353) * 30011).fmod 998244353))]) rfl (n2f_of (op := opMod) (f := q1L opInt (qCons (q2f opMul (q2f opMod (q1L opInt (qCons (q2f opMul (qVar 5) (qVar 5)) qNil)) (qC (.int 998244353))) (qC (.int 30011))) qNil)) (g := qC (.int 998244353)) (q1L_of (op := opInt) (qCons_of m4 rfl) rfl) rfl (mod_s (by decide))) rfl
    have m5 : q2f opFDiv (qVar 6) (qC (.int 7)) [some (bagD x' y' z' cs), some (.int n), c2, c3, none, some (.int bg), some (.int ((((bg * bg).fmod 998244353) * 30011).fmod 998244353))] = some (.int (((((bg * bg).fmod 998244353) * 30011).fmod 998244353).fdiv 7)) := q2f_of rfl rfl (fdiv_s (by decide) (by decide))
    have p3 := sRet_of (n2f_of (op := opMod) (f := q1L opInt (qCons (q2f opFDiv (qVar 6) (qC (.int 7))) qNil)) (g := qVar 1) (q1L_of (op := opInt) (qCons_of m5 rfl) rfl) rfl (mod_s hn))
    exact sSeq_nx first (sSeq_nx (sIf_f (tOfQ_of (tqf_of g2)) rfl) (sSeq_nx p1 (sSeq_nx p2 p3)))
end K19

namespace K19
open PySem Dm
theorem len_ds (o : Bool) (ds : List D) : opLen [.lst o ds] = some (.int ds.length) := rfl
theorem call_take {E : Ev} {x y z : Int} {cs : List Int} (hc : cs.length ≤ 1000) {i : Nat} {f : Ev → Option (D × Ev)} {n : Int} (hb : E[i]? = some (some (bagD x y z cs))) (hf : f E = some (.int n, E)) (h0 : 0 < n) (h1 : n ≤ 1000) :
    ∃ x' y' z' v, 0 ≤ v ∧ v < n ∧ eCall g__law_take (xSlot i (xVal f xNil)) E = some (.int v, E.set i (some (bagD x' y' z' cs))) := by
  obtain ⟨x', y', z', v, v0, v1, q⟩ := take_ok x y z cs hc h0 h1
  refine ⟨x', y', z', v, v0, v1, ?_⟩
  rw [eCall_of (xSlot_of hb (xVal_of hf rfl)) (E2 := E.set i none) (ds := [bagD x y z cs, .int n]) ?_ q]
  · show some (D.int v, (E.set i none).set i (some (bagD x' y' z' cs))) = _
    rw [List.set_set]
  · unfold gather
    rw [hb]
    rfl
theorem some_ok (x y z : Int) (cs : List Int) (hc : cs.length ≤ 1000) {ds : List D} (h0 : ds ≠ []) (h1 : ds.length ≤ 1000) (hz : ∀ d ∈ ds, isFz (froz d) = true) :
    ∃ x' y' z' d t, d ∈ ds ∧ g__law_some [bagD x y z cs, .lst true ds] = some (froz d, [bagD x' y' z' cs, t]) := by
  have hpos : 0 < ds.length := List.length_pos_iff.mpr h0
  obtain ⟨x', y', z', v, v0, v1, q⟩ := call_take (E := [some (bagD x y z cs), some (.lst true ds)]) (i := 0) (f := n1L opLen (qCons (qVar 1) qNil)) (n := ds.length) hc rfl rfl (by omega) (by omega)
  obtain ⟨j, rfl⟩ : ∃ j : Nat, v = j := ⟨v.toNat, by omega⟩
  have hj : j < ds.length := by omega
  have hat : opIx (.lst true ds) (.int (j : Nat)) = some ds[j] := by
    exact L2.atI_nat (List.getElem?_eq_getElem (by simpa using hj))
  by_cases hfz : isFz ds[j] = true
  · refine ⟨x', y', z', ds[j], .lst true ds, List.getElem_mem hj, ?_⟩
    refine runD_of (E' := [some (bagD x' y' z' cs), some (.lst true ds)]) rfl (sRet_of ?_) rfl
    show eIxN 1 _ [some (bagD x y z cs), some (.lst true ds)] = _
    unfold eIxN
    show (match eCall g__law_take (xSlot 0 (xVal (n1L opLen (qCons (qVar 1) qNil)) xNil)) [some (bagD x y z cs), some (.lst true ds)] with | some (k, E1) => _ | none => _) = _
    rw [q]
    show (match opIxF (.lst true ds) (.int (j : Nat)) with | some d => some (d, [some (bagD x' y' z' cs), some (.lst true ds)]) | none => _) = _
    have : opIxF (.lst true ds) (.int (j : Nat)) = some ds[j] := by
      unfold opIxF
      rw [hat]
      exact if_pos hfz
    rw [this, froz_fz _ hfz]
  · have hl : frozL ds = ds.map froz := frozL_map ds
    refine ⟨x', y', z', ds[j], .lst false (frozL ds), List.getElem_mem hj, ?_⟩
    refine runD_of (E' := [some (bagD x' y' z' cs), some (.lst false (frozL ds))]) rfl (sRet_of ?_) rfl
    show eIxN 1 _ [some (bagD x y z cs), some (.lst true ds)] = _
    unfold eIxN
    show (match eCall g__law_take (xSlot 0 (xVal (n1L opLen (qCons (qVar 1) qNil)) xNil)) [some (bagD x y z cs), some (.lst true ds)] with | some (k, E1) => _ | none => _) = _
    rw [q]
    show (match opIxF (.lst true ds) (.int (j : Nat)) with | some d => some (d, [some (bagD x' y' z' cs), some (.lst true ds)]) | none => (match opIxF (froz (.lst true ds)) (.int (j : Nat)) with | some d => some (d, [some (bagD x' y' z' cs), some (froz (.lst true ds))]) | none => none)) = _
    have e1 : opIxF (.lst true ds) (.int (j : Nat)) = none := by
      unfold opIxF
      rw [hat]
      exact if_neg hfz
    have e2 : opIxF (froz (.lst true ds)) (.int (j : Nat)) = some (froz ds[j]) := by
      have ef : froz (.lst true ds) = .lst false (frozL ds) := by simp only [froz]
      unfold opIxF
      rw [ef]
      have : opIx (.lst false (frozL ds)) (.int (j : Nat)) = some (froz ds[j]) := by
        show L2.atI (frozL ds) ((j : Nat) : Int) = _
        rw [hl]
        refine L2.atI_nat ?_
        rw [List.getElem?_map, List.getElem?_eq_getElem (by simpa using hj)]
        simp
      rw [this]
      exact if_pos (hz _ (List.getElem_mem hj))
    rw [e1, e2]
    have ef : froz (.lst true ds) = .lst false (frozL ds) := by simp only [froz]
    rw [ef]
theorem call_some {E E1 : Ev} {x y z : Int} {cs : List Int} (hc : cs.length ≤ 1000) {i : Nat} {f : Ev → Option (D × Ev)} {ds : List D} (h : E[i]? = some (some (bagD x y z cs))) (hf : f E = some (.lst true ds, E1)) (hb : E1[i]? = some (some (bagD x y z cs))) (h0 : ds ≠ []) (h1 : ds.length ≤ 1000) (hz : ∀ d ∈ ds, isFz (froz d) = true) :
    ∃ x' y' z' d, d ∈ ds ∧ eCall g__law_some (xSlot i (xVal f xNil)) E = some (froz d, E1.set i (some (bagD x' y' z' cs))) := by
  obtain ⟨x', y', z', d, t, hd, q⟩ := some_ok x y z cs hc h0 h1 hz
  refine ⟨x', y', z', d, hd, ?_⟩
  rw [eCall_of (xSlot_of h (xVal_of hf rfl)) (E2 := E1.set i none) (ds := [bagD x y z cs, .lst true ds]) ?_ q]
  · show some (froz d, (E1.set i none).set i (some (bagD x' y' z' cs))) = _
    rw [List.set_set]
  · unfold gather
    rw [hb]
    rfl
/-- .. the slot's bag may have changed while the things were made -/
theorem call_some2 {E E1 : Ev} {x y z x0 y0 z0 : Int} {cs : List Int} (hc : cs.length ≤ 1000) {i : Nat} {f : Ev → Option (D × Ev)} {ds : List D} (h : E[i]? = some (some (bagD x0 y0 z0 cs))) (hf : f E = some (.lst true ds, E1)) (hb : E1[i]? = some (some (bagD x y z cs))) (h0 : ds ≠ []) (h1 : ds.length ≤ 1000) (hz : ∀ d ∈ ds, isFz (froz d) = true) :
    ∃ x' y' z' d, d ∈ ds ∧ eCall g__law_some (xSlot i (xVal f xNil)) E = some (froz d, E1.set i (some (bagD x' y' z' cs))) := by
  obtain ⟨x', y', z', d, t, hd, q⟩ := some_ok x y z cs hc h0 h1 hz
  refine ⟨x', y', z', d, hd, ?_⟩
  rw [eCall_of (xSlot_of h (xVal_of hf rfl)) (E2 := E1.set i none) (ds := [bagD x y z cs, .lst true ds]) ?_ q]
  · show some (froz d, (E1.set i none).set i (some (bagD x' y' z' cs))) = _
    rw [List.set_set]
  · unfold gather
    rw [hb]
    rfl
/-! lines -/
def goodIt (n : Nat) : It → Prop
  | .w k => 0 ≤ k ∧ k ≤ 3
  | .to t => 0 ≤ t ∧ t ≤ n
theorem line_turn {cs : List Int} (hc : cs.length ≤ 1000) {n : Nat} (hn : n ≤ 100) (x y z : Int) (i : Nat) :
    ∃ x' y' z' it, goodIt n it ∧ (eCall g__law_some (xSlot 0 (xVal (eLst (eCons (eCall g__law_take (xSlot 0 (xVal (eOf (qC (.int 4))) xNil))) (eCons (eTup (eCons (eOf (qC (.str "to"))) (eCons (eCall g__law_take (xSlot 0 (xVal (n2f opAdd (qVar 1) (qC (.int 1))) xNil))) eNil))) (eCons (eTup (eCons (eOf (qC (.str "to"))) (eCons (eCall g__law_take (xSlot 0 (xVal (n2f opAdd (qVar 1) (qC (.int 1))) xNil))) eNil))) eNil)))) xNil))) [some (bagD x y z cs), some (.int n), some (iD i)]
      = some (it.d, [some (bagD x' y' z' cs), some (.int n), some (iD i)]) := by
  obtain ⟨x1, y1, z1, v1, a1, b1, q1⟩ := call_take (E := [some (bagD x y z cs), some (.int n), some (iD i)]) (i := 0) (f := eOf (qC (.int 4))) (n := 4) hc rfl rfl (by decide) (by decide)
  obtain ⟨x2, y2, z2, v2, a2, b2, q2⟩ := call_take (E := [some (bagD x1 y1 z1 cs), some (.int n), some (iD i)]) (i := 0) (f := n2f opAdd (qVar 1) (qC (.int 1))) (n := n + 1) hc rfl rfl (by omega) (by omega)
  obtain ⟨x3, y3, z3, v3, a3, b3, q3⟩ := call_take (E := [some (bagD x2 y2 z2 cs), some (.int n), some (iD i)]) (i := 0) (f := n2f opAdd (qVar 1) (qC (.int 1))) (n := n + 1) hc rfl rfl (by omega) (by omega)
  have f1 : (eLst (eCons (eCall g__law_take (xSlot 0 (xVal (eOf (qC (.int 4))) xNil))) (eCons (eTup (eCons (eOf (qC (.str "to"))) (eCons (eCall g__law_take (xSlot 0 (xVal (n2f opAdd (qVar 1) (qC (.int 1))) xNil))) eNil))) (eCons (eTup (eCons (eOf (qC (.str "to"))) (eCons (eCall g__law_take (xSlot 0 (xVal (n2f opAdd (qVar 1) (qC (.int 1))) xNil))) eNil))) eNil)))) [some (bagD x y z cs), some (.int n), some (iD i)]
      = some (.lst true [(It.w v1).d, (It.to v2).d, (It.to v3).d], [some (bagD x3 y3 z3 cs), some (.int n), some (iD i)]) := by
    exact eLst_of (eCons_of q1 (eCons_of (eTup_two (f := eOf (qC (.str "to"))) rfl q2) (eCons_of (g := eNil) (eTup_two (f := eOf (qC (.str "to"))) rfl q3) rfl))) (by show 3 ≤ 5000; decide)
  obtain ⟨x4, y4, z4, d, hd, q4⟩ := call_some2 (E := [some (bagD x y z cs), some (.int n), some (iD i)]) (i := 0) hc rfl f1 rfl (by simp) (by simp) (by
    intro d m
    simp at m
    rcases m with m | m | m <;> subst m <;> rfl)
  simp at hd
  rcases hd with e | e | e <;> subst e
  · exact ⟨x4, y4, z4, .w v1, ⟨a1, by omega⟩, q4⟩
  · exact ⟨x4, y4, z4, .to v2, ⟨a2, by omega⟩, q4⟩
  · exact ⟨x4, y4, z4, .to v3, ⟨a3, by omega⟩, q4⟩
def elLine : Ev → Option (D × Ev) := eCall g__law_some (xSlot 0 (xVal (eLst (eCons (eCall g__law_take (xSlot 0 (xVal (eOf (qC (.int 4))) xNil))) (eCons (eTup (eCons (eOf (qC (.str "to"))) (eCons (eCall g__law_take (xSlot 0 (xVal (n2f opAdd (qVar 1) (qC (.int 1))) xNil))) eNil))) (eCons (eTup (eCons (eOf (qC (.str "to"))) (eCons (eCall g__law_take (xSlot 0 (xVal (n2f opAdd (qVar 1) (qC (.int 1))) xNil))) eNil))) eNil)))) xNil))
theorem line_comp {cs : List Int} (hc : cs.length ≤ 1000) {n : Nat} (hn : n ≤ 100) : ∀ (is : List Nat) (x y z : Int), ∃ (x' y' z' : Int) (l : List It), l.length = is.length ∧ (∀ it ∈ l, goodIt n it) ∧ compL [2] (gdName 2) dYes elLine (is.map iD) [some (bagD x y z cs), some (.int n), none]
      = some (l.map It.d, [some (bagD x' y' z' cs), some (.int n), none]) := by
    intro is
    induction is with
    | nil => intro x y z; exact ⟨x, y, z, [], rfl, fun _ m => (by cases m), rfl⟩
    | cons i is ih =>
      intro x y z
      obtain ⟨x2, y2, z2, it, hit, q⟩ := line_turn hc (n := n) hn x y z i
      obtain ⟨x3, y3, z3, l, hl, hg, q2⟩ := ih x2 y2 z2
      have q' : elLine [some (bagD x y z cs), some (.int n), some (iD i)] = some (it.d, [some (bagD x2 y2 z2 cs), some (.int n), some (iD i)]) := q
      refine ⟨x3, y3, z3, it :: l, by simp [hl], fun j m => ?_, ?_⟩
      · rcases List.mem_cons.mp m with m | m
        · subst m; exact hit
        · exact hg j m
      · rw [List.map_cons, compL]
        show (match elLine [some (bagD x y z cs), some (.int n), some (iD i)] with | some (d, E3) => (match compL [2] (gdName 2) dYes elLine (is.map iD) (wipeE E3 [2]) with | some (ds, E4) => some (d :: ds, E4) | none => none) | none => none) = _
        rw [q']
        show (match compL [2] (gdName 2) dYes elLine (is.map iD) [some (bagD x2 y2 z2 cs), some (.int n), none] with | some (ds, E4) => some (it.d :: ds, E4) | none => none) = _
        rw [q2]
        rfl
theorem eComp_of {own : List Nat} {fi : Ev → Option (List D × Ev)} {g : D → Ev → Option Ev} {tt : Ev → Option (Bool × Ev)} {el : Ev → Option (D × Ev)} {E E1 E2 : Ev} {xs ds : List D} (hi : fi E = some (xs, E1)) (ho : ownFz E1 own = true) (hc : compL own g tt el xs (wipeE E1 own) = some (ds, E2)) (hl : ds.length ≤ 5000) :
    eComp own fi g tt el E = some (.lst true ds, backE E1 E2 own) := by
  unfold eComp
  rw [hi]
  show (if ownFz E1 own = true then (match compL own g tt el xs (wipeE E1 own) with | some (ds, E2) => (if ds.length ≤ sizeLine then some (D.lst true ds, backE E1 E2 own) else none) | none => none) else none) = _
  rw [if_pos ho, hc]
  show (if ds.length ≤ sizeLine then some (D.lst true ds, backE E1 E2 own) else none) = _
  rw [if_pos (Nat.le_trans hl (by decide))]
theorem line_c {cs : List Int} (hc : cs.length ≤ 1000) {n : Nat} (hn : n ≤ 100) (x y z : Int) : ∃ (x' y' z' : Int) (l : List It), l.length = n ∧ (∀ it ∈ l, goodIt n it) ∧ eComp [2] (iRange (eCons (eVar 1) eNil)) (gdName 2) dYes elLine [some (bagD x y z cs), some (.int n), none] = some (.lst true (l.map It.d), [some (bagD x' y' z' cs), some (.int n), none]) := by
  obtain ⟨x2, y2, z2, l, hl, hg, q2⟩ := line_comp hc hn (List.range n) x y z
  rw [List.length_range] at hl
  refine ⟨x2, y2, z2, l, hl, hg, ?_⟩
  exact eComp_of (range_of (n := n) (E1 := [some (bagD x y z cs), some (.int n), none]) rfl (by omega)) rfl q2 (by rw [List.length_map]; omega)
theorem line_ok (x y z : Int) {cs : List Int} (hc : cs.length ≤ 1000) : ∃ (x' y' z' : Int) (l : List It), 1 ≤ l.length ∧ l.length ≤ 9 ∧ (∀ it ∈ l, goodIt l.length it) ∧ g__law_line [bagD x y z cs] = some (lineD l, [bagD x' y' z' cs]) := by
  obtain ⟨x1, y1, z1, v1, a1, b1, q1⟩ := call_take (E := [some (bagD x y z cs), none, none]) (i := 0) (f := eOf (qC (.int 9))) (n := 9) hc rfl rfl (by decide) (by decide)
  obtain ⟨n, hn⟩ : ∃ n : Nat, 1 + v1 = n := ⟨(1 + v1).toNat, by omega⟩
  obtain ⟨x2, y2, z2, l, hl, hg, c⟩ := line_c hc (n := n) (by omega) x1 y1 z1
  refine ⟨x2, y2, z2, l, by omega, by omega, by rw [hl]; exact hg, ?_⟩
  have a : opAdd (.int 1) (.int v1) = some (.int n) := by rw [← hn]; rfl
  have p1 : sAsg (lkOf [bagD x y z cs]) [1] (e2f opAdd (eOf (qC (.int 1))) (eCall g__law_take (xSlot 0 (xVal (eOf (qC (.int 9))) xNil)))) (gdName 1) [some (bagD x y z cs), none, none] = some (.nx [some (bagD x1 y1 z1 cs), some (.int n), none]) :=
    sAsg_of rfl (e2f_of (f := eOf (qC (.int 1))) rfl q1 a) rfl
  have p2 := sRet_of (e1L_of (op := opTuple) (eCons_of (g := eNil) c rfl) (tuple_own (isFzL_map It.d It.fz l) true))
  refine runD_of (E' := [some (bagD x2 y2 z2 cs), some (.int n), none]) rfl ?_ rfl
  show b__law_line (lkOf [bagD x y z cs]) [some (bagD x y z cs), none, none] = _
  unfold b__law_line
  exact sSeq_nx p1 p2
/-! the bag, all rows of bits -/
theorem bag_ok (ns : List Int) (h : ns.length ≤ 63) : g__law_bag [.scr (ns.map .int)] = some (bagD 0 1234567891 0 (ns.map iabs), [.scr (ns.map .int)]) := by
  have hs : iSeq (nSl (qVar 0) qNo (qPart (qC (.int 63)))) [some (.scr (ns.map .int)), none] = some ((cutG ns none (some 63)).map .int, [some (.scr (ns.map .int)), none]) := by
    have e : qSl (qVar 0) qNo (qPart (qC (.int 63))) [some (.scr (ns.map .int)), none] = some (.lst true ((cutG ns none (some 63)).map .int)) := by
      show (if isFzL (ns.map D.int) = true then some (D.lst true (cutG (ns.map .int) none (some 63))) else none) = _
      rw [if_pos (fz_ints ns), cut_map]
    unfold iSeq nSl
    rw [e]
    show some (frozL ((cutG ns none (some 63)).map .int), _) = _
    rw [frozL_ints]
  have hcut : cutG ns none (some 63) = ns := by
    unfold cutG
    rw [HT.sIx_none, show HT.sIx ns.length ns.length (some 63) = min 63 ns.length from HT.sIx_nat ns.length ns.length 63, Nat.min_eq_right h, List.drop_zero, Nat.sub_zero, List.take_length]
  rw [hcut] at hs
  have q := eComp_all (own := [1]) (g := gdName 1) (el := n1L opAbs (qCons (qVar 1) qNil)) D.int (fun x => .int (iabs x)) ns hs rfl rfl rfl (Nat.le_trans h (by decide)) fun x _ => ⟨[some (.scr (ns.map .int)), some (.int x)], [some (.scr (ns.map .int)), some (.int x)], rfl, rfl, rfl⟩
  have e : ns.map (fun x => D.int (iabs x)) = (ns.map iabs).map .int := by rw [List.map_map]; rfl
  rw [e] at q
  refine runD_same [none] rfl (sRet_of ?_)
  exact eLst_of (E1 := [some (.scr (ns.map .int)), none]) (eCons_of (d := .int 0) (E1 := [some (.scr (ns.map .int)), none]) rfl (eCons_of (d := .int 1234567891) (E1 := [some (.scr (ns.map .int)), none]) rfl (eCons_of (d := .int 0) (E1 := [some (.scr (ns.map .int)), none]) rfl (eCons_of (g := eNil) q rfl)))) (by show 4 ≤ 5000; decide)
end K19

namespace K19
open PySem Dm
/-! ### all rows of bits -/
def dbl (rows : List (List Int)) : List (List Int) := rows.map (· ++ [0]) ++ rows.map (· ++ [1])
def iter : Nat → List (List Int) → List (List Int)
  | 0, rows => rows
  | k + 1, rows => iter k (dbl rows)
theorem iter_dbl : ∀ (k : Nat) (rows : List (List Int)), iter k (dbl rows) = dbl (iter k rows)
  | 0, _ => rfl
  | k + 1, rows => by rw [iter, iter, iter_dbl k (dbl rows)]
theorem iter_allb : ∀ n : Nat, iter n [[]] = allb n
  | 0 => rfl
  | n + 1 => by rw [iter, iter_dbl, iter_allb n]; rfl
theorem dbl_length (rows : List (List Int)) : (dbl rows).length = 2 * rows.length := by rw [dbl, List.length_append, List.length_map, List.length_map]; omega
theorem tup_add {xs ys : List Int} (h : xs.length + ys.length ≤ 5000) : opAdd (tI xs) (tI ys) = some (tI (xs ++ ys)) := by
  show (if (xs.map D.int).length + (ys.map D.int).length ≤ sizeLine ∧ isFzL (xs.map D.int) = true ∧ isFzL (ys.map D.int) = true then some (D.tup (xs.map .int ++ ys.map .int)) else none) = _
  rw [if_pos ⟨by rw [List.length_map, List.length_map]; exact Nat.le_trans h (by decide), fz_ints xs, fz_ints ys⟩, ← List.map_append]
  rfl
theorem bits_turn {rows : List (List Int)} {n : Int} {lk : Lks} (h1 : lk 1 = false) (hr : rows.length ≤ 100) (hw : ∀ r ∈ rows, r.length ≤ 100) (x2 : Option D) :
    l__law_all_bits_1 lk [some (.int n), some (.lst true (rows.map tI)), x2, none] = some (.nx [some (.int n), some (.lst true ((dbl rows).map tI)), x2, none]) := by
  have q : ∀ k : Int, eCompQ [3] 1 (gdName 3) dYes (n2f opAdd (qVar 3) (qTup (qCons (qC (.int k)) qNil))) [some (.int n), some (.lst true (rows.map tI)), x2, none] = some (.lst true (rows.map fun r => tI (r ++ [k])), [some (.int n), some (.lst true (rows.map tI)), x2, none]) := fun k =>
    eCompQ_all (own := [3]) (i := 1) (g := gdName 3) (el := n2f opAdd (qVar 3) (qTup (qCons (qC (.int k)) qNil))) tI (fun r => tI (r ++ [k])) rows rfl (.inl rfl) fz_tI rfl rfl rfl rfl (by omega) fun r m =>
      ⟨[some (.int n), some (.lst true (rows.map tI)), x2, some (tI r)], [some (.int n), some (.lst true (rows.map tI)), x2, some (tI r)], rfl, n2f_of rfl (qTup_of (ds := [.int k]) rfl rfl (by show 1 ≤ 5000; decide)) (tup_add (ys := [k]) (by have := hw r m; simp; omega)), rfl⟩
  have a : opAdd (.lst true (rows.map fun r => tI (r ++ [0]))) (.lst true (rows.map fun r => tI (r ++ [1]))) = some (.lst true ((dbl rows).map tI)) := by
    have e1 : (rows.map fun r => tI (r ++ [0])) = (rows.map (· ++ [0])).map tI := by rw [List.map_map]; rfl
    have e2 : (rows.map fun r => tI (r ++ [1])) = (rows.map (· ++ [1])).map tI := by rw [List.map_map]; rfl
    rw [e1, e2]
    show (if ((rows.map (· ++ [0])).map tI).length + ((rows.map (· ++ [1])).map tI).length ≤ sizeLine ∧ isFzL ((rows.map (· ++ [0])).map tI) = true ∧ isFzL ((rows.map (· ++ [1])).map tI) = true then some (D.lst true ((rows.map (· ++ [0])).map tI ++ (rows.map (· ++ [1])).map tI)) else none) = _
    rw [if_pos ⟨by simp only [List.length_map]; exact Nat.le_trans (by omega : rows.length + rows.length ≤ 200) (by decide), isFzL_map tI fz_tI _, isFzL_map tI fz_tI _⟩, ← List.map_append]
    rfl
  exact sAsg_of (by show (!lk 1 && true) = true; rw [h1]; rfl) (e2f_of (q 0) (q 1) a) rfl
theorem bits_loop {n : Int} {lk : Lks} (h1 : lk 1 = false) : ∀ (is : List Nat) (rows : List (List Int)) (x2 : Option D), rows.length * 2 ^ is.length ≤ 100 → (∀ r ∈ rows, r.length + is.length ≤ 100) →
    ∃ y2, forL (gdName 2) (l__law_all_bits_1 lk) (is.map iD) [some (.int n), some (.lst true (rows.map tI)), x2, none] = some (.nx [some (.int n), some (.lst true ((iter is.length rows).map tI)), y2, none])
  | [], rows, x2, _, _ => ⟨x2, rfl⟩
  | i :: is, rows, x2, h, hw => by
    have hp : 1 ≤ 2 ^ is.length := Nat.one_le_two_pow
    have hr : rows.length ≤ 100 := by
      rw [List.length_cons, Nat.pow_succ] at h
      have := Nat.mul_le_mul_left rows.length (show 1 ≤ 2 ^ is.length * 2 by omega)
      omega
    have q := bits_turn (n := n) (lk := lk) h1 hr (fun r m => by have := hw r m; omega) (some (iD i))
    obtain ⟨y2, q2⟩ := bits_loop (n := n) (lk := lk) h1 is (dbl rows) (some (iD i)) (by
      rw [dbl_length]
      rw [List.length_cons, Nat.pow_succ] at h
      have e : 2 * rows.length * 2 ^ is.length = rows.length * (2 ^ is.length * 2) := by
        rw [Nat.mul_comm (2 ^ is.length) 2, ← Nat.mul_assoc, Nat.mul_comm rows.length 2]
      omega) (fun r m => by
      rcases List.mem_append.mp m with m | m <;> obtain ⟨r', m', e⟩ := List.mem_map.mp m <;> subst e <;> have := hw r' m' <;> simp at this ⊢ <;> omega)
    refine ⟨y2, ?_⟩
    rw [List.map_cons, forL]
    show (match l__law_all_bits_1 lk [some (.int n), some (.lst true (rows.map tI)), some (iD i), none] with | some (.nx E2) => forL (gdName 2) (l__law_all_bits_1 lk) (is.map iD) E2 | some (.ct E2) => _ | some (.bk E2) => _ | some (.ret d E2) => _ | none => _) = _
    rw [q]
    exact q2
theorem all_bits_ok {n : Nat} (h : n ≤ 5) : g__law_all_bits [.int n] = some (.lst true ((allb n).map tI), [.int n]) := by
  obtain ⟨y2, q⟩ := bits_loop (n := n) (lk := lkOf [.int n]) rfl (List.range n) [[]] none (by
    rw [List.length_range]
    have : 2 ^ n ≤ 2 ^ 5 := Nat.pow_le_pow_right (by decide) h
    simp only [List.length_cons, List.length_nil]
    omega) (fun r m => by simp at m; subst m; simp; omega)
  rw [List.length_range, iter_allb] at q
  refine runD_of (E' := [some (.int n), none, y2, none]) rfl ?_ rfl
  show b__law_all_bits (lkOf [.int n]) [some (.int n), none, none, none] = _
  unfold b__law_all_bits
  have p1 : sAsg (lkOf [.int n]) [1] (eLst (eCons (eTup eNil) eNil)) (gdName 1) [some (.int n), none, none, none] = some (.nx [some (.int n), some (.lst true ([[]].map tI)), none, none]) :=
    sAsg_of rfl (eLst_of (eCons_of (eTup_of (ds := []) rfl (by decide)) rfl) (by show 1 ≤ 5000; decide)) rfl
  have p3 : sRetV (lkOf [.int n]) 1 [some (.int n), some (.lst true ((allb n).map tI)), y2, none] = some (.ret (.lst true ((allb n).map tI)) [some (.int n), none, y2, none]) := rfl
  exact sSeq_nx p1 (sSeq_nx (sFor_of rfl (range_of (n := n) rfl (by omega)) q) p3)
/-! ### bent reasons -/
theorem toldEq (T : Told) : okEq (.tup (T.map rD)) = true := by
  have h : isDatL (T.map rD) = true ∧ PyData.canLayAll0 (toPL (T.map rD)) = true ∧ PyData.depthAll (toPL (T.map rD)) ≤ 1 := by
    induction T with
    | nil => exact ⟨rfl, rfl, Nat.zero_le _⟩
    | cons o T ih =>
      have ho : isDat (rD o) = true ∧ (toP (rD o)).canLay0 = true ∧ (toP (rD o)).depth ≤ 1 := by
        cases o
        · exact ⟨rfl, rfl, Nat.zero_le _⟩
        · exact ⟨rfl, rfl, Nat.le_refl _⟩
      refine ⟨by simp only [List.map_cons, isDatL, ho.1, ih.1]; rfl, by simp only [List.map_cons, toPL, PyData.canLayAll0, ho.2.1, ih.2.1]; rfl, ?_⟩
      simp only [List.map_cons, toPL, PyData.depthAll]
      exact Nat.max_le.mpr ⟨ho.2.2, ih.2.2⟩
  unfold okEq SeqAt.shaped
  simp only [isDat, toP, PyData.canLay0, PyData.depth, h]
  rw [decide_eq_true (by omega)]
  rfl
theorem told_ne (T : Told) : opNe (.tup (T.map rD)) (.tup []) = some (.bl (!T.isEmpty)) := by
  show (if okEq (.tup (T.map rD)) = true ∧ okEq (.tup []) = true then some (D.bl (!PyData.eqv (toP (.tup (T.map rD))) (toP (.tup [])))) else none) = _
  rw [if_pos ⟨toldEq T, toldEq []⟩]
  cases T <;> simp [toP, toPL, PyData.eqv, PyData.eqvAll]
def cutT (T : Told) (lo hi : Option Int) : Told := cutG T lo hi
theorem cutT_sub {T : Told} {lo hi : Option Int} {o} (h : o ∈ cutT T lo hi) : o ∈ T := List.mem_of_mem_drop (List.mem_of_mem_take h)
theorem cutT_len (T : Told) (lo hi : Option Int) : (cutT T lo hi).length ≤ T.length := by
  unfold cutT cutG
  rw [List.length_take, List.length_drop]
  omega
theorem sl_told (T : Told) (lo hi : Option Int) : opSl (.tup (T.map rD)) lo hi = some (.tup ((cutT T lo hi).map rD)) := by
  show (if isFzL (T.map rD) = true then some (D.tup (cutG (T.map rD) lo hi)) else none) = _
  rw [if_pos (isFzL_map rD rD_fz T)]
  unfold cutT cutG
  rw [List.length_map, ← List.map_drop, ← List.map_take]
theorem add_tup {xs ys : List D} (hx : isFzL xs = true) (hy : isFzL ys = true) (h : xs.length + ys.length ≤ 5000) : opAdd (.tup xs) (.tup ys) = some (.tup (xs ++ ys)) := by
  show (if xs.length + ys.length ≤ sizeLine ∧ isFzL xs = true ∧ isFzL ys = true then some (D.tup (xs ++ ys)) else none) = _
  rw [if_pos ⟨Nat.le_trans h (by decide), hx, hy⟩]
theorem fzL_app {xs ys : List D} (hx : isFzL xs = true) (hy : isFzL ys = true) : isFzL (xs ++ ys) = true := by
  rw [isFzL_all] at *
  rw [List.all_append, hx, hy]; rfl
/-- told[:k] + (new,) + told[k + 1:] -/
theorem splice {f : Ev → Option D} {E : Ev} {T : Told} {k : Int} {d : D} (hT : T.length ≤ 1000) (h1 : E[1]? = some (some (.tup (T.map rD)))) (h3 : E[3]? = some (some (.int k))) (hf : qTup (qCons f qNil) E = some (.tup [d])) (hd : isFz d = true) :
    n2f opAdd (q2f opAdd (qSl (qVar 1) qNo (qPart (qVar 3))) (qTup (qCons f qNil))) (qSl (qVar 1) (qPart (q2f opAdd (qVar 3) (qC (.int 1)))) qNo) E = some (.tup (((cutT T none (some k)).map rD ++ [d]) ++ (cutT T (some (k + 1)) none).map rD), E) := by
  have q1 : qVar 1 E = some (.tup (T.map rD)) := by unfold qVar; rw [h1]
  have q3 : qVar 3 E = some (.int k) := by unfold qVar; rw [h3]
  have p3 : qPart (qVar 3) E = some (some k) := by unfold qPart; rw [q3]; rfl
  have p4 : qPart (q2f opAdd (qVar 3) (qC (.int 1))) E = some (some (k + 1)) := by
    unfold qPart
    rw [q2f_of q3 (rfl : qC (.int 1) E = some (.int 1)) (rfl : opAdd (.int k) (.int 1) = some (.int (k + 1)))]
    rfl
  have s1 : qSl (qVar 1) qNo (qPart (qVar 3)) E = some (.tup ((cutT T none (some k)).map rD)) := by
    unfold qSl
    rw [q1]
    show (match qPart (qVar 3) E with | some hi => opSl (.tup (T.map rD)) none hi | none => none) = _
    rw [p3]
    exact sl_told T none (some k)
  have s2 : qSl (qVar 1) (qPart (q2f opAdd (qVar 3) (qC (.int 1)))) qNo E = some (.tup ((cutT T (some (k + 1)) none).map rD)) := by
    unfold qSl
    rw [q1, p4]
    exact sl_told T (some (k + 1)) none
  have l1 := cutT_len T none (some k)
  have l2 := cutT_len T (some (k + 1)) none
  have z1 : isFzL [d] = true := by simp only [isFzL, hd]; rfl
  exact n2f_of (q2f_of s1 hf (add_tup (isFzL_map rD rD_fz _) z1 (by rw [List.length_map]; simp; omega))) s2 (add_tup (fzL_app (isFzL_map rD rD_fz _) z1) (isFzL_map rD rD_fz _) (by rw [List.length_append, List.length_map, List.length_map]; simp; omega))
def goodTh (B : Int) (n : Nat) : Th → Prop
  | .v T => Bd B T ∧ T.length ≤ n
  | .l T => Bd B T ∧ T.length ≤ n
  | .n => True
  | .w T1 T2 => Bd B T1 ∧ Bd B T2 ∧ T1.length + T2.length ≤ n
theorem Bd.cut {B : Int} {T : Told} (h : Bd B T) (lo hi : Option Int) : Bd B (cutT T lo hi) := fun p m => h p (cutT_sub m)
theorem Bd.mono {B C : Int} {T : Told} (h : Bd B T) (hBC : B ≤ C) : Bd C T := fun p m => by
  obtain ⟨h1, h2, h3, h4⟩ := h p m
  exact ⟨h1, by omega, by omega, by omega⟩
end K19

namespace K19
open PySem Dm
def news : Option (Int × Int) → List (Option (Int × Int))
  | none => [none, some (0, 3), some (1, 1), some (0, 0)]
  | some p => [none, some (0, 3), some (p.1 + 1, p.2), some (p.1, p.2 + 1)]
def dblO : Option (Int × Int) → Option (Int × Int)
  | none => none
  | some p => some (p.1 * 2 + 1, p.2)
theorem news_bd {B : Int} (h0 : 3 ≤ B) {o : Option (Int × Int)} (ho : ∀ p, o = some p → 0 ≤ p.1 ∧ p.1 ≤ B ∧ -B ≤ p.2 ∧ p.2 ≤ B) : ∀ p, some p ∈ news o → 0 ≤ p.1 ∧ p.1 ≤ 2 * B + 3 ∧ -(2 * B + 3) ≤ p.2 ∧ p.2 ≤ 2 * B + 3 := by
  intro p m
  cases o with
  | none =>
    simp [news] at m
    rcases m with m | m | m <;> subst m <;> simp <;> omega
  | some q =>
    obtain ⟨h1, h2, h3, h4⟩ := ho q rfl
    simp [news] at m
    rcases m with m | m | m <;> subst m <;> simp <;> omega
theorem th_fz (o : Option (Int × Int)) : froz (rD o) = rD o := froz_fz _ (rD_fz o)
theorem things_ok {E : Ev} (o : Option (Int × Int)) (h : E[4]? = some (some (rD o))) :
    (eLst (eCons (eOf (qC .non)) (eCons (eTup (eCons (eOf (qC (.int 0))) (eCons (eOf (qC (.int 3))) eNil))) (eCons (eIf (tOfQ (tqf (q2f opIsNot (qVar 4) (qC .non)))) (eTup (eCons (n2f opAdd (q2f opIx (qVar 4) (qC (.int 0))) (qC (.int 1))) (eCons (eOf (q2f opIx (qVar 4) (qC (.int 1)))) eNil))) (eTup (eCons (eOf (qC (.int 1))) (eCons (eOf (qC (.int 1))) eNil)))) (eCons (eIf (tOfQ (tqf (q2f opIsNot (qVar 4) (qC .non)))) (eTup (eCons (eOf (q2f opIx (qVar 4) (qC (.int 0)))) (eCons (n2f opAdd (q2f opIx (qVar 4) (qC (.int 1))) (qC (.int 1))) eNil))) (eTup (eCons (eOf (qC (.int 0))) (eCons (eOf (qC (.int 0))) eNil)))) eNil))))) E
      = some (.lst true ((news o).map rD), E) := by
  have q4 : qVar 4 E = some (rD o) := by unfold qVar; rw [h]
  have c : tOfQ (tqf (q2f opIsNot (qVar 4) (qC .non))) E = some (!o.isNone, E) := tOfQ_of (tqf_of (q2f_of q4 rfl (opIsNot_rD o)))
  have t2 : ∀ {f g : Ev → Option (D × Ev)} {x y : Int}, f E = some (.int x, E) → g E = some (.int y, E) → eTup (eCons f (eCons g eNil)) E = some (rD (some (x, y)), E) := fun hf hg => eTup_two hf hg
  cases o with
  | none =>
    refine eLst_of (ds := (news none).map rD) (eCons_of (d := rD none) rfl (eCons_of (t2 (x := 0) (y := 3) rfl rfl) (eCons_of (eIf_f c (t2 (x := 1) (y := 1) rfl rfl)) (eCons_of (eIf_f c (t2 (x := 0) (y := 0) rfl rfl)) rfl)))) (by show 4 ≤ 5000; decide)
  | some p =>
    have i0 : q2f opIx (qVar 4) (qC (.int 0)) E = some (.int p.1) := q2f_of q4 rfl rfl
    have i1 : q2f opIx (qVar 4) (qC (.int 1)) E = some (.int p.2) := q2f_of q4 rfl rfl
    refine eLst_of (ds := (news (some p)).map rD) (eCons_of (d := rD none) rfl (eCons_of (t2 (x := 0) (y := 3) rfl rfl) (eCons_of (eIf_t c (t2 (x := p.1 + 1) (y := p.2) (n2f_of i0 rfl rfl) (eOf_of i1 rfl))) (eCons_of (eIf_t c (t2 (x := p.1) (y := p.2 + 1) (eOf_of i0 rfl) (n2f_of i1 rfl rfl))) rfl)))) (by show 4 ≤ 5000; decide)
theorem bent_ok (x y z : Int) {cs : List Int} (hc : cs.length ≤ 1000) {T : Told} {B : Int} (hB : Bd B T) (h0 : 3 ≤ B) (hT : T.length ≤ 900) :
    ∃ x' y' z' th, goodTh (2 * B + 3) (T.length + 1) th ∧ g__law_bent_reasons [bagD x y z cs, (Th.v T).d] = some (th.d, [bagD x' y' z' cs, (Th.v T).d]) := by
  have fzT : isFz (Th.v T).d = true := isFzL_map rD rD_fz T
  have outs2 : ∀ (x' y' z' : Int) (a b c d : Option D), outsD [bagD x y z cs, (Th.v T).d] [some (bagD x' y' z' cs), some (Th.v T).d, a, b, c, d] = some [bagD x' y' z' cs, (Th.v T).d] := fun x' y' z' a b c d => by
    have o1 : outsD [(Th.v T).d] [some (Th.v T).d, a, b, c, d] = some [(Th.v T).d] := outsD_same [(Th.v T).d] [a, b, c, d]
    show (match outsD [(Th.v T).d] [some (Th.v T).d, a, b, c, d] with | some r => if isFz (bagD x y z cs) = true then some (bagD x y z cs :: r) else (match some (bagD x' y' z' cs) with | some d' => some (d' :: r) | none => none) | none => none) = _
    rw [o1]
    rfl
  obtain ⟨x1, y1, z1, w, w0, w1, q1⟩ := call_take (E := [some (bagD x y z cs), some (Th.v T).d, none, none, none, none]) (i := 0) (f := eOf (qC (.int 7))) (n := 7) hc rfl rfl (by decide) (by decide)
  have hmax : n1L opMax (qCons (qC (.int 1)) (qCons (q1L opLen (qCons (qVar 1) qNil)) qNil)) [some (bagD x1 y1 z1 cs), some (Th.v T).d, none, none, none, none] = some (.int (if (T.length : Int) > 1 then T.length else 1), [some (bagD x1 y1 z1 cs), some (Th.v T).d, none, none, none, none]) := by
    refine n1L_of (qCons_of rfl (qCons_of (q1L_of rfl (len_tup rD T)) rfl)) ?_
    rfl
  obtain ⟨x2, y2, z2, k, k0, k1, q2⟩ := call_take (E := [some (bagD x1 y1 z1 cs), some (Th.v T).d, none, none, none, none]) (i := 0) hc rfl hmax (by split <;> omega) (by split <;> omega)
  have p1 : sPar (lkOf [bagD x y z cs, (Th.v T).d]) 2 3 (eCons (eCall g__law_take (xSlot 0 (xVal (eOf (qC (.int 7))) xNil))) (eCons (eCall g__law_take (xSlot 0 (xVal (n1L opMax (qCons (qC (.int 1)) (qCons (q1L opLen (qCons (qVar 1) qNil)) qNil))) xNil))) eNil)) [some (bagD x y z cs), some (Th.v T).d, none, none, none, none]
      = some (.nx [some (bagD x2 y2 z2 cs), some (Th.v T).d, some (.int w), some (.int k), none, none]) :=
    sPar_of (E1 := [some (bagD x2 y2 z2 cs), some (Th.v T).d, none, none, none, none]) rfl (eCons_of q1 (eCons_of q2 rfl))
  have cond : tOfQ (qAnd (tqf (q2f opLt (qVar 2) (qC (.int 4)))) (tqf (q2f opNe (qVar 1) (qTup qNil)))) [some (bagD x2 y2 z2 cs), some (Th.v T).d, some (.int w), some (.int k), none, none] = some (decide (w < 4) && !T.isEmpty, [some (bagD x2 y2 z2 cs), some (Th.v T).d, some (.int w), some (.int k), none, none]) :=
    tOfQ_of (qAnd_of rfl fun _ => tqf_of (q2f_of rfl (qTup_of (ds := []) rfl rfl (by decide)) (told_ne T)))
  cases hA : decide (w < 4) && !T.isEmpty with
  | true =>
    rw [hA] at cond
    simp only [Bool.and_eq_true, decide_eq_true_eq, Bool.not_eq_true', List.isEmpty_eq_false_iff] at hA
    have hlen : 0 < T.length := List.length_pos_iff.mpr hA.2
    obtain ⟨j, rfl⟩ : ∃ j : Nat, k = j := ⟨k.toNat, by omega⟩
    have hj : j < T.length := by
      split at k1 <;> omega
    have hat : opIx (Th.v T).d (.int (j : Nat)) = some (rD T[j]) := by
      show L2.atI (T.map rD) ((j : Nat) : Int) = _
      refine L2.atI_nat ?_
      rw [List.getElem?_map, List.getElem?_eq_getElem hj]; rfl
    have p2 : sAsg (lkOf [bagD x y z cs, (Th.v T).d]) [4] (eOf (q2f opIx (qVar 1) (qVar 3))) (gdName 4) [some (bagD x2 y2 z2 cs), some (Th.v T).d, some (.int w), some (.int j), none, none] = some (.nx [some (bagD x2 y2 z2 cs), some (Th.v T).d, some (.int w), some (.int j), some (rD T[j]), none]) :=
      sAsg_of rfl (eOf_of (q2f_of rfl rfl hat) (rD_fz _)) rfl
    obtain ⟨x3, y3, z3, d, hd, q3⟩ := call_some (E := [some (bagD x2 y2 z2 cs), some (Th.v T).d, some (.int w), some (.int j), some (rD T[j]), none]) (i := 0) hc rfl (things_ok T[j] rfl) rfl (by cases T[j] <;> simp [news]) (by cases T[j] <;> simp [news]) (by
      intro d m
      obtain ⟨o, _, e⟩ := List.mem_map.mp m
      subst e
      rw [th_fz]
      exact rD_fz o)
    obtain ⟨o, ho, e⟩ := List.mem_map.mp hd
    subst e
    rw [th_fz] at q3
    have p3 := sAsg_of (lk := lkOf [bagD x y z cs, (Th.v T).d]) (ts := [5]) (g := gdName 5) (E2 := [some (bagD x3 y3 z3 cs), some (Th.v T).d, some (.int w), some (.int j), some (rD T[j]), some (rD o)]) rfl q3 rfl
    have sp := splice (f := qVar 5) (E := [some (bagD x3 y3 z3 cs), some (Th.v T).d, some (.int w), some (.int j), some (rD T[j]), some (rD o)]) (T := T) (k := (j : Nat)) (d := rD o) (by omega) rfl rfl (qTup_of (ds := [rD o]) rfl (by simp only [isFzL, rD_fz]; rfl) (by show 1 ≤ 5000; decide)) (rD_fz o)
    refine ⟨x3, y3, z3, .v ((cutT T none (some (j : Nat)) ++ [o]) ++ cutT T (some ((j : Nat) + 1)) none), ⟨?_, ?_⟩, ?_⟩
    · intro p m
      rw [List.mem_append, List.mem_append] at m
      rcases m with (m | m) | m
      · obtain ⟨h1, h2, h3, h4⟩ := hB p (cutT_sub m)
        exact ⟨h1, by omega, by omega, by omega⟩
      · rw [List.mem_singleton] at m
        subst m
        exact news_bd h0 (fun p e => hB p (by rw [← e]; exact List.getElem_mem hj)) p ho
      · obtain ⟨h1, h2, h3, h4⟩ := hB p (cutT_sub m)
        exact ⟨h1, by omega, by omega, by omega⟩
    · have c1 : (cutT T none (some (j : Nat))).length ≤ j := by
        unfold cutT cutG
        rw [List.length_take, HT.sIx_none, show HT.sIx T.length T.length (some ((j : Nat) : Int)) = min j T.length from HT.sIx_nat T.length T.length j]
        omega
      have c2 : (cutT T (some ((j : Nat) + 1)) none).length ≤ T.length - j := by
        have e : (some (((j : Nat) : Int) + 1)) = some (((j + 1 : Nat)) : Int) := by rw [Int.natCast_succ]
        unfold cutT cutG
        rw [e, List.length_take, List.length_drop, HT.sIx_none, show HT.sIx T.length 0 (some ((j + 1 : Nat) : Int)) = min (j + 1) T.length from HT.sIx_nat T.length 0 (j + 1)]
        omega
      rw [List.length_append, List.length_append, List.length_singleton]
      omega
    · have eD : (Th.v ((cutT T none (some (j : Nat)) ++ [o]) ++ cutT T (some ((j : Nat) + 1)) none)).d = .tup (((cutT T none (some (j : Nat))).map rD ++ [rD o]) ++ (cutT T (some ((j : Nat) + 1)) none).map rD) := by
        show D.tup (List.map rD _) = _
        rw [List.map_append, List.map_append]; rfl
      rw [eD]
      refine runD_of (E' := [some (bagD x3 y3 z3 cs), some (Th.v T).d, some (.int w), some (.int j), some (rD T[j]), some (rD o)]) rfl ?_ ?_
      · show b__law_bent_reasons (lkOf [bagD x y z cs, (Th.v T).d]) [some (bagD x y z cs), some (Th.v T).d, none, none, none, none] = _
        unfold b__law_bent_reasons
        exact sSeq_nx p1 (sSeq_ret (sIf_t cond (sSeq_nx p2 (sSeq_nx p3 (sRet_of sp)))))
      · exact outs2 _ _ _ _ _ _ _
  | false =>
    rw [hA] at cond
    by_cases h4 : w = 4
    · subst h4
      have q := eCompQ_all (own := [4]) (i := 1) (g := gdName 4) (el := eIf (tOfQ (tqf (q2f opIs (qVar 4) (qC .non)))) (eOf (qC .non)) (eTup (eCons (n2f opAdd (q2f opMul (q2f opIx (qVar 4) (qC (.int 0))) (qC (.int 2))) (qC (.int 1))) (eCons (eOf (q2f opIx (qVar 4) (qC (.int 1)))) eNil)))) rD (fun o => rD (dblO o)) T (E := [some (bagD x2 y2 z2 cs), some (Th.v T).d, some (.int 4), some (.int k), none, none]) rfl (.inr (.inr (.inl rfl))) rD_fz rfl rfl rfl rfl (by omega) fun o _ => by
        refine ⟨[some (bagD x2 y2 z2 cs), some (Th.v T).d, some (.int 4), some (.int k), some (rD o), none], [some (bagD x2 y2 z2 cs), some (Th.v T).d, some (.int 4), some (.int k), some (rD o), none], rfl, ?_, rfl⟩
        cases o with
        | none => rfl
        | some p =>
          have m : q2f opMul (q2f opIx (qVar 4) (qC (.int 0))) (qC (.int 2)) [some (bagD x2 y2 z2 cs), some (Th.v T).d, some (.int 4), some (.int k), some (rD (some p)), none] = some (.int (p.1 * 2)) := q2f_of rfl rfl (mul_s (.inr (by decide)))
          exact eIf_f rfl (eTup_two (x := .int (p.1 * 2 + 1)) (n2f_of m rfl rfl) rfl)
      have eT : T.map (fun o => rD (dblO o)) = (T.map dblO).map rD := by rw [List.map_map]; rfl
      rw [eT] at q
      refine ⟨x2, y2, z2, .v (T.map dblO), ⟨?_, by rw [List.length_map]; omega⟩, ?_⟩
      · intro p m
        obtain ⟨o, m', e⟩ := List.mem_map.mp m
        cases o with
        | none => cases e
        | some q =>
          cases e
          obtain ⟨h1, h2, h3, h4⟩ := hB q m'
          exact ⟨by omega, by omega, by omega, by omega⟩
      · refine runD_of (E' := [some (bagD x2 y2 z2 cs), some (Th.v T).d, some (.int 4), some (.int k), none, none]) rfl ?_ (outs2 _ _ _ _ _ _ _)
        show b__law_bent_reasons (lkOf [bagD x y z cs, (Th.v T).d]) [some (bagD x y z cs), some (Th.v T).d, none, none, none, none] = _
        unfold b__law_bent_reasons
        have r := sRet_of (e1L_of (op := opTuple) (eCons_of (g := eNil) q rfl) (tuple_own (isFzL_map rD rD_fz (T.map dblO)) true))
        exact sSeq_nx p1 (sSeq_nx (sIf_f cond rfl) (sSeq_ret (sIf_t (E1 := [some (bagD x2 y2 z2 cs), some (Th.v T).d, some (.int 4), some (.int k), none, none]) rfl r)))
    · have c4 : tOfQ (tqf (q2f opEq (qVar 2) (qC (.int 4)))) [some (bagD x2 y2 z2 cs), some (Th.v T).d, some (.int w), some (.int k), none, none] = some (false, [some (bagD x2 y2 z2 cs), some (Th.v T).d, some (.int w), some (.int k), none, none]) := by
        refine tOfQ_of (tqf_of (q2f_of (x := .int w) rfl rfl ?_))
        rw [eq_int]
        have : (w == 4) = false := by simpa using h4
        rw [this]
      have i1 : nSl (qVar 1) (qPart (qC (.int 1))) qNo [some (bagD x2 y2 z2 cs), some (Th.v T).d, some (.int w), some (.int k), none, none] = some ((Th.v (cutT T (some 1) none)).d, [some (bagD x2 y2 z2 cs), some (Th.v T).d, some (.int w), some (.int k), none, none]) := by
        have e : qSl (qVar 1) (qPart (qC (.int 1))) qNo [some (bagD x2 y2 z2 cs), some (Th.v T).d, some (.int w), some (.int k), none, none] = some (.tup ((cutT T (some 1) none).map rD)) := sl_told T (some 1) none
        unfold nSl
        rw [e]; rfl
      have i2 : n2f opAdd (qVar 1) (qTup (qCons (qC .non) qNil)) [some (bagD x2 y2 z2 cs), some (Th.v T).d, some (.int w), some (.int k), none, none] = some ((Th.v (T ++ [none])).d, [some (bagD x2 y2 z2 cs), some (Th.v T).d, some (.int w), some (.int k), none, none]) := by
        have eD : (Th.v (T ++ [none])).d = .tup (T.map rD ++ [.non]) := by
          show D.tup (List.map rD _) = _
          rw [List.map_append]; rfl
        rw [eD]
        exact n2f_of rfl (qTup_of (ds := [.non]) rfl rfl (by show 1 ≤ 5000; decide)) (add_tup (isFzL_map rD rD_fz T) rfl (by rw [List.length_map]; simp; omega))
      have i3 : n1L opList (qCons (qVar 1) qNil) [some (bagD x2 y2 z2 cs), some (Th.v T).d, some (.int w), some (.int k), none, none] = some (.lst true (T.map rD), [some (bagD x2 y2 z2 cs), some (Th.v T).d, some (.int w), some (.int k), none, none]) :=
        n1L_of rfl (if_pos (isFzL_map rD rD_fz T))
      have i5 := splice (f := qTup (qCons (qC (.int 0)) qNil)) (E := [some (bagD x2 y2 z2 cs), some (Th.v T).d, some (.int w), some (.int k), none, none]) (T := T) (k := k) (d := .tup [.int 0]) (by omega) rfl rfl (qTup_of (ds := [.tup [.int 0]]) (qCons_of (qTup_of (ds := [.int 0]) rfl rfl (by show 1 ≤ 5000; decide)) rfl) rfl (by show 1 ≤ 5000; decide)) rfl
      have eW : (.tup (((cutT T none (some k)).map rD ++ [.tup [.int 0]]) ++ (cutT T (some (k + 1)) none).map rD) : D) = (Th.w (cutT T none (some k)) (cutT T (some (k + 1)) none)).d := by
        show D.tup _ = D.tup _
        rw [List.append_assoc]; rfl
      rw [eW] at i5
      have L := eLst_of (eCons_of i1 (eCons_of i2 (eCons_of i3 (eCons_of (f := eOf (qC .non)) (d := .non) rfl (eCons_of (g := eNil) i5 rfl))))) (by show 5 ≤ 5000; decide)
      have fr : froz (.lst true (T.map rD)) = (Th.l T).d := by
        show froz (.lst true (T.map rD)) = .lst false (T.map rD)
        simp only [froz, frozL_mapT rD rD_fz]
      have fv : ∀ T : Told, isFz (Th.v T).d = true := fun T => isFzL_map rD rD_fz T
      have fw : ∀ T1 T2 : Told, isFz (Th.w T1 T2).d = true := fun T1 T2 => by
        rw [es_w]
        exact isFzL_map En.d En.fz _
      have fl : isFz (Th.l T).d = true := by
        show (!false && isFzL (T.map rD)) = true
        rw [isFzL_map rD rD_fz]; rfl
      obtain ⟨x3, y3, z3, d, hd, q3⟩ := call_some (x := x2) (y := y2) (z := z2) (i := 0) hc rfl L rfl (by simp) (by simp) (by
        intro d m
        simp only [List.mem_cons, List.not_mem_nil, or_false] at m
        rcases m with m | m | m | m | m <;> subst m
        · rw [froz_fz _ (fv _)]; exact fv _
        · rw [froz_fz _ (fv _)]; exact fv _
        · rw [fr]; exact fl
        · rfl
        · rw [froz_fz _ (fw _ _)]; exact fw _ _)
      have fin : ∀ th : Th, froz d = th.d → goodTh (2 * B + 3) (T.length + 1) th → ∃ x' y' z' th, goodTh (2 * B + 3) (T.length + 1) th ∧ g__law_bent_reasons [bagD x y z cs, (Th.v T).d] = some (th.d, [bagD x' y' z' cs, (Th.v T).d]) := fun th e g => by
        refine ⟨x3, y3, z3, th, g, ?_⟩
        rw [e] at q3
        refine runD_of (E' := [some (bagD x3 y3 z3 cs), some (Th.v T).d, some (.int w), some (.int k), none, none]) rfl ?_ (outs2 _ _ _ _ _ _ _)
        show b__law_bent_reasons (lkOf [bagD x y z cs, (Th.v T).d]) [some (bagD x y z cs), some (Th.v T).d, none, none, none, none] = _
        unfold b__law_bent_reasons
        exact sSeq_nx p1 (sSeq_nx (sIf_f cond rfl) (sSeq_nx (sIf_f c4 rfl) (sRet_of q3)))
      have hB' : Bd (2 * B + 3) T := hB.mono (by omega)
      simp only [List.mem_cons, List.not_mem_nil, or_false] at hd
      rcases hd with e | e | e | e | e <;> subst e
      · exact fin (.v (cutT T (some 1) none)) (froz_fz _ (fv _)) ⟨hB'.cut _ _, Nat.le_succ_of_le (cutT_len _ _ _)⟩
      · refine fin (.v (T ++ [none])) (froz_fz _ (fv _)) ⟨fun p m => ?_, by simp⟩
        rcases List.mem_append.mp m with m | m
        · exact hB' p m
        · simp at m
      · exact fin (.l T) fr ⟨hB', Nat.le_succ _⟩
      · exact fin .n rfl trivial
      · have c1 := cutT_len T none (some k)
        refine fin (.w (cutT T none (some k)) (cutT T (some (k + 1)) none)) (froz_fz _ (fw _ _)) ⟨hB'.cut _ _, hB'.cut _ _, ?_⟩
        obtain ⟨j, rfl⟩ : ∃ j : Nat, k = j := ⟨k.toNat, by omega⟩
        have c1 : (cutT T none (some (j : Nat))).length ≤ j := by
          unfold cutT cutG
          rw [List.length_take, HT.sIx_none, show HT.sIx T.length T.length (some ((j : Nat) : Int)) = min j T.length from HT.sIx_nat T.length T.length j]
          omega
        have c2 : (cutT T (some ((j : Nat) + 1)) none).length ≤ T.length - j := by
          have e : (some (((j : Nat) : Int) + 1)) = some (((j + 1 : Nat)) : Int) := by rw [Int.natCast_succ]
          unfold cutT cutG
          rw [e, List.length_take, List.length_drop, HT.sIx_none, show HT.sIx T.length 0 (some ((j + 1 : Nat) : Int)) = min (j + 1) T.length from HT.sIx_nat T.length 0 (j + 1)]
          omega
        have c3 := cutT_len T none (some (j : Nat))
        omega
end K19

namespace K19
open PySem Dm
/-! ### bounds -/
structure OkL (l : List It) (a b : Int) : Prop where
  len : l.length ≤ 100
  good : Good l.length l
  pos : Pos l
  top : ∀ n, It.w n ∈ l → n ≤ 10
  a0 : 0 ≤ a
  ab : a ≤ b
  b10 : b ≤ 10
theorem szs_le {a b : Int} (ha : 0 ≤ a) (hab : a ≤ b) (hb : b ≤ 10) : ∀ (l : List It) (ls : List Int), Pos l → (∀ n, It.w n ∈ l → n ≤ 10) → ∀ x ∈ szs a b l ls, 0 ≤ x ∧ x ≤ 10
  | [], _, _, _, x, m => by cases m
  | .w n :: r, ls, hp, ht, x, m => by
    rcases List.mem_cons.mp m with e | m
    · subst e; exact ⟨hp _ List.mem_cons_self, ht _ List.mem_cons_self⟩
    · exact szs_le ha hab hb r ls (fun n q => hp n (List.mem_cons_of_mem _ q)) (fun n q => ht n (List.mem_cons_of_mem _ q)) x m
  | .to t :: r, [], _, _, x, m => by cases m
  | .to t :: r, y :: ls, hp, ht, x, m => by
    rcases List.mem_cons.mp m with e | m
    · subst e; unfold szl; split <;> omega
    · exact szs_le ha hab hb r ls (fun n q => hp n (List.mem_cons_of_mem _ q)) (fun n q => ht n (List.mem_cons_of_mem _ q)) x m
theorem sum_le : ∀ (xs : List Int) (j : Nat), (∀ x ∈ xs, 0 ≤ x ∧ x ≤ 10) → 0 ≤ (xs.take j).sum ∧ (xs.take j).sum ≤ 10 * xs.length
  | _, 0, _ => by simp; omega
  | [], _ + 1, _ => by simp
  | x :: xs, j + 1, h => by
    have q := sum_le xs j fun y m => h y (List.mem_cons_of_mem _ m)
    have := h x List.mem_cons_self
    rw [List.take_succ_cons, List.sum_cons, List.length_cons]
    omega
theorem dist_bd {l : List It} {a b : Int} (h : OkL l a b) {ls : List Int} (hc : ls.length = cnt l) : ∀ f ∈ dist a b l ls, -1000 ≤ f ∧ f ≤ 1000 := by
  intro f m
  obtain ⟨p, hp, e⟩ := List.mem_map.mp m
  subst e
  obtain ⟨m1, m2, m3⟩ := tgts_mem l 0 p hp
  obtain ⟨g1, g2⟩ := h.good _ m1
  have hz := szs_le h.a0 h.ab h.b10 l ls h.pos h.top
  have hl := szs_length a b l ls hc
  have hlen := h.len
  rw [pl_at hc g1 g2, pl_at hc (by omega) (by omega)]
  have q1 := sum_le _ p.2.toNat hz
  have q2 := sum_le _ (p.1 + 1).toNat hz
  rw [hl] at q1 q2
  omega
theorem step_bd {l : List It} {a b r t : Int} (h : OkL l a b) {T : Told} (hT : T.length = cnt l) (hB : Bd 1000 T) (h0 : 0 ≤ t) (h1 : t ≤ 1000) : Bd 1000 (step a b r l t T) := by
  intro p m
  obtain ⟨⟨o, f⟩, mz, e⟩ := List.mem_map.mp m
  obtain ⟨mo, mf⟩ := List.of_mem_zip mz
  have hf := dist_bd h (by rw [lens_length, hT]) f mf
  unfold stp at e
  split at e
  · cases e
    exact ⟨h0, h1, hf.1, hf.2⟩
  · exact hB p (by rw [← e]; exact mo)
theorem fixR_bd {l : List It} {a b r : Int} (h : OkL l a b) : ∀ (n : Nat) (t : Int) (T : Told), T.length = cnt l → Bd 1000 T → 0 ≤ t → t + n ≤ 1000 → Bd 1000 (fixR a b r l n t T)
  | 0, _, _, _, hB, _, _ => hB
  | n + 1, t, T, hT, hB, h0, h1 => by
    rw [fixR]
    exact fixR_bd h n (t + 1) _ (step_length hT) (step_bd h hT hB h0 (by omega)) (by omega) (by omega)
theorem R_bd {l : List It} {a b : Int} (r : Int) (h : OkL l a b) : Bd 1000 (R a b r l) := by
  have hcl := cnt_le l
  have hlen := h.len
  refine fixR_bd h _ _ _ (by rw [told0, List.length_replicate]) (fun p m => ?_) (Int.le_refl _) (by omega)
  rw [told0, List.mem_replicate] at m
  cases m.2
theorem log_small {x : Int} (h0 : -100000 ≤ x) (h1 : x ≤ 100000) : x.natAbs.log2 < 1920 := by
  by_cases hz : x.natAbs = 0
  · rw [hz]; decide
  · rw [Nat.log2_lt hz]
    exact Nat.lt_of_le_of_lt (by omega : x.natAbs ≤ 2 ^ 17) (Nat.pow_lt_pow_right (by decide) (by decide))
/-! ### the data shown -/
theorem nice_tI {ls : List Int} (h : ∀ x ∈ ls, -100000 ≤ x ∧ x ≤ 100000) (hl : ls.length ≤ 1000) : Nice 1 2000000 (tI ls) :=
  (nice_tupM (f := D.int) fun x m => nice_int (log_small (h x m).1 (h x m).2)).mono (Nat.le_refl _) (by
    have := Nat.mul_le_mul_right (1921 + 2) hl
    omega)
theorem bits_small {ls : List Int} (h : Bits ls) : ∀ x ∈ ls, -100000 ≤ x ∧ x ≤ 100000 := fun x m => by rcases h x m with e | e <;> subst e <;> decide
theorem nice_rD {p : Option (Int × Int)} (h : ∀ q, p = some q → -100000 ≤ q.1 ∧ q.1 ≤ 100000 ∧ -100000 ≤ q.2 ∧ q.2 ≤ 100000) : Nice 1 4000 (rD p) := by
  cases p with
  | none => exact nice_non.mono (Nat.zero_le _) (by decide)
  | some q =>
    obtain ⟨h1, h2, h3, h4⟩ := h q rfl
    refine (nice_tup (ds := [.int q.1, .int q.2]) (n := 0) (w := 1921) fun d m => ?_).mono (Nat.le_refl _) (by show 2 * (1921 + 2) + 3 ≤ 4000; decide)
    simp at m
    rcases m with m | m <;> subst m
    · exact nice_int (log_small h1 h2)
    · exact nice_int (log_small h3 h4)
theorem nice_told {T : Told} (h : Bd 1000 T) (hl : T.length ≤ 500) : Nice 2 2100000 (.tup (T.map rD)) :=
  (nice_tupM (f := rD) fun o m => nice_rD fun q e => by
    subst e
    obtain ⟨h1, h2, h3, h4⟩ := h q m
    omega).mono (Nat.le_refl _) (by
    have := Nat.mul_le_mul_right (4000 + 2) hl
    omega)
theorem nice_bls (f : List Bool) (hl : f.length ≤ 1000) (o : Bool) : Nice 1 2000000 (.lst o (f.map D.bl)) :=
  (nice_lstM (f := D.bl) o fun x _ => nice_bl x).mono (Nat.le_refl _) (by
    have := Nat.mul_le_mul_right (5 + 2) hl
    omega)
theorem alike_call {f g : Ev → Option (D × Ev)} {E E1 E2 : Ev} {d1 d2 : D} (hf : f E = some (d1, E1)) (hg : g E1 = some (d2, E2)) (hA : g__law_alike [d1, d2] = some (.bl true, [d1, d2])) : eCall g__law_alike (xVal f (xVal g xNil)) E = some (.bl true, E2) := by
  rw [eCall_of (xVal_of hf (xVal_of hg rfl)) (E2 := E2) (ds := [d1, d2]) rfl hA]
  rfl
theorem alike_two {l : List It} {a b : Int} (r : Int) (h : OkL l a b) : g__law_alike [.lst true [tI (least a b r l), .tup ((R a b r l).map rD)], .lst true [tI (least a b r l), .tup ((R a b r l).map rD)]] = some (.bl true, [.lst true [tI (least a b r l), .tup ((R a b r l).map rD)], .lst true [tI (least a b r l), .tup ((R a b r l).map rD)]]) := by
  have hcl := cnt_le l
  have hlen := h.len
  have n : Nice 3 4300000 (.lst true [tI (least a b r l), .tup ((R a b r l).map rD)]) := by
    refine (nice_lst (n := 2) (w := 2100000) true fun d m => ?_).mono (Nat.le_refl _) (by show 2 * (2100000 + 2) + 3 ≤ 4300000; decide)
    simp at m
    rcases m with m | m <;> subst m
    · exact (nice_tI (bits_small (lens_bits _)) (by show (least a b r l).length ≤ 1000; rw [least_length]; omega)).mono (by decide) (by decide)
    · exact nice_told (R_bd r h) (by rw [R_length]; omega)
  exact alike_ok n n (by decide) (by decide) rfl
theorem alike_bls (f : List Bool) (hl : f.length ≤ 1000) : g__law_alike [.lst true (f.map .bl), .lst true (f.map .bl)] = some (.bl true, [.lst true (f.map .bl), .lst true (f.map .bl)]) :=
  alike_ok (nice_bls f hl true) (nice_bls f hl true) (by decide) (by decide) rfl
theorem alike_bl (k : Bool) : g__law_alike [.bl k, .bl k] = some (.bl true, [.bl k, .bl k]) := alike_ok (nice_bl k) (nice_bl k) (by decide) (by decide) rfl
/-! ### things shown as lengths -/
def resSc (a b r : Int) (l : List It) (es : List Sc) : Bool := (decide (es.length = cnt l) && es.all Sc.bit) && isRight a b r l (es.map fun s => match s with | .i n => n | .b _ => 0)
theorem sc_of_bits : ∀ {es : List Sc}, es.all Sc.bit = true → es = (es.map fun s => match s with | .i n => n | .b _ => 0).map Sc.i ∧ Bits (es.map fun s => match s with | .i n => n | .b _ => 0)
  | [], _ => ⟨rfl, fun _ m => by cases m⟩
  | .b k :: es, h => by simp [Sc.bit] at h
  | .i n :: es, h => by
    rw [List.all_cons, Bool.and_eq_true] at h
    obtain ⟨h1, h2⟩ := sc_of_bits h.2
    refine ⟨?_, fun x m => ?_⟩
    · rw [List.map_cons, List.map_cons, ← h1]
    · rw [List.map_cons] at m
      rcases List.mem_cons.mp m with e | m
      · subst e
        have := h.1
        simp [Sc.bit] at this
        exact this
      · exact h2 x m
theorem are_right_sc {l : List It} {a b r : Int} {es : List Sc} (hl : l.length ≤ 1000) (hg : Good l.length l) (he : es.length ≤ 5000) : g_are_right [lineD l, szD a b r, .tup (es.map Sc.d)] = some (.bl (resSc a b r l es), [lineD l, szD a b r, .tup (es.map Sc.d)]) := by
  cases hv : decide (es.length = cnt l) && es.all Sc.bit with
  | false =>
    have q := are_lengths_tup hl he (es := es)
    rw [hv] at q
    unfold resSc
    rw [hv, Bool.false_and]
    exact are_right_bad q
  | true =>
    rw [Bool.and_eq_true, decide_eq_true_eq] at hv
    obtain ⟨e1, e2⟩ := sc_of_bits hv.2
    have q := are_right_ok (a := a) (b := b) (r := r) hl hg (by rw [List.length_map]; exact hv.1) e2
    have eD : (.tup (es.map Sc.d) : D) = tI (es.map fun s => match s with | .i n => n | .b _ => 0) := by
      show D.tup (es.map Sc.d) = .tup (List.map D.int _)
      rw [← tI_sc, ← e1]
    rw [eD, q]
    unfold resSc
    rw [decide_eq_true hv.1, hv.2]; rfl
theorem law_is_right_sc {l : List It} {a b r : Int} {es : List Sc} (hl : l.length ≤ 1000) (hg : Good l.length l) (he : es.length ≤ 5000) : g__law_is_right [lineD l, szD a b r, .tup (es.map Sc.d)] = some (.bl (resSc a b r l es), [lineD l, szD a b r, .tup (es.map Sc.d)]) := by
  cases hv : decide (es.length = cnt l) && es.all Sc.bit with
  | false =>
    unfold resSc
    rw [hv, Bool.false_and]
    exact law_is_right_tup hl he hv
  | true =>
    rw [Bool.and_eq_true, decide_eq_true_eq] at hv
    obtain ⟨e1, e2⟩ := sc_of_bits hv.2
    have q := law_is_right_ok (a := a) (b := b) (r := r) hl hg (by rw [List.length_map]; exact hv.1) e2
    have eD : (.tup (es.map Sc.d) : D) = tI (es.map fun s => match s with | .i n => n | .b _ => 0) := by
      show D.tup (es.map Sc.d) = .tup (List.map D.int _)
      rw [← tI_sc, ← e1]
    rw [eD, q]
    unfold resSc
    rw [decide_eq_true hv.1, hv.2]; rfl
inductive Oth where
  | s (es : List Sc) | li (ls : List Int) | no
def Oth.d : Oth → D
  | .s es => .tup (es.map Sc.d)
  | .li ls => .lst false (ls.map .int)
  | .no => .non
theorem Oth.fz (o : Oth) : isFz o.d = true := by
  cases o with
  | s es => exact isFzL_map Sc.d Sc.fz es
  | li ls =>
    show (!false && isFzL (ls.map D.int)) = true
    rw [fz_ints]; rfl
  | no => rfl
def Oth.res (a b r : Int) (l : List It) : Oth → Bool
  | .s es => resSc a b r l es
  | _ => false
def Oth.ok : Oth → Prop
  | .s es => es.length ≤ 5000
  | _ => True
theorem oth_are {l : List It} {a b r : Int} (hl : l.length ≤ 1000) (hg : Good l.length l) (o : Oth) (ho : o.ok) : g_are_right [lineD l, szD a b r, o.d] = some (.bl (o.res a b r l), [lineD l, szD a b r, o.d]) := by
  cases o with
  | s es => exact are_right_sc hl hg ho
  | li ls => exact are_right_bad (are_lengths_non (t := "list") rfl rfl)
  | no => exact are_right_bad (are_lengths_non (t := "NoneType") rfl rfl)
theorem oth_law {l : List It} {a b r : Int} (hl : l.length ≤ 1000) (hg : Good l.length l) (o : Oth) (ho : o.ok) : g__law_is_right [lineD l, szD a b r, o.d] = some (.bl (o.res a b r l), [lineD l, szD a b r, o.d]) := by
  cases o with
  | s es => exact law_is_right_sc hl hg ho
  | li ls => exact law_is_right_non hl (t := "list") rfl rfl
  | no => exact law_is_right_non hl (t := "NoneType") rfl rfl
end K19

namespace K19
open PySem Dm
/-! ### one turn of the law -/
theorem lens_small (T : Told) : ∀ x ∈ lens T, -100000 ≤ x ∧ x ≤ 100000 := bits_small (lens_bits T)
theorem rows_call {l : List It} {a b r : Int} {E : Ev} {i : Nat} {d : D} {v : Bool} (h3 : E[3]? = some (some (lineD l))) (h5 : E[5]? = some (some (szD a b r))) (hi : E[i]? = some (some d)) (hn : i ≠ 3 ∧ i ≠ 5) {g : Fs} (hg : g [lineD l, szD a b r, d] = some (.bl v, [lineD l, szD a b r, d])) :
    eCall g (xSlot 3 (xSlot 5 (xSlot i xNil))) E = some (.bl v, E) :=
  eCall_same (as := [.inl 3, .inl 5, .inl i]) (xSlot_of h3 (xSlot_of h5 (xSlot_of hi rfl))) (.slot h3 (.slot h5 (.slot hi .nil))) (by
    show [3, 5, i].Nodup
    have h1 := hn.1
    have h2 := hn.2
    simp
    omega) hg
/-- the thing is bent up to twice and checked -/
theorem goodTh.mono {B C : Int} {n m : Nat} {th : Th} (h : goodTh B n th) (hB : B ≤ C) (hn : n ≤ m) : goodTh C m th := by
  cases th with
  | v T => exact ⟨h.1.mono hB, Nat.le_trans h.2 hn⟩
  | l T => exact ⟨h.1.mono hB, Nat.le_trans h.2 hn⟩
  | n => trivial
  | w T1 T2 => exact ⟨h.1.mono hB, h.2.1.mono hB, Nat.le_trans h.2.2 hn⟩
def resTh (a b r : Int) (l : List It) : Th → Bool
  | .v T => decide (T.length = cnt l) && validT a b r l T
  | _ => false
theorem th_are {l : List It} {a b r B : Int} {n : Nat} {th : Th} (hl : l.length ≤ 1000) (hg : Good l.length l) (h : goodTh B n th) (hn : n ≤ 900) : g_are_reasons [lineD l, szD a b r, th.d] = some (.bl (resTh a b r l th), [lineD l, szD a b r, th.d]) := by
  cases th with
  | v T => exact are_reasons_v hl hg h.1 (by have := h.2; omega)
  | l T => exact are_reasons_non (t := "list") rfl rfl
  | n => exact are_reasons_non (t := "NoneType") rfl rfl
  | w T1 T2 => exact are_reasons_w hl (by
      have := h.2.2
      show (T1.map some ++ none :: T2.map some).length ≤ 5000
      simp
      omega)
theorem th_law {l : List It} {a b r B : Int} {n : Nat} {th : Th} (hl : l.length ≤ 1000) (hg : Good l.length l) (h : goodTh B n th) (hB : B ≤ B60) (hn : n ≤ 900) : g__law_are_reasons [lineD l, szD a b r, th.d] = some (.bl (resTh a b r l th), [lineD l, szD a b r, th.d]) := by
  cases th with
  | v T => exact law_are_reasons_v hl hg h.1 hB (by have := h.2; omega)
  | l T => exact law_are_reasons_non hl (t := "list") rfl rfl
  | n => exact law_are_reasons_non hl (t := "NoneType") rfl rfl
  | w T1 T2 => exact law_are_reasons_w hl h.1 h.2.1 hB (by
      have := h.2.2
      show (T1.map some ++ none :: T2.map some).length ≤ 5000
      simp
      omega)
theorem th_fz' (th : Th) : isFz th.d = true := by
  cases th with
  | v T => exact isFzL_map rD rD_fz T
  | l T =>
    show (!false && isFzL (T.map rD)) = true
    rw [isFzL_map rD rD_fz]; rfl
  | n => rfl
  | w T1 T2 =>
    rw [es_w]
    exact isFzL_map En.d En.fz _
theorem b60_big : (1000000 : Int) ≤ B60 := by unfold B60; decide
/-- one lap of the bending -/
theorem bend_turn {l : List It} {a b r B : Int} {n : Nat} {th : Th} {cs : List Int} {lk : Lks} (h13 : lk 13 = false) (hc : cs.length ≤ 1000) (hl : l.length ≤ 1000) (hg : Good l.length l) (hth : goodTh B n th) (h0 : 3 ≤ B) (hB : B ≤ B60) (hn : n ≤ 900) (x y z : Int) (s e2 e4 e6 e7 e8 e9 e10 e11 e12 e14 e15 e16 e17 e18 : Option D) :
    ∃ x' y' z' th', goodTh (2 * B + 3) (n + 1) th' ∧ l_law_2 lk [s, some (bagD x y z cs), e2, some (lineD l), e4, some (szD a b r), e6, e7, e8, e9, e10, e11, e12, some th.d, e14, e15, e16, e17, e18]
      = some (.nx [s, some (bagD x' y' z' cs), e2, some (lineD l), e4, some (szD a b r), e6, e7, e8, e9, e10, e11, e12, some th'.d, e14, e15, e16, e17, e18]) := by
  have q1 := rows_call (E := [s, some (bagD x y z cs), e2, some (lineD l), e4, some (szD a b r), e6, e7, e8, e9, e10, e11, e12, some th.d, e14, e15, e16, e17, e18]) (i := 13) rfl rfl rfl (by decide) (th_law (a := a) (b := b) (r := r) hl hg hth hB hn)
  have keep : ∀ c : Bool, (dAnd (tOfQ (tqf (q1L opIsi (qCons (qVar 13) (qCons (qC (.ty "tuple")) qNil))))) (tdf (eCall g__law_are_reasons (xSlot 3 (xSlot 5 (xSlot 13 xNil)))))) [s, some (bagD x y z cs), e2, some (lineD l), e4, some (szD a b r), e6, e7, e8, e9, e10, e11, e12, some th.d, e14, e15, e16, e17, e18] = some (false, [s, some (bagD x y z cs), e2, some (lineD l), e4, some (szD a b r), e6, e7, e8, e9, e10, e11, e12, some th.d, e14, e15, e16, e17, e18]) →
      ∃ x' y' z' th', goodTh (2 * B + 3) (n + 1) th' ∧ l_law_2 lk [s, some (bagD x y z cs), e2, some (lineD l), e4, some (szD a b r), e6, e7, e8, e9, e10, e11, e12, some th.d, e14, e15, e16, e17, e18]
      = some (.nx [s, some (bagD x' y' z' cs), e2, some (lineD l), e4, some (szD a b r), e6, e7, e8, e9, e10, e11, e12, some th'.d, e14, e15, e16, e17, e18]) := fun _ c => by
    refine ⟨x, y, z, th, hth.mono (by omega) (Nat.le_succ _), ?_⟩
    exact sAsg_of (lk := lk) (ts := [13]) (g := gdName 13) (by show (!lk 13 && true) = true; rw [h13]; rfl) (eIf_f c (eVar_fz rfl (th_fz' th))) rfl
  cases th with
  | l T => exact keep true (dAnd_f rfl)
  | n => exact keep true (dAnd_f rfl)
  | w T1 T2 => exact keep true (dAnd_t (E1 := [s, some (bagD x y z cs), e2, some (lineD l), e4, some (szD a b r), e6, e7, e8, e9, e10, e11, e12, some (Th.w T1 T2).d, e14, e15, e16, e17, e18]) rfl (tdf_of q1))
  | v T =>
    cases hv : resTh a b r l (.v T) with
    | false =>
      rw [hv] at q1
      exact keep true (dAnd_t (E1 := [s, some (bagD x y z cs), e2, some (lineD l), e4, some (szD a b r), e6, e7, e8, e9, e10, e11, e12, some (Th.v T).d, e14, e15, e16, e17, e18]) rfl (tdf_of q1))
    | true =>
      rw [hv] at q1
      obtain ⟨x', y', z', th', g', q⟩ := bent_ok x y z hc hth.1 h0 (by have := hth.2; omega)
      refine ⟨x', y', z', th', g'.mono (Int.le_refl _) (by have := hth.2; omega), ?_⟩
      have qc : eCall g__law_bent_reasons (xSlot 1 (xSlot 13 xNil)) [s, some (bagD x y z cs), e2, some (lineD l), e4, some (szD a b r), e6, e7, e8, e9, e10, e11, e12, some (Th.v T).d, e14, e15, e16, e17, e18] = some (th'.d, [s, some (bagD x' y' z' cs), e2, some (lineD l), e4, some (szD a b r), e6, e7, e8, e9, e10, e11, e12, some (Th.v T).d, e14, e15, e16, e17, e18]) := by
        have fz : isFz (Th.v T).d = true := th_fz' (.v T)
        rw [eCall_of (as := [.inl 1, .inl 13]) (ds := [bagD x y z cs, (Th.v T).d]) (E2 := [s, none, e2, some (lineD l), e4, some (szD a b r), e6, e7, e8, e9, e10, e11, e12, some (Th.v T).d, e14, e15, e16, e17, e18]) rfl ?_ q]
        · rfl
        · have g13 : gather [.inl 13] [s, none, e2, some (lineD l), e4, some (szD a b r), e6, e7, e8, e9, e10, e11, e12, some (Th.v T).d, e14, e15, e16, e17, e18] = some ([(Th.v T).d], [s, none, e2, some (lineD l), e4, some (szD a b r), e6, e7, e8, e9, e10, e11, e12, some (Th.v T).d, e14, e15, e16, e17, e18]) := by
            show (if isFz (Th.v T).d = true then some ([(Th.v T).d], _) else _) = _
            rw [if_pos fz]
          show (match gather [.inl 13] [s, none, e2, some (lineD l), e4, some (szD a b r), e6, e7, e8, e9, e10, e11, e12, some (Th.v T).d, e14, e15, e16, e17, e18] with | some (ds, E') => some (bagD x y z cs :: ds, E') | none => none) = _
          rw [g13]
      exact sAsg_of (lk := lk) (ts := [13]) (g := gdName 13) (by show (!lk 13 && true) = true; rw [h13]; rfl) (eIf_t (dAnd_t (E1 := [s, some (bagD x y z cs), e2, some (lineD l), e4, some (szD a b r), e6, e7, e8, e9, e10, e11, e12, some (Th.v T).d, e14, e15, e16, e17, e18]) rfl (tdf_of q1)) qc) rfl
theorem bend_loop {l : List It} {a b r : Int} {cs : List Int} {lk : Lks} (h13 : lk 13 = false) (hc : cs.length ≤ 1000) (hl : l.length ≤ 1000) (hg : Good l.length l) (s e2 e4 e6 e7 e8 e9 e10 e11 e12 e15 e16 e17 e18 : Option D) :
    ∀ (is : List Nat) (B : Int) (n : Nat) (th : Th) (x y z : Int) (e14 : Option D), goodTh B n th → 3 ≤ B → (B + 3) * 2 ^ is.length ≤ 1000000 → n + is.length ≤ 900 →
      ∃ x' y' z' th' f14 C m, goodTh C m th' ∧ C ≤ 1000000 ∧ m ≤ 900 ∧ forL (gdName 14) (l_law_2 lk) (is.map iD) [s, some (bagD x y z cs), e2, some (lineD l), e4, some (szD a b r), e6, e7, e8, e9, e10, e11, e12, some th.d, e14, e15, e16, e17, e18]
        = some (.nx [s, some (bagD x' y' z' cs), e2, some (lineD l), e4, some (szD a b r), e6, e7, e8, e9, e10, e11, e12, some th'.d, f14, e15, e16, e17, e18])
  | [], B, n, th, x, y, z, e14, h, h0, hB, hn => by
    refine ⟨x, y, z, th, e14, B, n, h, ?_, by simpa using hn, rfl⟩
    simp at hB
    omega
  | i :: is, B, n, th, x, y, z, e14, h, h0, hB, hn => by
    have hp : (1 : Int) ≤ 2 ^ is.length := by
      have := Nat.one_le_two_pow (n := is.length)
      exact_mod_cast this
    have hB' : B ≤ B60 := by
      rw [List.length_cons, Int.pow_succ] at hB
      have h1 : B + 3 ≤ (B + 3) * (2 ^ is.length * 2) := by
        have := Int.mul_le_mul_of_nonneg_left (show (1 : Int) ≤ 2 ^ is.length * 2 by omega) (show (0 : Int) ≤ B + 3 by omega)
        omega
      have := b60_big
      omega
    obtain ⟨x1, y1, z1, th1, g1, q1⟩ := bend_turn (l := l) (a := a) (b := b) (r := r) (lk := lk) h13 hc hl hg h h0 hB' (by omega) x y z s e2 e4 e6 e7 e8 e9 e10 e11 e12 (some (iD i)) e15 e16 e17 e18
    obtain ⟨x2, y2, z2, th2, f14, C, m, g2, hC, hm, q2⟩ := bend_loop h13 hc hl hg s e2 e4 e6 e7 e8 e9 e10 e11 e12 e15 e16 e17 e18 is (2 * B + 3) (n + 1) th1 x1 y1 z1 (some (iD i)) g1 (by omega) (by
      rw [List.length_cons, Int.pow_succ] at hB
      have e : (2 * B + 3 + 3) * 2 ^ is.length = (B + 3) * (2 ^ is.length * 2) := by
        rw [Int.mul_comm (2 ^ is.length) 2, ← Int.mul_assoc]
        congr 1
        omega
      omega) (by simp at hn ⊢; omega)
    refine ⟨x2, y2, z2, th2, f14, C, m, g2, hC, hm, ?_⟩
    rw [List.map_cons, forL]
    show (match l_law_2 lk [s, some (bagD x y z cs), e2, some (lineD l), e4, some (szD a b r), e6, e7, e8, e9, e10, e11, e12, some th.d, some (iD i), e15, e16, e17, e18] with | some (.nx E2) => forL (gdName 14) (l_law_2 lk) (is.map iD) E2 | some (.ct E2) => _ | some (.bk E2) => _ | some (.ret d E2) => _ | none => _) = _
    rw [q1]
    exact q2
end K19

namespace K19
open PySem Dm
theorem again_turn {l : List It} {a b r : Int} {cs : List Int} {lk : Lks} (h13 : lk 13 = false) (h14 : lk 14 = false) (hc : cs.length ≤ 1000) (h : OkL l a b) (x y z : Int) (s e2 e4 e6 e8 e9 e10 e11 e12 e13 e14 e15 e16 e17 e18 : Option D) :
    ∃ x' y' z' f13 f14, l_law_3 lk [s, some (bagD x y z cs), e2, some (lineD l), e4, some (szD a b r), e6, some (Th.v (R a b r l)).d, e8, e9, e10, e11, e12, e13, e14, e15, e16, e17, e18]
      = some (.nx [s, some (bagD x' y' z' cs), e2, some (lineD l), e4, some (szD a b r), e6, some (Th.v (R a b r l)).d, e8, e9, e10, e11, e12, f13, f14, e15, e16, e17, e18]) := by
  have hl : l.length ≤ 1000 := Nat.le_trans h.len (by decide)
  have hcl := cnt_le l
  have hlen := h.len
  have p1 := sAsg_of (lk := lk) (ts := [13]) (g := gdName 13) (E2 := [s, some (bagD x y z cs), e2, some (lineD l), e4, some (szD a b r), e6, some (Th.v (R a b r l)).d, e8, e9, e10, e11, e12, some (Th.v (R a b r l)).d, e14, e15, e16, e17, e18]) (by show (!lk 13 && true) = true; rw [h13]; rfl) (eVar_fz (i := 7) (E := [s, some (bagD x y z cs), e2, some (lineD l), e4, some (szD a b r), e6, some (Th.v (R a b r l)).d, e8, e9, e10, e11, e12, e13, e14, e15, e16, e17, e18]) rfl (th_fz' (.v (R a b r l)))) rfl
  obtain ⟨x1, y1, z1, v, v0, v1, q1⟩ := call_take (E := [s, some (bagD x y z cs), e2, some (lineD l), e4, some (szD a b r), e6, some (Th.v (R a b r l)).d, e8, e9, e10, e11, e12, some (Th.v (R a b r l)).d, e14, e15, e16, e17, e18]) (i := 1) (f := eOf (qC (.int 3))) (n := 3) hc rfl rfl (by decide) (by decide)
  obtain ⟨j, rfl⟩ : ∃ j : Nat, v = j := ⟨v.toNat, by omega⟩
  have hj : j ≤ 2 := by omega
  have hp : (2 : Int) ^ j ≤ 4 := by
    have : j = 0 ∨ j = 1 ∨ j = 2 := by omega
    rcases this with e | e | e <;> subst e <;> decide
  obtain ⟨x2, y2, z2, th, f14, C, m, g, hC, hm, q2⟩ := bend_loop (l := l) (a := a) (b := b) (r := r) (lk := lk) h13 hc hl h.good s e2 e4 e6 (some (Th.v (R a b r l)).d) e8 e9 e10 e11 e12 e15 e16 e17 e18 (List.range j) 1000 100 (.v (R a b r l)) x1 y1 z1 e14 ⟨R_bd r h, by rw [R_length]; omega⟩ (by decide) (by rw [List.length_range]; omega) (by rw [List.length_range]; omega)
  have p2 := sFor_of (lk := lk) (ts := [14]) (by show (!lk 14 && true) = true; rw [h14]; rfl) (range_of (n := j) (eCons_of (g := eNil) q1 rfl) (by omega)) q2
  have c1 := rows_call (E := [s, some (bagD x2 y2 z2 cs), e2, some (lineD l), e4, some (szD a b r), e6, some (Th.v (R a b r l)).d, e8, e9, e10, e11, e12, some th.d, f14, e15, e16, e17, e18]) (i := 13) rfl rfl rfl (by decide) (th_are (a := a) (b := b) (r := r) hl h.good g hm)
  have c2 := rows_call (E := [s, some (bagD x2 y2 z2 cs), e2, some (lineD l), e4, some (szD a b r), e6, some (Th.v (R a b r l)).d, e8, e9, e10, e11, e12, some th.d, f14, e15, e16, e17, e18]) (i := 13) rfl rfl rfl (by decide) (th_law (a := a) (b := b) (r := r) hl h.good g (Int.le_trans hC b60_big) hm)
  have p3 := sIf_f (g1 := sRet (eOf (qC (.bl false)))) (g2 := sNil) (dNot_of (b := true) (tdf_of (alike_call c1 c2 (alike_bl _)))) rfl
  exact ⟨x2, y2, z2, some th.d, f14, sSeq_nx p1 (sSeq_nx p2 p3)⟩
theorem again_loop {l : List It} {a b r : Int} {cs : List Int} {lk : Lks} (h13 : lk 13 = false) (h14 : lk 14 = false) (hc : cs.length ≤ 1000) (h : OkL l a b) (s e2 e4 e6 e8 e9 e10 e11 e15 e16 e17 e18 : Option D) : ∀ (is : List Nat) (x y z : Int) (e12 e13 e14 : Option D),
    ∃ x' y' z' f12 f13 f14, forL (gdName 12) (l_law_3 lk) (is.map iD) [s, some (bagD x y z cs), e2, some (lineD l), e4, some (szD a b r), e6, some (Th.v (R a b r l)).d, e8, e9, e10, e11, e12, e13, e14, e15, e16, e17, e18]
      = some (.nx [s, some (bagD x' y' z' cs), e2, some (lineD l), e4, some (szD a b r), e6, some (Th.v (R a b r l)).d, e8, e9, e10, e11, f12, f13, f14, e15, e16, e17, e18])
  | [], x, y, z, e12, e13, e14 => ⟨x, y, z, e12, e13, e14, rfl⟩
  | i :: is, x, y, z, e12, e13, e14 => by
    obtain ⟨x1, y1, z1, f13, f14, q1⟩ := again_turn (l := l) (a := a) (b := b) (r := r) (lk := lk) h13 h14 hc h x y z s e2 e4 e6 e8 e9 e10 e11 (some (iD i)) e13 e14 e15 e16 e17 e18
    obtain ⟨x2, y2, z2, g12, g13, g14, q2⟩ := again_loop h13 h14 hc h s e2 e4 e6 e8 e9 e10 e11 e15 e16 e17 e18 is x1 y1 z1 (some (iD i)) f13 f14
    refine ⟨x2, y2, z2, g12, g13, g14, ?_⟩
    rw [List.map_cons, forL]
    show (match l_law_3 lk [s, some (bagD x y z cs), e2, some (lineD l), e4, some (szD a b r), e6, some (Th.v (R a b r l)).d, e8, e9, e10, e11, some (iD i), e13, e14, e15, e16, e17, e18] with | some (.nx E2) => forL (gdName 12) (l_law_3 lk) (is.map iD) E2 | some (.ct E2) => _ | some (.bk E2) => _ | some (.ret d E2) => _ | none => _) = _
    rw [q1]
    exact q2
/-! the least of the right ones -/
theorem ix_tup {xs : List Int} {i : Nat} (h : i < xs.length) : opIx (tI xs) (iD i) = some (.int (at' xs (i : Nat))) := ix_iD (o := true) h
theorem min_ok {l : List It} {a b r : Int} {rows : List (List Int)} (h : OkL l a b) (hrows : ∀ ls ∈ rows, ls.length = cnt l ∧ Bits ls ∧ isRight a b r l ls = true) (hm : least a b r l ∈ rows) {k : Nat} (hk : k < cnt l) {o : Option (Int × Int)} (ho : (R a b r l)[k]? = some o) :
    ∃ m, (rows.map fun ls => at' ls (k : Nat)).min? = some m ∧ (m == 1) = !o.isNone := by
  have hx : at' (least a b r l) (k : Nat) = b01 (!o.isNone) := by
    refine at_get ?_
    show ((R a b r l).map fun o => b01 (!o.isNone))[k]? = _
    rw [List.getElem?_map, ho]; rfl
  have mem : b01 (!o.isNone) ∈ rows.map fun ls => at' ls (k : Nat) := List.mem_map.mpr ⟨_, hm, hx⟩
  cases hmin : (rows.map fun ls => at' ls (k : Nat)).min? with
  | none =>
    rw [List.min?_eq_none_iff] at hmin
    rw [hmin] at mem
    cases mem
  | some m =>
    obtain ⟨m1, m2⟩ := List.min?_eq_some_iff.mp hmin
    refine ⟨m, rfl, ?_⟩
    obtain ⟨ls, hls, e⟩ := List.mem_map.mp m1
    obtain ⟨h1, h2, h3⟩ := hrows ls hls
    have hlk : ls[k]? = some ls[k] := List.getElem?_eq_getElem (by omega)
    have e' : m = ls[k] := by rw [← e]; exact at_get hlk
    have hb := h2 ls[k] (List.getElem_mem _)
    cases o with
    | none =>
      have := m2 _ mem
      have hz : b01 (!(none : Option (Int × Int)).isNone) = 0 := rfl
      rw [hz] at this
      have : m = 0 := by
        rcases hb with q | q
        · rw [e', q]
        · rw [e', q] at this; omega
      rw [this]; rfl
    | some p =>
      have le := (LeL.get.mp (least_le (r := r) h.a0 h.ab h.pos h.good h2 h1 h3)).2 k (lens_one.mpr ⟨p, ho⟩)
      rw [hlk] at le
      have : m = 1 := by rw [e']; exact Option.some.inj le
      rw [this]; rfl
theorem k_turn {l : List It} {a b r : Int} {rows : List (List Int)} {lk : Lks} (h : OkL l a b) (hlr : rows.length ≤ 1000) (hrows : ∀ ls ∈ rows, ls.length = cnt l ∧ Bits ls ∧ isRight a b r l ls = true) (hm : least a b r l ∈ rows) {k : Nat} (hk : k < cnt l) (e0 e1 e2 e3 e4 e5 e6 e8 e11 e12 e13 e14 e15 e16 e18 : Option D) :
    l_law_1 lk [e0, e1, e2, e3, e4, e5, e6, some (Th.v (R a b r l)).d, e8, some (.lst true (rows.map tI)), some (iD k), e11, e12, e13, e14, e15, e16, none, e18]
      = some (.nx [e0, e1, e2, e3, e4, e5, e6, some (Th.v (R a b r l)).d, e8, some (.lst true (rows.map tI)), some (iD k), e11, e12, e13, e14, e15, e16, none, e18]) := by
  have hkl : k < (R a b r l).length := by rw [R_length]; exact hk
  obtain ⟨o, hR⟩ : ∃ o, (R a b r l)[k]? = some o := ⟨_, List.getElem?_eq_getElem hkl⟩
  obtain ⟨m, hmin, hm1⟩ := min_ok h hrows hm hk hR
  have q := eCompQ_all (own := [17]) (i := 9) (g := gdName 17) (el := eOf (q2f opIx (qVar 17) (qVar 10))) tI (fun ls => .int (at' ls (k : Nat))) rows (E := [e0, e1, e2, e3, e4, e5, e6, some (Th.v (R a b r l)).d, e8, some (.lst true (rows.map tI)), some (iD k), e11, e12, e13, e14, e15, e16, none, e18]) rfl (.inl rfl) fz_tI rfl rfl rfl rfl (by omega) fun ls mls =>
    ⟨[e0, e1, e2, e3, e4, e5, e6, some (Th.v (R a b r l)).d, e8, some (.lst true (rows.map tI)), some (iD k), e11, e12, e13, e14, e15, e16, some (tI ls), e18], [e0, e1, e2, e3, e4, e5, e6, some (Th.v (R a b r l)).d, e8, some (.lst true (rows.map tI)), some (iD k), e11, e12, e13, e14, e15, e16, some (tI ls), e18], rfl, eOf_of (q2f_of rfl rfl (ix_tup (by rw [(hrows ls mls).1]; exact hk))) rfl, rfl⟩
  have eN : rows.map (fun ls => D.int (at' ls (k : Nat))) = (rows.map fun ls => at' ls (k : Nat)).map .int := by rw [List.map_map]; rfl
  rw [eN] at q
  have mn : opMin [.lst true ((rows.map fun ls => at' ls (k : Nat)).map .int)] = some (.int m) := by
    unfold opMin
    show (match intsOf ((rows.map fun ls => at' ls (k : Nat)).map D.int) with | some ns => (match ns.min? with | some m => some (D.int m) | none => none) | none => none) = _
    rw [intsOf_map]
    show (match (rows.map fun ls => at' ls (k : Nat)).min? with | some m => some (D.int m) | none => none) = _
    rw [hmin]
  have i7 : opIx (Th.v (R a b r l)).d (iD k) = some (rD o) := by
    show L2.atI ((R a b r l).map rD) (0 + ((k : Nat) : Int)) = _
    rw [Int.zero_add]
    refine L2.atI_nat ?_
    rw [List.getElem?_map, hR]; rfl
  have ne : opNe (.bl (m == 1)) (.bl (!o.isNone)) = some (.bl false) := by
    rw [hm1]
    show some (D.bl (!((!o.isNone) == (!o.isNone)))) = _
    simp
  have c := tdf_of (e2f_of (op := opNe) (e2f_of (op := opEq) (e1L_of (eCons_of (g := eNil) q rfl) mn) (rfl : eOf (qC (.int 1)) _ = some (.int 1, _)) (eq_int m 1)) (eOf_of (f := q2f opIsNot (q2f opIx (qVar 7) (qVar 10)) (qC .non)) (q2f_of (q2f_of rfl rfl i7) rfl (opIsNot_rD _)) rfl) ne)
  exact sIf_f c rfl
theorem k_loop {l : List It} {a b r : Int} {rows : List (List Int)} {lk : Lks} (h : OkL l a b) (hlr : rows.length ≤ 1000) (hrows : ∀ ls ∈ rows, ls.length = cnt l ∧ Bits ls ∧ isRight a b r l ls = true) (hm : least a b r l ∈ rows) (e0 e1 e2 e3 e4 e5 e6 e8 e11 e12 e13 e14 e15 e16 e18 : Option D) : ∀ (is : List Nat) (e10 : Option D), FzO e10 → (∀ i ∈ is, i < cnt l) →
    ∃ f10, FzO f10 ∧ forL (gdName 10) (l_law_1 lk) (is.map iD) [e0, e1, e2, e3, e4, e5, e6, some (Th.v (R a b r l)).d, e8, some (.lst true (rows.map tI)), e10, e11, e12, e13, e14, e15, e16, none, e18]
      = some (.nx [e0, e1, e2, e3, e4, e5, e6, some (Th.v (R a b r l)).d, e8, some (.lst true (rows.map tI)), f10, e11, e12, e13, e14, e15, e16, none, e18])
  | [], e10, hz, _ => ⟨e10, hz, rfl⟩
  | i :: is, e10, hz, hi => by
    have q1 := k_turn (lk := lk) h hlr hrows hm (hi i List.mem_cons_self) e0 e1 e2 e3 e4 e5 e6 e8 e11 e12 e13 e14 e15 e16 e18
    obtain ⟨f10, hf, q2⟩ := k_loop (lk := lk) h hlr hrows hm e0 e1 e2 e3 e4 e5 e6 e8 e11 e12 e13 e14 e15 e16 e18 is (some (iD i)) (fun d e => by cases e; rfl) fun j m => hi j (List.mem_cons_of_mem _ m)
    refine ⟨f10, hf, ?_⟩
    rw [List.map_cons, forL]
    show (match l_law_1 lk [e0, e1, e2, e3, e4, e5, e6, some (Th.v (R a b r l)).d, e8, some (.lst true (rows.map tI)), some (iD i), e11, e12, e13, e14, e15, e16, none, e18] with | some (.nx E2) => forL (gdName 10) (l_law_1 lk) (is.map iD) E2 | some (.ct E2) => _ | some (.bk E2) => _ | some (.ret d E2) => _ | none => _) = _
    rw [q1]
    exact q2
end K19

namespace K19
open PySem Dm
theorem eVar_own {i : Nat} {E : Ev} {xs : List D} (h : E[i]? = some (some (.lst true xs))) : eVar i E = some (.lst false (frozL xs), E.set i (some (.lst false (frozL xs)))) := by
  have e : froz (.lst true xs) = .lst false (frozL xs) := by simp only [froz]
  unfold eVar
  rw [h]
  show (if isFz (.lst true xs) = true then some (D.lst true xs, E) else some (froz (.lst true xs), E.set i (some (froz (.lst true xs))))) = _
  rw [if_neg (by simp [isFz]), e]
theorem cut_mapG {α : Type} (f : α → D) (xs : List α) (lo hi : Option Int) : cutG (xs.map f) lo hi = (cutG xs lo hi).map f := by
  unfold cutG
  rw [List.length_map, ← List.map_drop, ← List.map_take]
theorem cutG_mem {α : Type} {xs : List α} {lo hi : Option Int} {x : α} (h : x ∈ cutG xs lo hi) : x ∈ xs := List.mem_of_mem_drop (List.mem_of_mem_take h)
theorem cutG_len {α : Type} (xs : List α) (lo hi : Option Int) : (cutG xs lo hi).length ≤ xs.length := by
  unfold cutG
  rw [List.length_take, List.length_drop]
  omega
theorem call_line {E : Ev} {x y z : Int} {cs : List Int} (hc : cs.length ≤ 1000) {i : Nat} (hb : E[i]? = some (some (bagD x y z cs))) :
    ∃ (x' y' z' : Int) (l : List It), 1 ≤ l.length ∧ l.length ≤ 9 ∧ (∀ it ∈ l, goodIt l.length it) ∧ eCall g__law_line (xSlot i xNil) E = some (lineD l, E.set i (some (bagD x' y' z' cs))) := by
  obtain ⟨x', y', z', l, h1, h2, h3, q⟩ := line_ok x y z hc
  refine ⟨x', y', z', l, h1, h2, h3, ?_⟩
  rw [eCall_of (xSlot_of hb rfl) (E2 := E.set i none) (ds := [bagD x y z cs]) ?_ q]
  · show some (lineD l, (E.set i none).set i (some (bagD x' y' z' cs))) = _
    rw [List.set_set]
  · unfold gather
    rw [hb]
    rfl
def rowsOf (a b r : Int) (l : List It) : List (List Int) := if cnt l < 6 then allb (cnt l) else [least a b r l]
theorem rowsOf_ok (a b r : Int) (l : List It) : ∀ ls ∈ rowsOf a b r l, ls.length = cnt l ∧ Bits ls := by
  intro ls m
  unfold rowsOf at m
  split at m
  · exact (allb_mem _ _).mp m
  · rw [List.mem_singleton] at m
    subst m
    exact ⟨least_length a b r l, lens_bits _⟩
theorem rowsOf_least (a b r : Int) (l : List It) : least a b r l ∈ rowsOf a b r l := by
  unfold rowsOf
  split
  · exact (allb_mem _ _).mpr ⟨least_length a b r l, lens_bits _⟩
  · exact List.mem_singleton.mpr rfl
theorem rowsOf_len (a b r : Int) (l : List It) : (rowsOf a b r l).length ≤ 32 := by
  unfold rowsOf
  split
  · rename_i h
    rw [allb_length]
    exact Nat.pow_le_pow_right (n := 2) (by decide) (show cnt l ≤ 5 by omega)
  · exact Nat.le_of_ble_eq_true rfl
def othsOf (ls : List Int) : List Oth := [.s (ls.map Sc.i), .s ((cutG ls (some 1) none).map Sc.i), .s ((ls ++ [0]).map Sc.i), .li ls, .no, .s (ls.map fun x => Sc.b (x == 1)), .s (ls.map fun _ => Sc.i 2)]
def oths0 (ls : List Int) : List D := [tI ls, tI (cutG ls (some 1) none), tI (ls ++ [0]), .lst true (ls.map .int), .non, .tup (ls.map fun x => .bl (x == 1)), .tup (ls.map fun _ => .int 2)]
theorem oths_froz (ls : List Int) : frozL (oths0 ls) = (othsOf ls).map Oth.d := by
  have f1 : ∀ ms : List Int, froz (tI ms) = .tup ((ms.map Sc.i).map Sc.d) := fun ms => by rw [froz_fz _ (fz_tI ms), tI_sc]; rfl
  have f4 : froz (.lst true (ls.map .int)) = .lst false (ls.map .int) := by simp only [froz, frozL_ints]
  have f6 : froz (.tup (ls.map fun x => .bl (x == 1))) = .tup ((ls.map fun x => Sc.b (x == 1)).map Sc.d) := by
    simp only [froz]; rw [frozL_mapT (fun x : Int => D.bl (x == 1)) (fun _ => rfl) ls, List.map_map]; rfl
  have f7 : froz (.tup (ls.map fun _ => .int 2)) = .tup ((ls.map fun _ => Sc.i 2).map Sc.d) := by
    simp only [froz]; rw [frozL_mapT (fun _ : Int => D.int 2) (fun _ => rfl) ls, List.map_map]; rfl
  have f5 : froz .non = .non := rfl
  show [froz (tI ls), froz (tI (cutG ls (some 1) none)), froz (tI (ls ++ [0])), froz (.lst true (ls.map .int)), froz .non, froz (.tup (ls.map fun x => .bl (x == 1))), froz (.tup (ls.map fun _ => .int 2))] = _
  rw [f1, f1, f1, f4, f5, f6, f7]
  rfl
theorem oths_nf (ls : List Int) : isFzL (oths0 ls) = false := by
  unfold oths0
  simp [isFzL, isFz]
theorem oths_ok {ls : List Int} (h : ls.length ≤ 1000) : ∀ o ∈ othsOf ls, o.ok := by
  intro o m
  have := cutG_len ls (some 1) none
  unfold othsOf at m
  simp only [List.mem_cons, List.not_mem_nil, or_false] at m
  rcases m with m | m | m | m | m | m | m <;> subst m
  · show (ls.map Sc.i).length ≤ 5000
    rw [List.length_map]; omega
  · show ((cutG ls (some 1) none).map Sc.i).length ≤ 5000
    rw [List.length_map]; omega
  · show ((ls ++ [0]).map Sc.i).length ≤ 5000
    rw [List.length_map, List.length_append]; simp; omega
  · trivial
  · trivial
  · show (ls.map fun x => Sc.b (x == 1)).length ≤ 5000
    rw [List.length_map]; omega
  · show (ls.map fun _ => Sc.i 2).length ≤ 5000
    rw [List.length_map]; omega
theorem others_ok {ls : List Int} (hl : ls.length ≤ 1000) (E : Ev) (h6 : E[6]? = some (some (tI ls))) (h18 : E[18]? = some none) :
    (eLst (eCons (eVar 6) (eCons (nSl (qVar 6) (qPart (qC (.int 1))) qNo) (eCons (n2f opAdd (qVar 6) (qTup (qCons (qC (.int 0)) qNil))) (eCons (n1L opList (qCons (qVar 6) qNil)) (eCons (eOf (qC .non)) (eCons (e1L opTuple (eCons (eCompQ [18] 6 (gdName 18) dYes (eOf (q2f opEq (qVar 18) (qC (.int 1))))) eNil)) (eCons (e1L opTuple (eCons (eCompQ [18] 6 (gdName 18) dYes (eOf (qC (.int 2)))) eNil)) eNil)))))))) E = some (.lst true (oths0 ls), E) := by
  have hlen : 18 < E.length := (List.getElem?_eq_some_iff.mp h18).1
  have hsame : E.set 18 none = E := List.ext_getElem? fun k => by
    by_cases e : 18 = k
    · subst e; rw [List.getElem?_set_self hlen, h18]
    · rw [List.getElem?_set_ne e]
  have q6 : qVar 6 E = some (tI ls) := by unfold qVar; rw [h6]
  have i2 : nSl (qVar 6) (qPart (qC (.int 1))) qNo E = some (tI (cutG ls (some 1) none), E) := by
    have e : qSl (qVar 6) (qPart (qC (.int 1))) qNo E = some (tI (cutG ls (some 1) none)) := by
      unfold qSl
      rw [q6]
      show (if isFzL (ls.map D.int) = true then some (D.tup (cutG (ls.map .int) (some 1) none)) else none) = _
      rw [if_pos (fz_ints ls), cut_mapG]
      rfl
    unfold nSl
    rw [e]
  have i3 : n2f opAdd (qVar 6) (qTup (qCons (qC (.int 0)) qNil)) E = some (tI (ls ++ [0]), E) := n2f_of q6 (qTup_of (ds := [.int 0]) rfl rfl (by show 1 ≤ 5000; decide)) (tup_add (ys := [0]) (by simp; omega))
  have i4 : n1L opList (qCons (qVar 6) qNil) E = some (.lst true (ls.map .int), E) := n1L_of (qCons_of q6 rfl) (if_pos (fz_ints ls))
  have comp : ∀ (el : Ev → Option (D × Ev)) (f : Int → D), (∀ x : Int, el (E.set 18 (some (.int x))) = some (f x, E.set 18 (some (.int x)))) → eCompQ [18] 6 (gdName 18) dYes el E = some (.lst true (ls.map f), E) := fun el f hel =>
    eCompQ_all (own := [18]) (i := 6) (g := gdName 18) (el := el) D.int f ls (E := E) (E0 := E) (E' := E) h6 (.inr (.inr (.inl rfl))) fz_int (by show (match E[18]? with | some (some d) => isFz d | _ => true) && true = true; rw [h18]; rfl) hsame rfl (by show E.set 18 (E[18]?.join) = E; rw [h18]; exact hsame) (by omega) fun x _ =>
      ⟨E.set 18 (some (.int x)), E.set 18 (some (.int x)), rfl, hel x, by show (E.set 18 (some (.int x))).set 18 none = E; rw [List.set_set]; exact hsame⟩
  have c1 := comp (eOf (q2f opEq (qVar 18) (qC (.int 1)))) (fun x => .bl (x == 1)) fun x => eOf_of (q2f_of (x := .int x) (by unfold qVar; rw [List.getElem?_set_self hlen]) rfl (eq_int x 1)) rfl
  have c2 := comp (eOf (qC (.int 2))) (fun _ => .int 2) fun x => rfl
  have t1 := e1L_of (op := opTuple) (eCons_of (g := eNil) c1 rfl) (tuple_own (isFzL_map (fun x : Int => D.bl (x == 1)) (fun _ => rfl) ls) true)
  have t2 := e1L_of (op := opTuple) (eCons_of (g := eNil) c2 rfl) (tuple_own (isFzL_map (fun _ : Int => D.int 2) (fun _ => rfl) ls) true)
  exact eLst_of (eCons_of (eVar_fz h6 (fz_tI ls)) (eCons_of i2 (eCons_of i3 (eCons_of i4 (eCons_of (f := eOf (qC .non)) (d := .non) rfl (eCons_of t1 (eCons_of (g := eNil) t2 rfl))))))) (by show 7 ≤ 5000; decide)
end K19

namespace K19
open PySem Dm
theorem okl_of {l : List It} {a b : Int} (h1 : l.length ≤ 9) (hg : ∀ it ∈ l, goodIt l.length it) (ha : 0 ≤ a) (hab : a ≤ b) (hb : b ≤ 10) : OkL l a b where
  len := by omega
  good := fun t m => hg _ m
  pos := fun n m => (hg _ m).1
  top := fun n m => by have := (hg _ m).2; omega
  a0 := ha
  ab := hab
  b10 := hb
theorem sc_rows (a b r : Int) (l : List It) (hl : l.length ≤ 1000) (hg : Good l.length l) {E : Ev} {i : Nat} {ls : List Int} (hls : ls.length = cnt l ∧ Bits ls) (h3 : E[3]? = some (some (lineD l))) (h5 : E[5]? = some (some (szD a b r))) (hi : E[i]? = some (some (tI ls))) (hn : i ≠ 3 ∧ i ≠ 5) :
    eCall g_are_right (xSlot 3 (xSlot 5 (xSlot i xNil))) E = some (.bl (isRight a b r l ls), E) ∧ eCall g__law_is_right (xSlot 3 (xSlot 5 (xSlot i xNil))) E = some (.bl (isRight a b r l ls), E) :=
  ⟨rows_call h3 h5 hi hn (are_right_ok hl hg hls.1 hls.2), rows_call h3 h5 hi hn (law_is_right_ok hl hg hls.1 hls.2)⟩
/-- the heart of a turn, the line and the sizes drawn -/
theorem heart {l : List It} {a b r : Int} {cs : List Int} {lk : Lks} (hlk : ∀ i, 2 ≤ i → lk i = false) (hc : cs.length ≤ 1000) (h : OkL l a b) (x y z : Int) (s e2 e4 e6 e7 e8 e9 e10 e11 e12 e13 e14 : Option D) (hz : FzO e10) :
    ∃ x' y' z' f6 f7 f8 f9 f10 f11 f12 f13 f14, FzO f10 ∧ (sSeq (sAsg lk [6, 7] (eCall g__law_rounds (xSlot 3 (xSlot 5 xNil))) (gdTup 2 (gdCons (gdName 6) (gdCons (gdName 7) gdNil))))
  (sSeq (sIf (dOr (dNot (tdf (eCall g__law_alike (xVal (eLst (eCons (eCall g_least_lengths (xSlot 3 (xSlot 5 xNil))) (eCons (eCall g_reasons (xSlot 3 (xSlot 5 xNil))) eNil))) (xVal (eLst (eCons (eVar 6) (eCons (eVar 7) eNil))) xNil))))) (dNot (tdf (eCall g__law_is_right (xSlot 3 (xSlot 5 (xSlot 6 xNil))))))) (sRet (eOf (qC (.bl false)))) sNil)
  (sSeq (sAsg lk [8] (eIf (tOfQ (tqf (q2f opLt (q1L opLen (qCons (qVar 6) qNil)) (qC (.int 6))))) (eCall g__law_all_bits (xVal (n1L opLen (qCons (qVar 6) qNil)) xNil)) (eLst (eCons (eVar 6) eNil))) (gdName 8))
  (sSeq (sAsg lk [9] (eCompQ [17] 8 (gdName 17) (tdf (eCall g__law_is_right (xSlot 3 (xSlot 5 (xSlot 17 xNil))))) (eVar 17)) (gdName 9))
  (sSeq (sIf (dNot (tdf (eCall g__law_alike (xVal (eComp [17] (iSeq (nSl (qVar 8) qNo (qPart (qC (.int 12))))) (gdName 17) dYes (eCall g_are_right (xSlot 3 (xSlot 5 (xSlot 17 xNil))))) (xVal (eComp [17] (iSeq (nSl (qVar 8) qNo (qPart (qC (.int 12))))) (gdName 17) dYes (eCall g__law_is_right (xSlot 3 (xSlot 5 (xSlot 17 xNil))))) xNil))))) (sRet (eOf (qC (.bl false)))) sNil)
  (sSeq (sFor lk [10] (iRange (eCons (n1L opLen (qCons (qVar 6) qNil)) eNil)) (gdName 10) (l_law_1 lk))
  (sSeq (sAsg lk [11] (eLst (eCons (eVar 6) (eCons (nSl (qVar 6) (qPart (qC (.int 1))) qNo) (eCons (n2f opAdd (qVar 6) (qTup (qCons (qC (.int 0)) qNil))) (eCons (n1L opList (qCons (qVar 6) qNil)) (eCons (eOf (qC .non)) (eCons (e1L opTuple (eCons (eCompQ [18] 6 (gdName 18) dYes (eOf (q2f opEq (qVar 18) (qC (.int 1))))) eNil)) (eCons (e1L opTuple (eCons (eCompQ [18] 6 (gdName 18) dYes (eOf (qC (.int 2)))) eNil)) eNil)))))))) (gdName 11))
  (sSeq (sIf (dNot (tdf (eCall g__law_alike (xVal (eCompQ [17] 11 (gdName 17) dYes (eCall g_are_right (xSlot 3 (xSlot 5 (xSlot 17 xNil))))) (xVal (eCompQ [17] 11 (gdName 17) dYes (eCall g__law_is_right (xSlot 3 (xSlot 5 (xSlot 17 xNil))))) xNil))))) (sRet (eOf (qC (.bl false)))) sNil)
  (sFor lk [12] (iRange (eCons (eOf (qC (.int 4))) eNil)) (gdName 12) (l_law_3 lk)))))))))) [s, some (bagD x y z cs), e2, some (lineD l), e4, some (szD a b r), e6, e7, e8, e9, e10, e11, e12, e13, e14, none, none, none, none]
      = some (.nx [s, some (bagD x' y' z' cs), e2, some (lineD l), e4, some (szD a b r), f6, f7, f8, f9, f10, f11, f12, f13, f14, none, none, none, none]) := by
  have hl : l.length ≤ 1000 := Nat.le_trans h.len (by decide)
  have hcl := cnt_le l
  have hlen := h.len
  have hll : (least a b r l).length = cnt l := least_length a b r l
  have lk1 : ∀ i, 2 ≤ i → [i].all (fun j => !lk j) = true := fun i hi => by
    show (!lk i && true) = true
    rw [hlk i hi]; rfl
  -- rounds
  have q1 : eCall g__law_rounds (xSlot 3 (xSlot 5 xNil)) [s, some (bagD x y z cs), e2, some (lineD l), e4, some (szD a b r), e6, e7, e8, e9, e10, e11, e12, e13, e14, none, none, none, none] = some (.tup [tI (least a b r l), .tup ((R a b r l).map rD)], [s, some (bagD x y z cs), e2, some (lineD l), e4, some (szD a b r), e6, e7, e8, e9, e10, e11, e12, e13, e14, none, none, none, none]) :=
    eCall_same (as := [.inl 3, .inl 5]) rfl (.slot rfl (.slot rfl .nil)) (by decide) (law_rounds_ok hl h.good)
  have p1 := sAsg_of (lk := lk) (ts := [6, 7]) (g := gdTup 2 (gdCons (gdName 6) (gdCons (gdName 7) gdNil))) (E2 := [s, some (bagD x y z cs), e2, some (lineD l), e4, some (szD a b r), some (tI (least a b r l)), some (Th.v (R a b r l)).d, e8, e9, e10, e11, e12, e13, e14, none, none, none, none]) (by show (!lk 6 && (!lk 7 && true)) = true; rw [hlk 6 (by decide), hlk 7 (by decide)]; rfl) q1 rfl
  -- alike, right
  have q2 : eLst (eCons (eCall g_least_lengths (xSlot 3 (xSlot 5 xNil))) (eCons (eCall g_reasons (xSlot 3 (xSlot 5 xNil))) eNil)) [s, some (bagD x y z cs), e2, some (lineD l), e4, some (szD a b r), some (tI (least a b r l)), some (Th.v (R a b r l)).d, e8, e9, e10, e11, e12, e13, e14, none, none, none, none] = some (.lst true [tI (least a b r l), .tup ((R a b r l).map rD)], [s, some (bagD x y z cs), e2, some (lineD l), e4, some (szD a b r), some (tI (least a b r l)), some (Th.v (R a b r l)).d, e8, e9, e10, e11, e12, e13, e14, none, none, none, none]) :=
    eLst_of (eCons_of (eCall_same (as := [.inl 3, .inl 5]) rfl (.slot rfl (.slot rfl .nil)) (by decide) (least_ok hl h.good)) (eCons_of (g := eNil) (eCall_same (as := [.inl 3, .inl 5]) rfl (.slot rfl (.slot rfl .nil)) (by decide) (reasons_ok hl h.good)) rfl)) (by show 2 ≤ 5000; decide)
  have q3 : eLst (eCons (eVar 6) (eCons (eVar 7) eNil)) [s, some (bagD x y z cs), e2, some (lineD l), e4, some (szD a b r), some (tI (least a b r l)), some (Th.v (R a b r l)).d, e8, e9, e10, e11, e12, e13, e14, none, none, none, none] = some (.lst true [tI (least a b r l), .tup ((R a b r l).map rD)], [s, some (bagD x y z cs), e2, some (lineD l), e4, some (szD a b r), some (tI (least a b r l)), some (Th.v (R a b r l)).d, e8, e9, e10, e11, e12, e13, e14, none, none, none, none]) :=
    eLst_of (eCons_of (eVar_fz rfl (fz_tI _)) (eCons_of (g := eNil) (eVar_fz rfl (th_fz' (.v (R a b r l)))) rfl)) (by show 2 ≤ 5000; decide)
  have q4 := (sc_rows a b r l hl h.good (E := [s, some (bagD x y z cs), e2, some (lineD l), e4, some (szD a b r), some (tI (least a b r l)), some (Th.v (R a b r l)).d, e8, e9, e10, e11, e12, e13, e14, none, none, none, none]) (i := 6) (ls := least a b r l) ⟨hll, lens_bits _⟩ rfl rfl rfl (by decide)).2
  rw [least_right] at q4
  have p2 := sIf_f (g1 := sRet (eOf (qC (.bl false)))) (g2 := sNil) (dOr_f (dNot_of (b := true) (tdf_of (alike_call q2 q3 (alike_two r h)))) (dNot_of (b := true) (tdf_of q4))) rfl
  -- lots
  have n6 : q1L opLen (qCons (qVar 6) qNil) [s, some (bagD x y z cs), e2, some (lineD l), e4, some (szD a b r), some (tI (least a b r l)), some (Th.v (R a b r l)).d, e8, e9, e10, e11, e12, e13, e14, none, none, none, none] = some (.int (cnt l)) := by
    rw [← hll]
    exact q1L_of rfl (len_tup D.int _)
  have n6' : n1L opLen (qCons (qVar 6) qNil) [s, some (bagD x y z cs), e2, some (lineD l), e4, some (szD a b r), some (tI (least a b r l)), some (Th.v (R a b r l)).d, e8, e9, e10, e11, e12, e13, e14, none, none, none, none] = some (.int (cnt l), [s, some (bagD x y z cs), e2, some (lineD l), e4, some (szD a b r), some (tI (least a b r l)), some (Th.v (R a b r l)).d, e8, e9, e10, e11, e12, e13, e14, none, none, none, none]) := by
    rw [← hll]
    exact n1L_of rfl (len_tup D.int _)
  have q5 : eIf (tOfQ (tqf (q2f opLt (q1L opLen (qCons (qVar 6) qNil)) (qC (.int 6))))) (eCall g__law_all_bits (xVal (n1L opLen (qCons (qVar 6) qNil)) xNil)) (eLst (eCons (eVar 6) eNil)) [s, some (bagD x y z cs), e2, some (lineD l), e4, some (szD a b r), some (tI (least a b r l)), some (Th.v (R a b r l)).d, e8, e9, e10, e11, e12, e13, e14, none, none, none, none]
      = some (.lst true ((rowsOf a b r l).map tI), [s, some (bagD x y z cs), e2, some (lineD l), e4, some (szD a b r), some (tI (least a b r l)), some (Th.v (R a b r l)).d, e8, e9, e10, e11, e12, e13, e14, none, none, none, none]) := by
    have c : tOfQ (tqf (q2f opLt (q1L opLen (qCons (qVar 6) qNil)) (qC (.int 6)))) [s, some (bagD x y z cs), e2, some (lineD l), e4, some (szD a b r), some (tI (least a b r l)), some (Th.v (R a b r l)).d, e8, e9, e10, e11, e12, e13, e14, none, none, none, none] = some (decide ((cnt l : Int) < 6), [s, some (bagD x y z cs), e2, some (lineD l), e4, some (szD a b r), some (tI (least a b r l)), some (Th.v (R a b r l)).d, e8, e9, e10, e11, e12, e13, e14, none, none, none, none]) :=
      tOfQ_of (tqf_of (q2f_of n6 rfl rfl))
    unfold rowsOf
    by_cases hn : cnt l < 6
    · rw [decide_eq_true (by omega)] at c
      rw [if_pos hn]
      exact eIf_t c (eCall_same (as := [.inr (.int (cnt l))]) (xVal_of n6' rfl) (.val .nil) List.nodup_nil (all_bits_ok (by omega)))
    · rw [decide_eq_false (by omega)] at c
      rw [if_neg hn]
      exact eIf_f c (eLst_of (eCons_of (g := eNil) (eVar_fz rfl (fz_tI _)) rfl) (by show 1 ≤ 5000; decide))
  have p3 := sAsg_of (lk := lk) (ts := [8]) (g := gdName 8) (E2 := [s, some (bagD x y z cs), e2, some (lineD l), e4, some (szD a b r), some (tI (least a b r l)), some (Th.v (R a b r l)).d, some (.lst true ((rowsOf a b r l).map tI)), e9, e10, e11, e12, e13, e14, none, none, none, none]) (lk1 8 (by decide)) q5 rfl
  -- right
  have hrl := rowsOf_len a b r l
  have q6 := eCompQ_typed (own := [17]) (i := 8) (g := gdName 17) (tt := tdf (eCall g__law_is_right (xSlot 3 (xSlot 5 (xSlot 17 xNil))))) (el := eVar 17) tI (isRight a b r l) tI (rowsOf a b r l) (E := [s, some (bagD x y z cs), e2, some (lineD l), e4, some (szD a b r), some (tI (least a b r l)), some (Th.v (R a b r l)).d, some (.lst true ((rowsOf a b r l).map tI)), e9, e10, e11, e12, e13, e14, none, none, none, none]) rfl (.inl rfl) fz_tI rfl rfl rfl rfl (by omega) fun ls m =>
    ⟨[s, some (bagD x y z cs), e2, some (lineD l), e4, some (szD a b r), some (tI (least a b r l)), some (Th.v (R a b r l)).d, some (.lst true ((rowsOf a b r l).map tI)), e9, e10, e11, e12, e13, e14, none, none, some (tI ls), none], [s, some (bagD x y z cs), e2, some (lineD l), e4, some (szD a b r), some (tI (least a b r l)), some (Th.v (R a b r l)).d, some (.lst true ((rowsOf a b r l).map tI)), e9, e10, e11, e12, e13, e14, none, none, some (tI ls), none], rfl,
      tdf_of (sc_rows a b r l hl h.good (i := 17) (ls := ls) (rowsOf_ok a b r l ls m) rfl rfl rfl (by decide)).2, fun _ => rfl, fun _ => ⟨[s, some (bagD x y z cs), e2, some (lineD l), e4, some (szD a b r), some (tI (least a b r l)), some (Th.v (R a b r l)).d, some (.lst true ((rowsOf a b r l).map tI)), e9, e10, e11, e12, e13, e14, none, none, some (tI ls), none], eVar_fz rfl (fz_tI ls), rfl⟩⟩
  have p4 := sAsg_of (lk := lk) (ts := [9]) (g := gdName 9) (E2 := [s, some (bagD x y z cs), e2, some (lineD l), e4, some (szD a b r), some (tI (least a b r l)), some (Th.v (R a b r l)).d, some (.lst true ((rowsOf a b r l).map tI)), some (.lst true (((rowsOf a b r l).filter (isRight a b r l)).map tI)), e10, e11, e12, e13, e14, none, none, none, none]) (lk1 9 (by decide)) q6 rfl
  -- the first rows
  have sl : iSeq (nSl (qVar 8) qNo (qPart (qC (.int 12)))) [s, some (bagD x y z cs), e2, some (lineD l), e4, some (szD a b r), some (tI (least a b r l)), some (Th.v (R a b r l)).d, some (.lst true ((rowsOf a b r l).map tI)), some (.lst true (((rowsOf a b r l).filter (isRight a b r l)).map tI)), e10, e11, e12, e13, e14, none, none, none, none]
      = some ((cutG (rowsOf a b r l) none (some 12)).map tI, [s, some (bagD x y z cs), e2, some (lineD l), e4, some (szD a b r), some (tI (least a b r l)), some (Th.v (R a b r l)).d, some (.lst true ((rowsOf a b r l).map tI)), some (.lst true (((rowsOf a b r l).filter (isRight a b r l)).map tI)), e10, e11, e12, e13, e14, none, none, none, none]) := by
    have e : qSl (qVar 8) qNo (qPart (qC (.int 12))) [s, some (bagD x y z cs), e2, some (lineD l), e4, some (szD a b r), some (tI (least a b r l)), some (Th.v (R a b r l)).d, some (.lst true ((rowsOf a b r l).map tI)), some (.lst true (((rowsOf a b r l).filter (isRight a b r l)).map tI)), e10, e11, e12, e13, e14, none, none, none, none] = some (.lst true ((cutG (rowsOf a b r l) none (some 12)).map tI)) := by
      show (if isFzL ((rowsOf a b r l).map tI) = true then some (D.lst true (cutG ((rowsOf a b r l).map tI) none (some 12))) else none) = _
      rw [if_pos (isFzL_map tI fz_tI _), cut_mapG]
    unfold iSeq nSl
    rw [e]
    show some (frozL ((cutG (rowsOf a b r l) none (some 12)).map tI), _) = _
    rw [frozL_mapT tI fz_tI]
  have hcut := cutG_len (rowsOf a b r l) none (some 12)
  have comp : ∀ g : Fs, (∀ ls ∈ rowsOf a b r l, eCall g (xSlot 3 (xSlot 5 (xSlot 17 xNil))) [s, some (bagD x y z cs), e2, some (lineD l), e4, some (szD a b r), some (tI (least a b r l)), some (Th.v (R a b r l)).d, some (.lst true ((rowsOf a b r l).map tI)), some (.lst true (((rowsOf a b r l).filter (isRight a b r l)).map tI)), e10, e11, e12, e13, e14, none, none, some (tI ls), none] = some (.bl (isRight a b r l ls), [s, some (bagD x y z cs), e2, some (lineD l), e4, some (szD a b r), some (tI (least a b r l)), some (Th.v (R a b r l)).d, some (.lst true ((rowsOf a b r l).map tI)), some (.lst true (((rowsOf a b r l).filter (isRight a b r l)).map tI)), e10, e11, e12, e13, e14, none, none, some (tI ls), none])) →
      eComp [17] (iSeq (nSl (qVar 8) qNo (qPart (qC (.int 12))))) (gdName 17) dYes (eCall g (xSlot 3 (xSlot 5 (xSlot 17 xNil)))) [s, some (bagD x y z cs), e2, some (lineD l), e4, some (szD a b r), some (tI (least a b r l)), some (Th.v (R a b r l)).d, some (.lst true ((rowsOf a b r l).map tI)), some (.lst true (((rowsOf a b r l).filter (isRight a b r l)).map tI)), e10, e11, e12, e13, e14, none, none, none, none]
        = some (.lst true (((cutG (rowsOf a b r l) none (some 12)).map (isRight a b r l)).map .bl), [s, some (bagD x y z cs), e2, some (lineD l), e4, some (szD a b r), some (tI (least a b r l)), some (Th.v (R a b r l)).d, some (.lst true ((rowsOf a b r l).map tI)), some (.lst true (((rowsOf a b r l).filter (isRight a b r l)).map tI)), e10, e11, e12, e13, e14, none, none, none, none]) := fun g hg => by
    have q := eComp_all (own := [17]) (g := gdName 17) (el := eCall g (xSlot 3 (xSlot 5 (xSlot 17 xNil)))) tI (fun ls => .bl (isRight a b r l ls)) (cutG (rowsOf a b r l) none (some 12)) sl rfl rfl rfl (Nat.le_trans (by omega : _ ≤ 32) (by decide)) fun ls m => ⟨_, _, rfl, hg ls (cutG_mem m), rfl⟩
    rw [List.map_map]
    exact q
  have k1 := comp g_are_right fun ls m => (sc_rows a b r l hl h.good (i := 17) (ls := ls) (rowsOf_ok a b r l ls m) rfl rfl rfl (by decide)).1
  have k2 := comp g__law_is_right fun ls m => (sc_rows a b r l hl h.good (i := 17) (ls := ls) (rowsOf_ok a b r l ls m) rfl rfl rfl (by decide)).2
  have p5 := sIf_f (g1 := sRet (eOf (qC (.bl false)))) (g2 := sNil) (dNot_of (b := true) (tdf_of (alike_call k1 k2 (alike_bls _ (by rw [List.length_map]; omega))))) rfl
  -- each place
  have n10 : n1L opLen (qCons (qVar 6) qNil) [s, some (bagD x y z cs), e2, some (lineD l), e4, some (szD a b r), some (tI (least a b r l)), some (Th.v (R a b r l)).d, some (.lst true ((rowsOf a b r l).map tI)), some (.lst true (((rowsOf a b r l).filter (isRight a b r l)).map tI)), e10, e11, e12, e13, e14, none, none, none, none] = some (.int (cnt l), [s, some (bagD x y z cs), e2, some (lineD l), e4, some (szD a b r), some (tI (least a b r l)), some (Th.v (R a b r l)).d, some (.lst true ((rowsOf a b r l).map tI)), some (.lst true (((rowsOf a b r l).filter (isRight a b r l)).map tI)), e10, e11, e12, e13, e14, none, none, none, none]) := by
    rw [← hll]
    exact n1L_of rfl (len_tup D.int _)
  obtain ⟨f10, hf, q7⟩ := k_loop (lk := lk) (l := l) (a := a) (b := b) (r := r) (rows := (rowsOf a b r l).filter (isRight a b r l)) h (Nat.le_trans (List.length_filter_le _ _) (by omega)) (fun ls m => by
    obtain ⟨m1, m2⟩ := List.mem_filter.mp m
    obtain ⟨m3, m4⟩ := rowsOf_ok a b r l ls m1
    exact ⟨m3, m4, m2⟩) (List.mem_filter.mpr ⟨rowsOf_least a b r l, least_right a b r l⟩) s (some (bagD x y z cs)) e2 (some (lineD l)) e4 (some (szD a b r)) (some (tI (least a b r l))) (some (.lst true ((rowsOf a b r l).map tI))) e11 e12 e13 e14 none none none (List.range (cnt l)) e10 hz (fun i m => List.mem_range.mp m)
  have p6 := sFor_of (lk := lk) (ts := [10]) (lk1 10 (by decide)) (range_of (n := cnt l) (eCons_of (g := eNil) n10 rfl) (by omega)) q7
  -- others
  have q8 := others_ok (ls := least a b r l) (by omega) [s, some (bagD x y z cs), e2, some (lineD l), e4, some (szD a b r), some (tI (least a b r l)), some (Th.v (R a b r l)).d, some (.lst true ((rowsOf a b r l).map tI)), some (.lst true (((rowsOf a b r l).filter (isRight a b r l)).map tI)), f10, e11, e12, e13, e14, none, none, none, none] rfl rfl
  have p7 := sAsg_of (lk := lk) (ts := [11]) (g := gdName 11) (E2 := [s, some (bagD x y z cs), e2, some (lineD l), e4, some (szD a b r), some (tI (least a b r l)), some (Th.v (R a b r l)).d, some (.lst true ((rowsOf a b r l).map tI)), some (.lst true (((rowsOf a b r l).filter (isRight a b r l)).map tI)), f10, some (.lst true (oths0 (least a b r l))), e12, e13, e14, none, none, none, none]) (lk1 11 (by decide)) q8 rfl
  have hi : iSeq (eVar 11) [s, some (bagD x y z cs), e2, some (lineD l), e4, some (szD a b r), some (tI (least a b r l)), some (Th.v (R a b r l)).d, some (.lst true ((rowsOf a b r l).map tI)), some (.lst true (((rowsOf a b r l).filter (isRight a b r l)).map tI)), f10, some (.lst true (oths0 (least a b r l))), e12, e13, e14, none, none, none, none]
      = some ((othsOf (least a b r l)).map Oth.d, [s, some (bagD x y z cs), e2, some (lineD l), e4, some (szD a b r), some (tI (least a b r l)), some (Th.v (R a b r l)).d, some (.lst true ((rowsOf a b r l).map tI)), some (.lst true (((rowsOf a b r l).filter (isRight a b r l)).map tI)), f10, some (.lst false ((othsOf (least a b r l)).map Oth.d)), e12, e13, e14, none, none, none, none]) := by
    unfold iSeq
    rw [eVar_own (i := 11) (xs := oths0 (least a b r l)) rfl, oths_froz]
    show some (frozL ((othsOf (least a b r l)).map Oth.d), _) = _
    rw [frozL_mapT Oth.d Oth.fz]
    rfl
  have hok := oths_ok (ls := least a b r l) (by omega)
  have m1 := eComp_all (own := [17]) (g := gdName 17) (el := eCall g_are_right (xSlot 3 (xSlot 5 (xSlot 17 xNil)))) Oth.d (fun o => .bl (o.res a b r l)) (othsOf (least a b r l)) hi rfl rfl rfl (show 7 ≤ sizeLine by decide) fun o m => ⟨_, _, rfl, rows_call (i := 17) rfl rfl rfl (by decide) (oth_are hl h.good o (hok o m)), rfl⟩
  rw [← eCompQ_frz (i := 11) rfl (oths_nf (least a b r l))] at m1
  have m2 := eCompQ_all (own := [17]) (i := 11) (g := gdName 17) (el := eCall g__law_is_right (xSlot 3 (xSlot 5 (xSlot 17 xNil)))) Oth.d (fun o => .bl (o.res a b r l)) (othsOf (least a b r l)) (E := [s, some (bagD x y z cs), e2, some (lineD l), e4, some (szD a b r), some (tI (least a b r l)), some (Th.v (R a b r l)).d, some (.lst true ((rowsOf a b r l).map tI)), some (.lst true (((rowsOf a b r l).filter (isRight a b r l)).map tI)), f10, some (.lst false ((othsOf (least a b r l)).map Oth.d)), e12, e13, e14, none, none, none, none]) rfl (.inr (.inl rfl)) Oth.fz rfl rfl rfl rfl (show 7 < 1000000 by decide) fun o m => ⟨_, _, rfl, rows_call (i := 17) rfl rfl rfl (by decide) (oth_law hl h.good o (hok o m)), rfl⟩
  have eo : (othsOf (least a b r l)).map (fun o => D.bl (o.res a b r l)) = ((othsOf (least a b r l)).map (Oth.res a b r l)).map .bl := by rw [List.map_map]; rfl
  rw [eo] at m1 m2
  have p8 := sIf_f (g1 := sRet (eOf (qC (.bl false)))) (g2 := sNil) (dNot_of (b := true) (tdf_of (alike_call m1 m2 (alike_bls _ (by show 7 ≤ 1000; decide))))) rfl
  obtain ⟨x', y', z', f12, f13, f14, q9⟩ := again_loop (l := l) (a := a) (b := b) (r := r) (lk := lk) (hlk 13 (by decide)) (hlk 14 (by decide)) hc h s e2 e4 (some (tI (least a b r l))) (some (.lst true ((rowsOf a b r l).map tI))) (some (.lst true (((rowsOf a b r l).filter (isRight a b r l)).map tI))) f10 (some (.lst false ((othsOf (least a b r l)).map Oth.d))) none none none none (List.range 4) x y z e12 e13 e14
  have p9 := sFor_of (lk := lk) (ts := [12]) (lk1 12 (by decide)) (range_of (n := 4) (g := eCons (eOf (qC (.int 4))) eNil) (E := [s, some (bagD x y z cs), e2, some (lineD l), e4, some (szD a b r), some (tI (least a b r l)), some (Th.v (R a b r l)).d, some (.lst true ((rowsOf a b r l).map tI)), some (.lst true (((rowsOf a b r l).filter (isRight a b r l)).map tI)), f10, some (.lst false ((othsOf (least a b r l)).map Oth.d)), e12, e13, e14, none, none, none, none]) (E1 := [s, some (bagD x y z cs), e2, some (lineD l), e4, some (szD a b r), some (tI (least a b r l)), some (Th.v (R a b r l)).d, some (.lst true ((rowsOf a b r l).map tI)), some (.lst true (((rowsOf a b r l).filter (isRight a b r l)).map tI)), f10, some (.lst false ((othsOf (least a b r l)).map Oth.d)), e12, e13, e14, none, none, none, none]) rfl (by decide)) q9
  exact ⟨x', y', z', _, _, _, _, f10, _, f12, f13, f14, hf, sSeq_nx p1 (sSeq_nx p2 (sSeq_nx p3 (sSeq_nx p4 (sSeq_nx p5 (sSeq_nx p6 (sSeq_nx p7 (sSeq_nx p8 p9)))))))⟩
end K19

namespace K19
open PySem Dm
theorem turn4 {cs : List Int} {lk : Lks} (hlk : ∀ i, 2 ≤ i → lk i = false) (hc : cs.length ≤ 1000) (x y z : Int) (s e2 e3 e4 e5 e6 e7 e8 e9 e10 e11 e12 e13 e14 : Option D) (hz : FzO e10) :
    ∃ x' y' z' f3 f4 f5 f6 f7 f8 f9 f10 f11 f12 f13 f14, FzO f10 ∧ l_law_4 lk [s, some (bagD x y z cs), e2, e3, e4, e5, e6, e7, e8, e9, e10, e11, e12, e13, e14, none, none, none, none]
      = some (.nx [s, some (bagD x' y' z' cs), e2, f3, f4, f5, f6, f7, f8, f9, f10, f11, f12, f13, f14, none, none, none, none]) := by
  obtain ⟨x1, y1, z1, l, h1, h2, h3, q1⟩ := call_line (E := [s, some (bagD x y z cs), e2, e3, e4, e5, e6, e7, e8, e9, e10, e11, e12, e13, e14, none, none, none, none]) (i := 1) hc rfl
  obtain ⟨x2, y2, z2, v, v0, v1, q2⟩ := call_take (E := [s, some (bagD x1 y1 z1 cs), e2, e3, e4, e5, e6, e7, e8, e9, e10, e11, e12, e13, e14, none, none, none, none]) (i := 1) (f := eOf (qC (.int 2))) (n := 2) hc rfl rfl (by decide) (by decide)
  have p1 := sAsg_of (lk := lk) (ts := [3, 4]) (g := gdTup 2 (gdCons (gdName 3) (gdCons (gdName 4) gdNil))) (E2 := [s, some (bagD x2 y2 z2 cs), e2, some (lineD l), some (.int (1 + v)), e5, e6, e7, e8, e9, e10, e11, e12, e13, e14, none, none, none, none]) (by show (!lk 3 && (!lk 4 && true)) = true; rw [hlk 3 (by decide), hlk 4 (by decide)]; rfl)
    (eTup_two (y := .int (1 + v)) q1 (e2f_of (op := opAdd) (f := eOf (qC (.int 1))) rfl q2 rfl)) rfl
  obtain ⟨x3, y3, z3, w, w0, w1, q3⟩ := call_take (E := [s, some (bagD x2 y2 z2 cs), e2, some (lineD l), some (.int (1 + v)), e5, e6, e7, e8, e9, e10, e11, e12, e13, e14, none, none, none, none]) (i := 1) (f := eOf (qC (.int 4))) (n := 4) hc rfl rfl (by decide) (by decide)
  obtain ⟨x4, y4, z4, r, r0, r1, q4⟩ := call_take (E := [s, some (bagD x3 y3 z3 cs), e2, some (lineD l), some (.int (1 + v)), e5, e6, e7, e8, e9, e10, e11, e12, e13, e14, none, none, none, none]) (i := 1) (f := eOf (qC (.int 8))) (n := 8) hc rfl rfl (by decide) (by decide)
  have t : eTup (eCons (eVar 4) (eCons (e2f opAdd (eVar 4) (eCall g__law_take (xSlot 1 (xVal (eOf (qC (.int 4))) xNil)))) (eCons (eCall g__law_take (xSlot 1 (xVal (eOf (qC (.int 8))) xNil))) eNil))) [s, some (bagD x2 y2 z2 cs), e2, some (lineD l), some (.int (1 + v)), e5, e6, e7, e8, e9, e10, e11, e12, e13, e14, none, none, none, none] = some (szD (1 + v) (1 + v + w) r, [s, some (bagD x4 y4 z4 cs), e2, some (lineD l), some (.int (1 + v)), e5, e6, e7, e8, e9, e10, e11, e12, e13, e14, none, none, none, none]) :=
    eTup_of (eCons_of (eVar_fz (d := .int (1 + v)) rfl rfl) (eCons_of (e2f_of (op := opAdd) (eVar_fz (d := .int (1 + v)) rfl rfl) q3 rfl) (eCons_of (g := eNil) q4 rfl))) (by show 3 ≤ 5000; decide)
  have p2 := sAsg_of (lk := lk) (ts := [5]) (g := gdName 5) (E2 := [s, some (bagD x4 y4 z4 cs), e2, some (lineD l), some (.int (1 + v)), some (szD (1 + v) (1 + v + w) r), e6, e7, e8, e9, e10, e11, e12, e13, e14, none, none, none, none]) (by show (!lk 5 && true) = true; rw [hlk 5 (by decide)]; rfl) t rfl
  have ok : OkL l (1 + v) (1 + v + w) := okl_of h2 h3 (by omega) (by omega) (by omega)
  obtain ⟨x', y', z', f6, f7, f8, f9, f10, f11, f12, f13, f14, hf, q5⟩ := heart (r := r) hlk hc ok x4 y4 z4 s e2 (some (.int (1 + v))) e6 e7 e8 e9 e10 e11 e12 e13 e14 hz
  exact ⟨x', y', z', _, _, _, f6, f7, f8, f9, f10, f11, f12, f13, f14, hf, sSeq_nx p1 (sSeq_nx p2 q5)⟩
theorem turns {cs : List Int} {lk : Lks} (hlk : ∀ i, 2 ≤ i → lk i = false) (hc : cs.length ≤ 1000) (s : Option D) : ∀ (is : List Nat) (x y z : Int) (e2 e3 e4 e5 e6 e7 e8 e9 e10 e11 e12 e13 e14 : Option D), FzO e10 →
    ∃ x' y' z' f2 f3 f4 f5 f6 f7 f8 f9 f10 f11 f12 f13 f14, FzO f10 ∧ forL (gdName 2) (l_law_4 lk) (is.map iD) [s, some (bagD x y z cs), e2, e3, e4, e5, e6, e7, e8, e9, e10, e11, e12, e13, e14, none, none, none, none]
      = some (.nx [s, some (bagD x' y' z' cs), f2, f3, f4, f5, f6, f7, f8, f9, f10, f11, f12, f13, f14, none, none, none, none])
  | [], x, y, z, e2, e3, e4, e5, e6, e7, e8, e9, e10, e11, e12, e13, e14, hz => ⟨x, y, z, e2, e3, e4, e5, e6, e7, e8, e9, e10, e11, e12, e13, e14, hz, rfl⟩
  | i :: is, x, y, z, e2, e3, e4, e5, e6, e7, e8, e9, e10, e11, e12, e13, e14, hz => by
    obtain ⟨x1, y1, z1, f3, f4, f5, f6, f7, f8, f9, f10, f11, f12, f13, f14, hf, q1⟩ := turn4 hlk hc x y z s (some (iD i)) e3 e4 e5 e6 e7 e8 e9 e10 e11 e12 e13 e14 hz
    obtain ⟨x2, y2, z2, g2, g3, g4, g5, g6, g7, g8, g9, g10, g11, g12, g13, g14, hg, q2⟩ := turns hlk hc s is x1 y1 z1 (some (iD i)) f3 f4 f5 f6 f7 f8 f9 f10 f11 f12 f13 f14 hf
    refine ⟨x2, y2, z2, g2, g3, g4, g5, g6, g7, g8, g9, g10, g11, g12, g13, g14, hg, ?_⟩
    rw [List.map_cons, forL]
    show (match l_law_4 lk [s, some (bagD x y z cs), some (iD i), e3, e4, e5, e6, e7, e8, e9, e10, e11, e12, e13, e14, none, none, none, none] with | some (.nx E2) => forL (gdName 2) (l_law_4 lk) (is.map iD) E2 | some (.ct E2) => _ | some (.bk E2) => _ | some (.ret d E2) => _ | none => _) = _
    rw [q1]
    exact q2
/-! the chain -/
def tgc (n i : Nat) : Int := (0 + (i : Nat) + 1) + b01 (decide ((0 : Int) + (i : Nat) + 1 < n))
def chainL (n : Nat) : List It := (List.range n).map (fun i => It.to (tgc n i)) ++ [It.w 0]
theorem chain_d (n : Nat) : lineD (chainL n) = .tup ((List.range n).map (fun i => D.tup [.str "to", .int (tgc n i)]) ++ [.int 0]) := by
  show D.tup (List.map It.d _) = _
  unfold chainL
  rw [List.map_append, List.map_map]
  rfl
theorem chain_ok {n : Nat} (hn : n ≤ 40) : OkL (chainL n) 1 3 where
  len := by unfold chainL; rw [List.length_append, List.length_map, List.length_range]; simp; omega
  good := fun t m => by
    unfold chainL at m ⊢
    rw [List.length_append, List.length_map, List.length_range]
    rcases List.mem_append.mp m with m | m
    · obtain ⟨i, mi, e⟩ := List.mem_map.mp m
      have hi := List.mem_range.mp mi
      cases e
      unfold tgc b01
      simp
      split <;> omega
    · simp at m
  pos := fun k m => by
    rcases List.mem_append.mp m with m | m
    · obtain ⟨i, mi, e⟩ := List.mem_map.mp m
      cases e
    · simp at m
      omega
  top := fun k m => by
    rcases List.mem_append.mp m with m | m
    · obtain ⟨i, mi, e⟩ := List.mem_map.mp m
      cases e
    · simp at m
      omega
  a0 := by decide
  ab := by decide
  b10 := by decide
theorem call_sz {g : Fs} {E : Ev} {l : List It} {a b r : Int} {d : D} (h : E[16]? = some (some (lineD l))) (hg : g [lineD l, szD a b r] = some (d, [lineD l, szD a b r])) :
    eCall g (xSlot 16 (xVal (eTup (eCons (eOf (qC (.int a))) (eCons (eOf (qC (.int b))) (eCons (eOf (qC (.int r))) eNil)))) xNil)) E = some (d, E) :=
  eCall_same (as := [.inl 16, .inr (szD a b r)]) (xSlot_of h (xVal_of (eTup_of (E1 := E) (ds := [.int a, .int b, .int r]) rfl (by show 3 ≤ 5000; decide)) rfl)) (.slot h (.val .nil)) (by
    show [16].Nodup
    simp) hg
theorem alike_rows (xs ys : Told) (hx : xs.length ≤ 1000) (hy : ys.length ≤ 1000) : g__law_alike [.lst true [tI (lens xs), tI (lens ys)], .lst true [tI (lens xs), tI (lens ys)]] = some (.bl true, [.lst true [tI (lens xs), tI (lens ys)], .lst true [tI (lens xs), tI (lens ys)]]) := by
  have n : Nice 2 4300000 (.lst true [tI (lens xs), tI (lens ys)]) := by
    refine (nice_lst (n := 1) (w := 2000000) true fun d m => ?_).mono (Nat.le_refl _) (by show 2 * (2000000 + 2) + 3 ≤ 4300000; decide)
    simp only [List.mem_cons, List.not_mem_nil, or_false] at m
    rcases m with m | m <;> subst m
    · exact nice_tI (lens_small xs) (by rw [lens_length]; exact hx)
    · exact nice_tI (lens_small ys) (by rw [lens_length]; exact hy)
  exact alike_ok n n (by decide) (by decide) rfl
theorem law_ok (ns : List Int) (h : ns.length ≤ 63) : g_law [.scr (ns.map .int)] = some (.bl true, [.scr (ns.map .int)]) := by
  have hcs : (ns.map iabs).length ≤ 1000 := by rw [List.length_map]; omega
  have hlk : ∀ i, 2 ≤ i → lkOf [.scr (ns.map .int)] i = false := fun i hi => by
    unfold lkOf
    rw [List.getElem?_eq_none (by simp; omega)]
  have p1 : sAsg (lkOf [.scr (ns.map .int)]) [1] (eCall g__law_bag (xSlot 0 xNil)) (gdName 1) [some (.scr (ns.map .int)), none, none, none, none, none, none, none, none, none, none, none, none, none, none, none, none, none, none] = some (.nx [some (.scr (ns.map .int)), some (bagD 0 1234567891 0 (ns.map iabs)), none, none, none, none, none, none, none, none, none, none, none, none, none, none, none, none, none]) :=
    sAsg_of rfl (eCall_same (as := [.inl 0]) rfl (.slot rfl .nil) (by decide) (bag_ok ns h)) rfl
  obtain ⟨x1, y1, z1, f2, f3, f4, f5, f6, f7, f8, f9, f10, f11, f12, f13, f14, hf, q1⟩ := turns (lk := lkOf [.scr (ns.map .int)]) hlk hcs (some (.scr (ns.map .int))) (List.range 8) 0 1234567891 0 none none none none none none none none none none none none none (fun d e => by cases e)
  have p2 := sFor_of (lk := lkOf [.scr (ns.map .int)]) (ts := [2]) rfl (range_of (n := 8) (g := eCons (eOf (qC (.int 8))) eNil) (E := [some (.scr (ns.map .int)), some (bagD 0 1234567891 0 (ns.map iabs)), none, none, none, none, none, none, none, none, none, none, none, none, none, none, none, none, none]) (E1 := [some (.scr (ns.map .int)), some (bagD 0 1234567891 0 (ns.map iabs)), none, none, none, none, none, none, none, none, none, none, none, none, none, none, none, none, none]) rfl (by decide)) q1
  obtain ⟨x2, y2, z2, v, v0, v1, q2⟩ := call_take (E := [some (.scr (ns.map .int)), some (bagD x1 y1 z1 (ns.map iabs)), f2, f3, f4, f5, f6, f7, f8, f9, f10, f11, f12, f13, f14, none, none, none, none]) (i := 1) (f := eOf (qC (.int 30))) (n := 30) hcs rfl rfl (by decide) (by decide)
  obtain ⟨n, hn⟩ : ∃ n : Nat, 5 + v = n := ⟨(5 + v).toNat, by omega⟩
  have a5 : opAdd (.int 5) (.int v) = some (.int n) := by rw [← hn]; rfl
  have p3 : sAsg (lkOf [.scr (ns.map .int)]) [15] (e2f opAdd (eOf (qC (.int 5))) (eCall g__law_take (xSlot 1 (xVal (eOf (qC (.int 30))) xNil)))) (gdName 15) [some (.scr (ns.map .int)), some (bagD x1 y1 z1 (ns.map iabs)), f2, f3, f4, f5, f6, f7, f8, f9, f10, f11, f12, f13, f14, none, none, none, none] = some (.nx [some (.scr (ns.map .int)), some (bagD x2 y2 z2 (ns.map iabs)), f2, f3, f4, f5, f6, f7, f8, f9, f10, f11, f12, f13, f14, some (.int n), none, none, none]) :=
    sAsg_of rfl (e2f_of (f := eOf (qC (.int 5))) rfl q2 a5) rfl
  have hn40 : n ≤ 40 := by omega
  have q3 := eComp_all (own := [10]) (fi := iRange (eCons (eVar 15) eNil)) (g := gdName 10) (el := eTup (eCons (eOf (qC (.str "to"))) (eCons (n2f opAdd (q2f opAdd (qVar 10) (qC (.int 1))) (q1L opInt (qCons (q2f opLt (q2f opAdd (qVar 10) (qC (.int 1))) (qVar 15)) qNil))) eNil))) iD (fun i => D.tup [.str "to", .int (tgc n i)]) (List.range n) (E := [some (.scr (ns.map .int)), some (bagD x2 y2 z2 (ns.map iabs)), f2, f3, f4, f5, f6, f7, f8, f9, f10, f11, f12, f13, f14, some (.int n), none, none, none]) (range_of (n := n) rfl (by omega)) (ownFz_one rfl hf) rfl rfl (by rw [List.length_range]; exact Nat.le_trans (by omega : n ≤ 40) (by decide)) fun i m => by
    refine ⟨[some (.scr (ns.map .int)), some (bagD x2 y2 z2 (ns.map iabs)), f2, f3, f4, f5, f6, f7, f8, f9, some (iD i), f11, f12, f13, f14, some (.int n), none, none, none], [some (.scr (ns.map .int)), some (bagD x2 y2 z2 (ns.map iabs)), f2, f3, f4, f5, f6, f7, f8, f9, some (iD i), f11, f12, f13, f14, some (.int n), none, none, none], rfl, ?_, rfl⟩
    exact eTup_two (f := eOf (qC (.str "to"))) rfl (n2f_of (op := opAdd) (x := .int (0 + (i : Nat) + 1)) (y := .int (b01 (decide ((0 : Int) + (i : Nat) + 1 < n)))) rfl (q1L_of (qCons_of (q2f_of (x := .int (0 + (i : Nat) + 1)) (y := .int n) rfl rfl rfl) rfl) (opInt_bl _)) rfl)
  have zt : isFzL ((List.range n).map fun i => D.tup [.str "to", .int (tgc n i)]) = true := isFzL_map (fun i => D.tup [.str "to", .int (tgc n i)]) (fun _ => rfl) _
  have p4 : sAsg (lkOf [.scr (ns.map .int)]) [16] (e2f opAdd (e1L opTuple (eCons (eComp [10] (iRange (eCons (eVar 15) eNil)) (gdName 10) dYes (eTup (eCons (eOf (qC (.str "to"))) (eCons (n2f opAdd (q2f opAdd (qVar 10) (qC (.int 1))) (q1L opInt (qCons (q2f opLt (q2f opAdd (qVar 10) (qC (.int 1))) (qVar 15)) qNil))) eNil)))) eNil)) (eTup (eCons (eOf (qC (.int 0))) eNil))) (gdName 16) [some (.scr (ns.map .int)), some (bagD x2 y2 z2 (ns.map iabs)), f2, f3, f4, f5, f6, f7, f8, f9, f10, f11, f12, f13, f14, some (.int n), none, none, none]
      = some (.nx [some (.scr (ns.map .int)), some (bagD x2 y2 z2 (ns.map iabs)), f2, f3, f4, f5, f6, f7, f8, f9, f10, f11, f12, f13, f14, some (.int n), some (lineD (chainL n)), none, none]) := by
    rw [chain_d]
    exact sAsg_of rfl (e2f_of (op := opAdd) (e1L_of (op := opTuple) (eCons_of (g := eNil) q3 rfl) (tuple_own zt true)) (eTup_of (E1 := [some (.scr (ns.map .int)), some (bagD x2 y2 z2 (ns.map iabs)), f2, f3, f4, f5, f6, f7, f8, f9, f10, f11, f12, f13, f14, some (.int n), none, none, none]) (ds := [.int 0]) rfl (by show 1 ≤ 5000; decide)) (add_tup zt rfl (by rw [List.length_map, List.length_range]; simp; omega))) rfl
  have ck := chain_ok hn40
  have cl : (chainL n).length ≤ 1000 := Nat.le_trans ck.len (by decide)
  have L1 : ∀ r : Int, eCall g_least_lengths (xSlot 16 (xVal (eTup (eCons (eOf (qC (.int 1))) (eCons (eOf (qC (.int 3))) (eCons (eOf (qC (.int r))) eNil)))) xNil)) [some (.scr (ns.map .int)), some (bagD x2 y2 z2 (ns.map iabs)), f2, f3, f4, f5, f6, f7, f8, f9, f10, f11, f12, f13, f14, some (.int n), some (lineD (chainL n)), none, none] = some (tI (least 1 3 r (chainL n)), [some (.scr (ns.map .int)), some (bagD x2 y2 z2 (ns.map iabs)), f2, f3, f4, f5, f6, f7, f8, f9, f10, f11, f12, f13, f14, some (.int n), some (lineD (chainL n)), none, none]) := fun r => call_sz rfl (least_ok cl ck.good)
  have L2 : ∀ r : Int, e2f opIxF (eCall g__law_rounds (xSlot 16 (xVal (eTup (eCons (eOf (qC (.int 1))) (eCons (eOf (qC (.int 3))) (eCons (eOf (qC (.int r))) eNil)))) xNil))) (eOf (qC (.int 0))) [some (.scr (ns.map .int)), some (bagD x2 y2 z2 (ns.map iabs)), f2, f3, f4, f5, f6, f7, f8, f9, f10, f11, f12, f13, f14, some (.int n), some (lineD (chainL n)), none, none] = some (tI (least 1 3 r (chainL n)), [some (.scr (ns.map .int)), some (bagD x2 y2 z2 (ns.map iabs)), f2, f3, f4, f5, f6, f7, f8, f9, f10, f11, f12, f13, f14, some (.int n), some (lineD (chainL n)), none, none]) := fun r =>
    e2f_of (call_sz rfl (law_rounds_ok cl ck.good)) rfl (by
      show fzOnly (some (tI (least 1 3 r (chainL n)))) = _
      exact if_pos (fz_tI _))
  have al : eCall g__law_alike (xVal _ (xVal _ xNil)) [some (.scr (ns.map .int)), some (bagD x2 y2 z2 (ns.map iabs)), f2, f3, f4, f5, f6, f7, f8, f9, f10, f11, f12, f13, f14, some (.int n), some (lineD (chainL n)), none, none] = _ :=
    alike_call (eLst_of (eCons_of (L1 1) (eCons_of (g := eNil) (L1 0) rfl)) (by show 2 ≤ 5000; decide)) (eLst_of (eCons_of (L2 1) (eCons_of (g := eNil) (L2 0) rfl)) (by show 2 ≤ 5000; decide)) (alike_rows (R 1 3 1 (chainL n)) (R 1 3 0 (chainL n)) (by rw [R_length]; exact Nat.le_trans (cnt_le _) cl) (by rw [R_length]; exact Nat.le_trans (cnt_le _) cl))
  refine runD_of (E' := [some (.scr (ns.map .int)), some (bagD x2 y2 z2 (ns.map iabs)), f2, f3, f4, f5, f6, f7, f8, f9, f10, f11, f12, f13, f14, some (.int n), some (lineD (chainL n)), none, none]) rfl ?_ rfl
  show b_law (lkOf [.scr (ns.map .int)]) [some (.scr (ns.map .int)), none, none, none, none, none, none, none, none, none, none, none, none, none, none, none, none, none, none] = _
  unfold b_law
  exact sSeq_nx p1 (sSeq_nx p2 (sSeq_nx p3 (sSeq_nx p4 (sRet_of al))))
end K19

section
open PySem PySem.W PyProof.Rows
set_option maxHeartbeats 0 in
theorem PySem.Challenge.cw_nocheaper_k19_lengths_of_jumps_holds : PySem.Challenge.rw_nocheaper_k19_lengths_of_jumps.Holds := by
  w_on; o_law; k_head; (case hw => w_witness2)
  k_fill
  refine Dm.walkG (l := PySem.Challenge.rw_nocheaper_k19_lengths_of_jumps) (n := 63) (k := 6) (x := "script") (g := K19.g_law) rfl (by decide) rfl ⟨rfl, by decide, by decide⟩ (fun w h Y => PySem.W.kIn_of Y) ?F (fun ns h => K19.law_ok ns h)
  case F =>
    intro w mg fa h KX G hmg
    refine' K19.all_mk KX G hmg ?a0 ?l0 ?c0 ?k0 ?a1 ?l1 ?c1 ?k1 ?a2 ?l2 ?c2 ?k2 ?a3 ?l3 ?c3 ?k3 ?a4 ?l4 ?c4 ?k4 ?a5 ?l5 ?c5 ?k5 ?a6 ?l6 ?c6 ?k6 ?a7 ?l7 ?c7 ?k7 ?a8 ?l8 ?c8 ?k8 ?a9 ?l9 ?c9 ?k9 ?a10 ?l10 ?c10 ?k10 ?a11 ?l11 ?c11 ?k11 ?a12 ?l12 ?c12 ?k12 ?a13 ?l13 ?c13 ?k13 ?a14 ?l14 ?c14 ?k14 ?a15 ?l15 ?c15 ?k15 ?a16 ?l16 ?c16 ?k16 ?a17 ?l17 ?c17 ?k17 ?a18 ?l18 ?c18 ?k18 ?a19 ?l19 ?c19 ?k19 ?a20 ?l20 ?c20 ?k20 ?a21 ?l21 ?c21 ?k21 ?a22 ?l22 ?c22 ?k22 ?z_abs ?z_all ?z_bool ?z_enumerate ?z_int ?z_isinstance ?z_len ?z_list ?z_max ?z_min ?z_range ?z_repr ?z_tuple ?z_zip
    (case a0 => k_is); (case l0 => k_is); (case c0 => k_is); (case k0 => k_is); (case a1 => k_is); (case l1 => k_is); (case c1 => k_is); (case k1 => k_is); (case a2 => k_is); (case l2 => k_is); (case c2 => k_is); (case k2 => k_is); (case a3 => k_is); (case l3 => k_is); (case c3 => k_is); (case k3 => k_is); (case a4 => k_is); (case l4 => k_is); (case c4 => k_is); (case k4 => k_is); (case a5 => k_is); (case l5 => k_is); (case c5 => k_is); (case k5 => k_is); (case a6 => k_is); (case l6 => k_is); (case c6 => k_is); (case k6 => k_is); (case a7 => k_is); (case l7 => k_is); (case c7 => k_is); (case k7 => k_is); (case a8 => k_is); (case l8 => k_is); (case c8 => k_is); (case k8 => k_is); (case a9 => k_is); (case l9 => k_is); (case c9 => k_is); (case k9 => k_is); (case a10 => k_is); (case l10 => k_is); (case c10 => k_is); (case k10 => k_is); (case a11 => k_is); (case l11 => k_is); (case c11 => k_is); (case k11 => k_is); (case a12 => k_is); (case l12 => k_is); (case c12 => k_is); (case k12 => k_is); (case a13 => k_is); (case l13 => k_is); (case c13 => k_is); (case k13 => k_is); (case a14 => k_is); (case l14 => k_is); (case c14 => k_is); (case k14 => k_is); (case a15 => k_is); (case l15 => k_is); (case c15 => k_is); (case k15 => k_is); (case a16 => k_is); (case l16 => k_is); (case c16 => k_is); (case k16 => k_is); (case a17 => k_is); (case l17 => k_is); (case c17 => k_is); (case k17 => k_is); (case a18 => k_is); (case l18 => k_is); (case c18 => k_is); (case k18 => k_is); (case a19 => k_is); (case l19 => k_is); (case c19 => k_is); (case k19 => k_is); (case a20 => k_is); (case l20 => k_is); (case c20 => k_is); (case k20 => k_is); (case a21 => k_is); (case l21 => k_is); (case c21 => k_is); (case k21 => k_is); (case a22 => k_is); (case l22 => k_is); (case c22 => k_is); (case k22 => k_is); (case z_abs => k_is); (case z_all => k_is); (case z_bool => k_is); (case z_enumerate => k_is); (case z_int => k_is); (case z_isinstance => k_is); (case z_len => k_is); (case z_list => k_is); (case z_max => k_is); (case z_min => k_is); (case z_range => k_is); (case z_repr => k_is); (case z_tuple => k_is); (case z_zip => k_is)
end
