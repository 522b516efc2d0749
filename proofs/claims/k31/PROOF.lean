import PyProof.Rows.All
import HandS.ForMost
import HandS.TupAny
import HandS.Zip
import HandS.IsInst
import HandS.DictTup
import KE.KDictKeyed
import HandS.Small
import PyProof.CallFns
import HandS.Style
import KE.GoesNew
import HandS.Ends
import HandS.Words
import PyProof.StrLawsRepr
import KE.SortData
import HandS.Call
import KE.OsSort
import HandS.More
import HandS.DictComp
import HandS.Replace
import PySem.Challenge.RW_nocheaper_k31_whole_one_term_in_every_wo
set_option Elab.async false
set_option linter.all false
set_option maxRecDepth 100000
/-! Data over the abstract heap: trees of data, some of whose lists are owned (and may be changed), the others frozen. -/
namespace Dm
open PySem PySem.Spec PyProof.Rows L2

inductive D where
  | non | bl (b : Bool) | int (i : Int) | str (x : Str)
  | tup (xs : List D) | lst (o : Bool) (xs : List D) | scr (xs : List D)
  | dic (o : Bool) (ks vs : List D) | fn (x : Str) | ty (n : String) | ins (o : Bool) (c : Str) (fs : List Str) (vs : List D)

mutual
def froz : D → D
  | .tup xs => .tup (frozL xs)
  | .lst _ xs => .lst false (frozL xs)
  | .dic _ ks vs => .dic false ks (frozL vs)
  | .scr xs => .scr xs
  | .non => .non
  | .bl b => .bl b
  | .int i => .int i
  | .str x => .str x
  | .fn x => .fn x
  | .ty n => .ty n
  | .ins _ c fs vs => .ins false c fs (frozL vs)
def frozL : List D → List D
  | [] => []
  | x :: xs => froz x :: frozL xs
end
mutual
def isFz : D → Bool
  | .tup xs => isFzL xs
  | .lst o xs => !o && isFzL xs
  | .dic o ks vs => !o && isFzL vs
  | .ins o _ _ vs => !o && isFzL vs
  | .scr _ => true
  | .non => true
  | .bl _ => true
  | .int _ => true
  | .str _ => true
  | .fn _ => true
  | .ty _ => true
def isFzL : List D → Bool
  | [] => true
  | x :: xs => isFz x && isFzL xs
end
mutual
def toP : D → PyData
  | .non => .none
  | .bl b => .bool b
  | .int i => .int i
  | .str x => .str x
  | .tup xs => .tuple (toPL xs)
  | .lst _ xs => .list (toPL xs)
  | .dic _ _ _ => .none
  | .scr xs => .list (toPL xs)
  | .fn _ => .none
  | .ty _ => .none
  | .ins _ _ _ _ => .none
def toPL : List D → List PyData
  | [] => []
  | x :: xs => toP x :: toPL xs
end
/-! nones, truths, numbers, texts, tuples and lists of these -/
mutual
def isDat : D → Bool
  | .tup xs => isDatL xs
  | .lst _ xs => isDatL xs
  | .dic _ _ _ => false
  | .ins _ _ _ _ => false
  | .scr xs => isDatL xs
  | .fn _ => false
  | .ty _ => false
  | .non => true
  | .bl _ => true
  | .int _ => true
  | .str _ => true
def isDatL : List D → Bool
  | [] => true
  | x :: xs => isDat x && isDatL xs
end
theorem frozL_map : ∀ xs : List D, frozL xs = xs.map froz
  | [] => rfl
  | x :: xs => by rw [frozL, frozL_map xs, List.map_cons]
theorem toPL_map : ∀ xs : List D, toPL xs = xs.map toP
  | [] => rfl
  | x :: xs => by rw [toPL, toPL_map xs, List.map_cons]
theorem isFzL_all : ∀ xs : List D, isFzL xs = xs.all isFz
  | [] => rfl
  | x :: xs => by rw [isFzL, isFzL_all xs, List.all_cons]
theorem isDatL_all : ∀ xs : List D, isDatL xs = xs.all isDat
  | [] => rfl
  | x :: xs => by rw [isDatL, isDatL_all xs, List.all_cons]

/-! ### keys -/
def keyK : D → Option Key
  | .int i => some (.inl i)
  | .str x => some (.inr x)
  | _ => none
def keysK : List D → Option (List Key)
  | [] => some []
  | d :: ds => match keyK d, keysK ds with | some k, some ks => some (k :: ks) | _, _ => none
mutual
def keyN : D → Option NestedKey
  | .non => some .none
  | .bl b => some (.num (if b = true then 1 else 0))
  | .int i => some (.num i)
  | .str x => some (.text x)
  | .tup xs => match keysN xs with | some ks => some (.tup ks) | none => none
  | .lst _ _ => none
  | .scr _ => none
  | .dic _ _ _ => none
  | .fn _ => none
  | .ty _ => none
  | .ins _ _ _ _ => none
def keysN : List D → Option (List NestedKey)
  | [] => some []
  | d :: ds => match keyN d, keysN ds with | some k, some ks => some (k :: ks) | _, _ => none
end
/-! ### the module: what its names are, the program, the world -/
structure Md where
  f : Str → Option Value
  P : Program
  w : World
instance : CoeFun Md (fun _ => Str → Option Value) := ⟨Md.f⟩
instance : Coe Md (Str → Option Value) := ⟨Md.f⟩
/-- the kind of key of a dict whose keys are tuples -/
abbrev Md.nk (mg : Md) := nestedKind mg.P mg.w
def dtAll (xs : List (NestedKey × Addr × V)) (ys : List (NestedKey × Addr × Value)) : Prop :=
  Paired (fun (x : NestedKey × Addr × V) (y : NestedKey × Addr × Value) => x.1 = y.1 ∧ x.2.1 = y.2.1 ∧ RelV x.2.2 y.2.2) xs ys
def dtRaw (mg : Md) (a : Addr) (xs : List (NestedKey × Addr × V)) (h : Heap) : Prop :=
  ∃ ys, dtAll xs ys ∧ ∃ o es ep, h.get? a = some o ∧ o.ExactDict ∧ o.data = .dict es ep ∧ es.toList = ys.map (entryOfKey mg.nk)
/-- a dict whose keys are tuples (nested), as a thing of the abstract heap -/
def DtO (mg : Md) (a : Addr) (xs : List (NestedKey × Addr × V)) : HO := .ext (dtRaw mg a xs)
def dtOk (a : Addr) (xs : List (NestedKey × Addr × V)) : Prop := xs.length ≤ sizeLine ∧ (a == sysModules) = false ∧ (xs.map (·.1)).Nodup ∧ (∀ x ∈ xs, x.1.depth ≤ 8) ∧ xs ≠ []

/-! ### what a heap bears -/
section
variable (K : PySem.W.Frag) (mg : Md)
mutual
inductive Rp (F H : Hp) : V → D → List Addr → Prop
  | non : Rp F H .non .non []
  | bl (b : Bool) : Rp F H (.bl b) (.bl b) []
  | int (i : Int) : Rp F H (.int i) (.int i) []
  | str (x : Str) : Rp F H (.str x) (.str x) []
  | tup {a : Addr} {vs : List V} {ds : List D} {O : List Addr} : SqT K F a vs → vs.length ≤ sizeLine → RpL F H vs ds O → Rp F H (.ref a) (.tup ds) O
  | scr {a : Addr} {vs : List V} {ds : List D} : SqL K F a vs → vs.length ≤ sizeLine → RpL F H vs ds [] → Rp F H (.ref a) (.scr ds) []
  | lstF {a : Addr} {vs : List V} {ds : List D} : F a = some (.lst vs) → vs.length ≤ sizeLine → RpL F H vs ds [] → Rp F H (.ref a) (.lst false ds) []
  | lstO {a : Addr} {vs : List V} {ds : List D} {O : List Addr} : H a = some (.lst vs) → F a = none → vs.length ≤ sizeLine → RpL F H vs ds O → Rp F H (.ref a) (.lst true ds) (a :: O)
  | fn {a : Addr} {x : Str} : mg x = some (.ref a) → Rp F H (.ref a) (.fn x) []
  | ty (n : String) : Rp F H (.ty n) (.ty n) []
  | dKF {a : Addr} {kvs : List (Key × V)} {ks ds : List D} : F a = some (.dK kvs) → keysK ks = some (kvs.map (·.1)) ∧ (kvs.map (·.1)).Nodup → RpL F H (kvs.map (·.2)) ds [] → Rp F H (.ref a) (.dic false ks ds) []
  | dKO {a : Addr} {kvs : List (Key × V)} {ks ds : List D} {O : List Addr} : H a = some (.dK kvs) → F a = none → keysK ks = some (kvs.map (·.1)) ∧ (kvs.map (·.1)).Nodup → RpL F H (kvs.map (·.2)) ds O → Rp F H (.ref a) (.dic true ks ds) (a :: O)
  | dTF {a : Addr} {xs : List (NestedKey × Addr × V)} {ks ds : List D} : F a = some (DtO mg a xs) → dtOk a xs → keysN ks = some (xs.map (·.1)) → RpL F H (xs.map fun x => .ref x.2.1) ks [] → RpL F H (xs.map (·.2.2)) ds [] → Rp F H (.ref a) (.dic false ks ds) []
  | dTO {a : Addr} {xs : List (NestedKey × Addr × V)} {ks ds : List D} {O : List Addr} : H a = some (DtO mg a xs) → F a = none → dtOk a xs → keysN ks = some (xs.map (·.1)) → RpL F H (xs.map fun x => .ref x.2.1) ks [] → RpL F H (xs.map (·.2.2)) ds O → Rp F H (.ref a) (.dic true ks ds) (a :: O)
  | insF {a C dx : Addr} {c : Str} {kvs : List (Str × V)} {vs : List D} : mg c = some (.ref C) → F a = some (.ins C dx kvs) → F dx = some (.own a) → RpL F H (kvs.map (·.2)) vs [] → Rp F H (.ref a) (.ins false c (kvs.map (·.1)) vs) []
  | insO {a C dx : Addr} {c : Str} {kvs : List (Str × V)} {vs : List D} {O : List Addr} : mg c = some (.ref C) → H a = some (.ins C dx kvs) → H dx = some (.own a) → F a = none → F dx = none → RpL F H (kvs.map (·.2)) vs O → Rp F H (.ref a) (.ins true c (kvs.map (·.1)) vs) (a :: dx :: O)
inductive RpL (F H : Hp) : List V → List D → List Addr → Prop
  | nil : RpL F H [] [] []
  | cons {v : V} {vs : List V} {d : D} {ds : List D} {O1 O2 : List Addr} : Rp F H v d O1 → RpL F H vs ds O2 → RpL F H (v :: vs) (d :: ds) (O1 ++ O2)
end
end

structure Own (F H : Hp) (O : List Addr) : Prop where
  le : ∀ a o, F a = some o → H a = some o
  nd : O.Nodup
  out : ∀ a ∈ O, F a = none
  alive : ∀ a ∈ O, H a ≠ none
structure Ext (F H : Hp) (O : List Addr) (F' H' : Hp) (O' : List Addr) : Prop where
  fle : ∀ a o, F a = some o → F' a = some o
  hle : ∀ a o, H a = some o → a ∉ O → H' a = some o
  dom : ∀ a, H a ≠ none → H' a ≠ none
  fdom : ∀ a, F' a ≠ none → F a ≠ none ∨ a ∈ O ∨ H a = none
  odom : ∀ a ∈ O', a ∈ O ∨ H a = none

section
variable {K : PySem.W.Frag} {mg : Md} {F H F' H' F2 H2 : Hp} {O O' O1 O2 A B : List Addr} {v : V} {d : D} {vs : List V} {ds : List D} {a : Addr}
theorem Ext.refl : Ext F H O F H O := ⟨fun _ _ e => e, fun _ _ e _ => e, fun _ e => e, fun _ e => .inl e, fun _ e => .inl e⟩
theorem Ext.trans (x : Ext F H O F' H' O') (y : Ext F' H' O' F2 H2 O2) : Ext F H O F2 H2 O2 where
  fle := fun b o e => y.fle b o (x.fle b o e)
  hle := fun b o e n => y.hle b o (x.hle b o e n) fun m => by
    rcases x.odom b m with q | q
    · exact n q
    · rw [e] at q; cases q
  dom := fun b e => y.dom b (x.dom b e)
  fdom := fun b e => by
    rcases y.fdom b e with q | q | q
    · exact x.fdom b q
    · exact .inr (x.odom b q)
    · exact .inr (.inr (Classical.byContradiction fun n => x.dom b n q))
  odom := fun b m => by
    rcases y.odom b m with q | q
    · exact x.odom b q
    · exact .inr (Classical.byContradiction fun n => x.dom b n q)
theorem Ext.sub (x : Ext F H O F' H' O') (h1 : ∀ b ∈ O, b ∈ A) (h2 : ∀ b ∈ B, b ∈ O' ∨ b ∈ A) : Ext F H A F' H' B where
  fle := x.fle
  hle := fun b o e n => x.hle b o e fun m => n (h1 b m)
  dom := x.dom
  fdom := fun b e => by
    rcases x.fdom b e with q | q | q
    · exact .inl q
    · exact .inr (.inl (h1 b q))
    · exact .inr (.inr q)
  odom := fun b m => by
    rcases h2 b m with q | q
    · rcases x.odom b q with r | r
      · exact .inl (h1 b r)
      · exact .inr r
    · exact .inl q
theorem Own.sub (w : Own F H A) (hd : B.Nodup) (hs : ∀ b ∈ B, b ∈ A) : Own F H B := ⟨w.le, hd, fun b m => w.out b (hs b m), fun b m => w.alive b (hs b m)⟩

/-! owned addresses are alive and not frozen -/
mutual
theorem Rp.alive : ∀ {d : D} {v : V} {O : List Addr}, Rp K mg F H v d O → ∀ a ∈ O, H a ≠ none ∧ F a = none
  | .non, _, _, .non, _, m => by cases m
  | .bl _, _, _, .bl _, _, m => by cases m
  | .int _, _, _, .int _, _, m => by cases m
  | .str _, _, _, .str _, _, m => by cases m
  | .fn _, _, _, .fn _, _, m => by cases m
  | .ty _, _, _, .ty _, _, m => by cases m
  | .tup ds, _, _, .tup _ _ h, a, m => RpL.alive h a m
  | .scr ds, _, _, .scr _ _ h, a, m => RpL.alive h a m
  | .lst _ ds, _, _, .lstF _ _ h, a, m => RpL.alive h a m
  | .lst _ ds, _, _, .lstO h1 h2 _ h, a, m => by
    rcases List.mem_cons.mp m with e | m
    · subst e; exact ⟨by rw [h1]; simp, h2⟩
    · exact RpL.alive h a m
  | .dic _ _ ds, _, _, .dKF _ _ h, a, m => by cases m
  | .dic _ _ ds, _, _, .dTF _ _ _ _ h, a, m => by cases m
  | .ins _ _ _ ds, _, _, .insF _ _ _ h, a, m => by cases m
  | .dic _ _ ds, _, _, .dKO h1 h2 _ h, a, m => by
    rcases List.mem_cons.mp m with e | m
    · subst e; exact ⟨by rw [h1]; simp, h2⟩
    · exact RpL.alive h a m
  | .dic _ _ ds, _, _, .dTO h1 h2 _ _ _ h, a, m => by
    rcases List.mem_cons.mp m with e | m
    · subst e; exact ⟨by rw [h1]; simp, h2⟩
    · exact RpL.alive h a m
  | .ins _ _ _ ds, _, _, .insO _ h1 h2 h3 h4 h, a, m => by
    rcases List.mem_cons.mp m with e | m
    · subst e; exact ⟨by rw [h1]; simp, h3⟩
    · rcases List.mem_cons.mp m with e | m
      · subst e; exact ⟨by rw [h2]; simp, h4⟩
      · exact RpL.alive h a m
theorem RpL.alive : ∀ {ds : List D} {vs : List V} {O : List Addr}, RpL K mg F H vs ds O → ∀ a ∈ O, H a ≠ none ∧ F a = none
  | [], _, _, .nil, _, m => by cases m
  | d :: ds, _, _, .cons h1 h2, a, m => by
    rcases List.mem_append.mp m with m | m
    · exact Rp.alive h1 a m
    · exact RpL.alive h2 a m
end
theorem Rd.up {a : Addr} {u : HO} (f : ∀ a o, F a = some o → F' a = some o) : Rd F a u → Rd F' a u
  | .inl e => .inl (f _ _ e)
  | .inr ⟨o, e⟩ => .inr ⟨o, f _ _ e⟩
theorem SqL.up {a : Addr} {xs : List V} (f : ∀ a o, F a = some o → F' a = some o) : SqL K F a xs → SqL K F' a xs
  | .inl e => .inl (Rd.up f e)
  | .inr e => .inr e
theorem SqT.up {a : Addr} {xs : List V} (f : ∀ a o, F a = some o → F' a = some o) : SqT K F a xs → SqT K F' a xs
  | .inl e => .inl (Rd.up f e)
  | .inr e => .inr e
theorem Ext.unf (x : Ext F H O F' H' O') {o : HO} (e1 : H a = some o) (e2 : F a = none) (n : a ∉ O) : F' a = none := Classical.byContradiction fun q => by
  rcases x.fdom a q with r | r | r
  · exact r e2
  · exact n r
  · rw [e1] at r; cases r
/-! what is owned elsewhere is left as it is -/
mutual
theorem Rp.ext (x : Ext F H O F' H' O') : ∀ {d : D} {v : V} {A : List Addr}, Rp K mg F H v d A → (∀ a ∈ A, a ∉ O) → Rp K mg F' H' v d A
  | .non, _, _, .non, _ => .non
  | .bl _, _, _, .bl b, _ => .bl b
  | .int _, _, _, .int b, _ => .int b
  | .str _, _, _, .str b, _ => .str b
  | .fn _, _, _, .fn e, _ => .fn e
  | .ty _, _, _, .ty e, _ => .ty e
  | .tup ds, _, _, .tup e z h, n => .tup (SqT.up x.fle e) z (RpL.ext x h n)
  | .scr ds, _, _, .scr e z h, n => .scr (SqL.up x.fle e) z (RpL.ext x h n)
  | .lst _ ds, _, _, .lstF e z h, n => .lstF (x.fle _ _ e) z (RpL.ext x h n)
  | .lst _ ds, _, _, .lstO (a := a) e1 e2 z h, n => by
    refine .lstO (x.hle _ _ e1 (n a List.mem_cons_self)) ?_ z (RpL.ext x h fun b m => n b (List.mem_cons_of_mem _ m))
    refine Classical.byContradiction fun q => ?_
    rcases x.fdom a q with r | r | r
    · exact r e2
    · exact n a List.mem_cons_self r
    · rw [e1] at r; cases r
  | .dic _ ks ds, _, _, .dKF e z h, n => .dKF (x.fle _ _ e) z (RpL.ext x h n)
  | .dic _ ks ds, _, _, .dTF e z w hk h, n => .dTF (x.fle _ _ e) z w (RpL.ext x hk fun _ m => by cases m) (RpL.ext x h n)
  | .ins _ _ _ ds, _, _, .insF e0 e e2 h, n => .insF e0 (x.fle _ _ e) (x.fle _ _ e2) (RpL.ext x h n)
  | .dic _ ks ds, _, _, .dKO (a := a) e1 e2 z h, n => .dKO (x.hle _ _ e1 (n a List.mem_cons_self)) (x.unf e1 e2 (n a List.mem_cons_self)) z (RpL.ext x h fun b m => n b (List.mem_cons_of_mem _ m))
  | .dic _ ks ds, _, _, .dTO (a := a) e1 e2 z w hk h, n => .dTO (x.hle _ _ e1 (n a List.mem_cons_self)) (x.unf e1 e2 (n a List.mem_cons_self)) z w (RpL.ext x hk fun _ m => by cases m) (RpL.ext x h fun b m => n b (List.mem_cons_of_mem _ m))
  | .ins _ _ _ ds, _, _, .insO (a := a) (dx := dx) e0 e1 e3 e2 e4 h, n =>
    have n1 := n a List.mem_cons_self
    have n2 := n dx (List.mem_cons_of_mem _ List.mem_cons_self)
    .insO e0 (x.hle _ _ e1 n1) (x.hle _ _ e3 n2) (x.unf e1 e2 n1) (x.unf e3 e4 n2) (RpL.ext x h fun b m => n b (List.mem_cons_of_mem _ (List.mem_cons_of_mem _ m)))
theorem RpL.ext (x : Ext F H O F' H' O') : ∀ {ds : List D} {vs : List V} {A : List Addr}, RpL K mg F H vs ds A → (∀ a ∈ A, a ∉ O) → RpL K mg F' H' vs ds A
  | [], _, _, .nil, _ => .nil
  | d :: ds, _, _, .cons h1 h2, n => .cons (Rp.ext x h1 fun b m => n b (List.mem_append_left _ m)) (RpL.ext x h2 fun b m => n b (List.mem_append_right _ m))
end
/-- what is held while others change: it stays held, and apart -/
theorem Own.frame (w : Own F H (A ++ O)) (x : Ext F H O F' H' O') (w' : Own F' H' O') : Own F' H' (A ++ O') := by
  have nd := List.nodup_append.mp w.nd
  refine ⟨w'.le, List.nodup_append.mpr ⟨nd.1, w'.nd, fun b hb c hc e => ?_⟩, fun b m => ?_, fun b m => ?_⟩
  · subst e
    rcases x.odom b hc with q | q
    · exact nd.2.2 b hb b q rfl
    · exact w.alive b (List.mem_append_left _ hb) q
  · rcases List.mem_append.mp m with m | m
    · refine Classical.byContradiction fun q => ?_
      rcases x.fdom b q with r | r | r
      · exact r (w.out b (List.mem_append_left _ m))
      · exact nd.2.2 b m b r rfl
      · exact w.alive b (List.mem_append_left _ m) r
    · exact w'.out b m
  · rcases List.mem_append.mp m with m | m
    · exact x.dom b (w.alive b (List.mem_append_left _ m))
    · exact w'.alive b m
theorem Own.apart (w : Own F H (A ++ O)) : ∀ a ∈ A, a ∉ O := fun a m n => (List.nodup_append.mp w.nd).2.2 a m a n rfl
theorem Own.right (w : Own F H (A ++ O)) : Own F H O := w.sub (List.nodup_append.mp w.nd).2.1 fun _ m => List.mem_append_right _ m
theorem Own.left (w : Own F H (A ++ O)) : Own F H A := w.sub (List.nodup_append.mp w.nd).1 fun _ m => List.mem_append_left _ m
theorem Own.swap (w : Own F H (A ++ O)) : Own F H (O ++ A) := by
  have nd := List.nodup_append.mp w.nd
  refine w.sub (List.nodup_append.mpr ⟨nd.2.1, nd.1, fun a x b y e => nd.2.2 b y a x e.symm⟩) fun b m => ?_
  rcases List.mem_append.mp m with m | m
  · exact List.mem_append_right _ m
  · exact List.mem_append_left _ m
theorem Ext.frame (w : Own F H (A ++ O)) (x : Ext F H O F' H' O') : Ext F H (A ++ O) F' H' (A ++ O') :=
  x.sub (fun b m => List.mem_append_right _ m) fun b m => by
    rcases List.mem_append.mp m with m | m
    · exact .inr (List.mem_append_left _ m)
    · exact .inl m

/-! as data of the library -/
mutual
theorem Rp.dp (f : ∀ a o, F a = some o → H a = some o) : ∀ {d : D} {v : V} {A : List Addr}, isDat d = true → Rp K mg F H v d A → Dp K H v (toP d)
  | .non, _, _, _, .non => .non
  | .bl _, _, _, _, .bl b => .bl b
  | .int _, _, _, _, .int b => .int b
  | .str _, _, _, _, .str b => .str b
  | .tup ds, _, _, p, .tup e z h => .tup (SqT.up f e) (RpL.dp f (by simpa only [isDat] using p) h)
  | .scr ds, _, _, p, .scr e z h => .lst (SqL.up f e) (RpL.dp f (by simpa only [isDat] using p) h)
  | .lst _ ds, _, _, p, .lstF e z h => .lst (SqL.of (f _ _ e)) (RpL.dp f (by simpa only [isDat] using p) h)
  | .lst _ ds, _, _, p, .lstO e1 e2 z h => .lst (SqL.of e1) (RpL.dp f (by simpa only [isDat] using p) h)
theorem RpL.dp (f : ∀ a o, F a = some o → H a = some o) : ∀ {ds : List D} {vs : List V} {A : List Addr}, isDatL ds = true → RpL K mg F H vs ds A → DpAll K H vs (toPL ds)
  | [], _, _, _, .nil => .nil
  | d :: ds, _, _, p, .cons h1 h2 => by
    simp only [isDatL, Bool.and_eq_true] at p
    exact .cons (Rp.dp f p.1 h1) (RpL.dp f p.2 h2)
end
end
end Dm

namespace Dm
open PySem PySem.Spec PyProof.Rows L2
abbrev Ev := List (Option D)

section
variable {K : PySem.W.Frag} {mg : Md} {F H F' H' F2 H2 : Hp} {O O' O1 O2 A B : List Addr} {v : V} {d : D} {vs : List V} {ds : List D} {a : Addr}
theorem Own.perm (w : Own F H A) (p : A.Perm B) : Own F H B := w.sub (p.nodup_iff.mp w.nd) fun b m => p.mem_iff.mpr m
theorem Ext.perm (x : Ext F H O F' H' O') (p : O.Perm A) (q : O'.Perm B) : Ext F H A F' H' B :=
  x.sub (fun b m => p.mem_iff.mp m) fun b m => .inl (q.mem_iff.mpr m)

/-- quiet: nothing that stood is changed -/
structure Qx (F H F' H' : Hp) : Prop where
  ext : Ext F H [] F' H' []
  le : ∀ a o, F' a = some o → H' a = some o
theorem Qx.refl (f : ∀ a o, F a = some o → H a = some o) : Qx F H F H := ⟨Ext.refl, f⟩
theorem Qx.trans (x : Qx F H F' H') (y : Qx F' H' F2 H2) : Qx F H F2 H2 := ⟨x.ext.trans y.ext, y.le⟩
theorem Own.nil (f : ∀ a o, F a = some o → H a = some o) : Own F H [] := ⟨f, List.nodup_nil, fun _ m => (by cases m), fun _ m => (by cases m)⟩
theorem Qx.own (x : Qx F H F' H') (w : Own F H O) : Own F' H' O := by
  have w1 : Own F H (O ++ []) := by rw [List.append_nil]; exact w
  have q := w1.frame x.ext (Own.nil x.le)
  rw [List.append_nil] at q
  exact q
theorem Qx.extO (x : Qx F H F' H') : Ext F H O F' H' O := x.ext.sub (fun _ m => (by cases m)) fun b m => .inr m
theorem Qx.hle (x : Qx F H F' H') : ∀ a o, H a = some o → H' a = some o := fun a o e => x.ext.hle a o e (fun m => by cases m)
theorem Qx.rp (x : Qx F H F' H') (r : Rp K mg F H v d A) : Rp K mg F' H' v d A := r.ext x.ext fun _ _ m => by cases m
theorem Qx.rpl (x : Qx F H F' H') (r : RpL K mg F H vs ds A) : RpL K mg F' H' vs ds A := r.ext x.ext fun _ _ m => by cases m

/-! frozen data own nothing -/
mutual
theorem Rp.fz : ∀ {d : D} {v : V} {A : List Addr}, isFz d = true → Rp K mg F H v d A → A = []
  | .non, _, _, _, .non => rfl
  | .bl _, _, _, _, .bl _ => rfl
  | .int _, _, _, _, .int _ => rfl
  | .str _, _, _, _, .str _ => rfl
  | .fn _, _, _, _, .fn _ => rfl
  | .ty _, _, _, _, .ty _ => rfl
  | .tup ds, _, _, p, .tup _ _ h => RpL.fz (by simpa only [isFz] using p) h
  | .scr ds, _, _, p, .scr _ _ h => rfl
  | .lst false ds, _, _, p, .lstF _ _ h => rfl
  | .lst true ds, _, _, p, .lstO _ _ _ h => by simp [isFz] at p
  | .dic false _ ds, _, _, p, .dKF _ _ _ => rfl
  | .dic false _ ds, _, _, p, .dTF _ _ _ _ _ => rfl
  | .dic true _ ds, _, _, p, .dKO _ _ _ _ => by simp [isFz] at p
  | .dic true _ ds, _, _, p, .dTO _ _ _ _ _ _ => by simp [isFz] at p
  | .ins false _ _ ds, _, _, p, .insF _ _ _ _ => rfl
  | .ins true _ _ ds, _, _, p, .insO _ _ _ _ _ _ => by simp [isFz] at p
theorem RpL.fz : ∀ {ds : List D} {vs : List V} {A : List Addr}, isFzL ds = true → RpL K mg F H vs ds A → A = []
  | [], _, _, _, .nil => rfl
  | d :: ds, _, _, p, .cons h1 h2 => by
    simp only [isFzL, Bool.and_eq_true] at p
    rw [Rp.fz p.1 h1, RpL.fz p.2 h2] <;> rfl
end
/-! frozen data over more frozen things -/
mutual
theorem Rp.up (f : ∀ a o, F a = some o → F' a = some o) : ∀ {d : D} {v : V}, Rp K mg F H v d [] → Rp K mg F' H' v d []
  | .non, _, .non => .non
  | .bl _, _, .bl b => .bl b
  | .int _, _, .int b => .int b
  | .str _, _, .str b => .str b
  | .fn _, _, .fn e => .fn e
  | .ty _, _, .ty e => .ty e
  | .tup ds, _, .tup e z h => .tup (SqT.up f e) z (RpL.up f h)
  | .scr ds, _, .scr e z h => .scr (SqL.up f e) z (RpL.up f h)
  | .lst false ds, _, .lstF e z h => .lstF (f _ _ e) z (RpL.up f h)
  | .dic false _ ds, _, .dKF e z h => .dKF (f _ _ e) z (RpL.up f h)
  | .dic false _ ds, _, .dTF e z w hk h => .dTF (f _ _ e) z w (RpL.up f hk) (RpL.up f h)
  | .ins false _ _ ds, _, .insF e0 e e2 h => .insF e0 (f _ _ e) (f _ _ e2) (RpL.up f h)
theorem RpL.up (f : ∀ a o, F a = some o → F' a = some o) : ∀ {ds : List D} {vs : List V}, RpL K mg F H vs ds [] → RpL K mg F' H' vs ds []
  | [], _, .nil => .nil
  | d :: ds, _, h => by
    generalize e : ([] : List Addr) = A at h
    cases h with
    | @cons v vs _ _ O1 O2 h1 h2 =>
      have e' := List.append_eq_nil_iff.mp e.symm
      obtain ⟨e1, e2⟩ := e'
      subst e1 e2
      exact .cons (Rp.up f h1) (RpL.up f h2)
end
/-! freezing -/
mutual
theorem Rp.froz (f : ∀ a o, F a = some o → F' a = some o) (g : ∀ a ∈ B, F' a = H a) : ∀ {d : D} {v : V} {A : List Addr}, Rp K mg F H v d A → (∀ a ∈ A, a ∈ B) → Rp K mg F' H v (Dm.froz d) []
  | .non, _, _, .non, _ => .non
  | .bl _, _, _, .bl b, _ => .bl b
  | .int _, _, _, .int b, _ => .int b
  | .str _, _, _, .str b, _ => .str b
  | .fn _, _, _, .fn e, _ => .fn e
  | .ty _, _, _, .ty e, _ => .ty e
  | .tup ds, _, _, .tup e z h, s => .tup (SqT.up f e) z (RpL.froz f g h s)
  | .scr ds, _, _, .scr e z h, s => by
    exact .scr (SqL.up f e) z (RpL.up (H' := H) f h)
  | .lst _ ds, _, _, .lstF e z h, s => .lstF (f _ _ e) z (RpL.froz f g h (fun _ m => by cases m))
  | .lst _ ds, _, _, .lstO (a := a) e1 e2 z h, s => .lstF ((g a (s a List.mem_cons_self)).trans e1) z (RpL.froz f g h (fun b m => s b (List.mem_cons_of_mem _ m)))
  | .dic _ _ ds, _, _, .dKF e z h, s => .dKF (f _ _ e) z (RpL.froz f g h (fun _ m => by cases m))
  | .dic _ _ ds, _, _, .dTF e z w hk h, s => .dTF (f _ _ e) z w (RpL.up (H' := H) f hk) (RpL.froz f g h (fun _ m => by cases m))
  | .ins _ _ _ ds, _, _, .insF e0 e e2 h, s => .insF e0 (f _ _ e) (f _ _ e2) (RpL.froz f g h (fun _ m => by cases m))
  | .dic _ _ ds, _, _, .dKO (a := a) e1 e2 z h, s => .dKF ((g a (s a List.mem_cons_self)).trans e1) z (RpL.froz f g h (fun b m => s b (List.mem_cons_of_mem _ m)))
  | .dic _ _ ds, _, _, .dTO (a := a) e1 e2 z w hk h, s => .dTF ((g a (s a List.mem_cons_self)).trans e1) z w (RpL.up (H' := H) f hk) (RpL.froz f g h (fun b m => s b (List.mem_cons_of_mem _ m)))
  | .ins _ _ _ ds, _, _, .insO (a := a) (dx := dx) e0 e1 e3 e2 e4 h, s => .insF e0 ((g a (s a List.mem_cons_self)).trans e1) ((g dx (s dx (List.mem_cons_of_mem _ List.mem_cons_self))).trans e3) (RpL.froz f g h (fun b m => s b (List.mem_cons_of_mem _ (List.mem_cons_of_mem _ m))))
theorem RpL.froz (f : ∀ a o, F a = some o → F' a = some o) (g : ∀ a ∈ B, F' a = H a) : ∀ {ds : List D} {vs : List V} {A : List Addr}, RpL K mg F H vs ds A → (∀ a ∈ A, a ∈ B) → RpL K mg F' H vs (frozL ds) []
  | [], _, _, .nil, _ => .nil
  | d :: ds, _, _, .cons h1 h2, s => .cons (Rp.froz f g h1 (fun b m => s b (List.mem_append_left _ m))) (RpL.froz f g h2 (fun b m => s b (List.mem_append_right _ m)))
end
def frz (F H : Hp) (A : List Addr) : Hp := fun b => if b ∈ A then H b else F b
theorem frz_ext (w : Own F H A) : Ext F H A (frz F H A) H [] where
  fle := fun b o e => by
    unfold frz
    split
    · rename_i m
      rw [w.out b m] at e; cases e
    · exact e
  hle := fun _ _ e _ => e
  dom := fun _ e => e
  fdom := fun b e => by
    unfold frz at e
    split at e
    · rename_i m; exact .inr (.inl m)
    · exact .inl e
  odom := fun _ m => by cases m
theorem frz_le (w : Own F H A) : ∀ a o, frz F H A a = some o → H a = some o := fun b o e => by
  unfold frz at e
  split at e
  · exact e
  · exact w.le b o e
theorem Rp.freeze (w : Own F H A) (r : Rp K mg F H v d A) : Rp K mg (frz F H A) H v (Dm.froz d) [] :=
  Rp.froz (B := A) (frz_ext w).fle (fun b m => if_pos m) r fun _ m => m
theorem RpL.freeze (w : Own F H A) (r : RpL K mg F H vs ds A) : RpL K mg (frz F H A) H vs (frozL ds) [] :=
  RpL.froz (B := A) (frz_ext w).fle (fun b m => if_pos m) r fun _ m => m
end

/-! ### slots -/
section
variable (K : PySem.W.Frag) (mg : Md)
inductive RpO (F H : Hp) : Option V → Option D → List Addr → Prop
  | none {x : Option V} : RpO F H x Option.none []
  | some {v : V} {d : D} {O : List Addr} : Rp K mg F H v d O → RpO F H (Option.some v) (Option.some d) O
inductive RpS (F H : Hp) : List (Option V) → Ev → List Addr → Prop
  | nil : RpS F H [] [] []
  | cons {x : Option V} {y : Option D} {σ : List (Option V)} {E : Ev} {O1 O2 : List Addr} : RpO K mg F H x y O1 → RpS F H σ E O2 → RpS F H (x :: σ) (y :: E) (O1 ++ O2)
end
section
variable {K : PySem.W.Frag} {mg : Md} {F H F' H' F2 H2 : Hp} {O O' O1 O2 A B : List Addr} {v : V} {d : D} {vs : List V} {ds : List D} {a : Addr} {σ : List (Option V)} {E : Ev} {i : Nat}
theorem RpO.ext (x : Ext F H O F' H' O') {u : Option V} {y : Option D} : RpO K mg F H u y A → (∀ a ∈ A, a ∉ O) → RpO K mg F' H' u y A
  | .none, _ => .none
  | .some r, n => .some (r.ext x n)
theorem RpS.ext (x : Ext F H O F' H' O') : ∀ {E : Ev} {σ : List (Option V)} {A : List Addr}, RpS K mg F H σ E A → (∀ a ∈ A, a ∉ O) → RpS K mg F' H' σ E A
  | _, _, _, .nil, _ => .nil
  | _, _, _, .cons h1 h2, n => .cons (h1.ext x fun b m => n b (List.mem_append_left _ m)) (RpS.ext x h2 fun b m => n b (List.mem_append_right _ m))
theorem Qx.rps (x : Qx F H F' H') (r : RpS K mg F H σ E A) : RpS K mg F' H' σ E A := r.ext x.ext fun _ _ m => by cases m
theorem RpS.length : ∀ {E : Ev} {σ : List (Option V)} {A : List Addr}, RpS K mg F H σ E A → σ.length = E.length
  | _, _, _, .nil => rfl
  | _, _, _, .cons _ h2 => by rw [List.length_cons, List.length_cons, RpS.length h2]
/-- a slot by itself: the others stay while it changes -/
theorem RpS.focus : ∀ {E : Ev} {σ : List (Option V)} {O : List Addr} {i : Nat} {d : D}, RpS K mg F H σ E O → E[i]? = some (some d) →
    ∃ v O1 A O2, O = O1 ++ (A ++ O2) ∧ σ[i]? = some (some v) ∧ Rp K mg F H v d A ∧
      ∀ (F' H' : Hp) (v' : V) (d' : D) (A' : List Addr), (∀ {x y B}, RpO K mg F H x y B → (∀ b ∈ B, b ∈ O1 ++ O2) → RpO K mg F' H' x y B) → Rp K mg F' H' v' d' A' →
        RpS K mg F' H' (σ.set i (some v')) (E.set i (some d')) (O1 ++ (A' ++ O2))
  | _, _, _, i, d, .nil, e => by simp at e
  | _, _, _, 0, d, .cons (O1 := P1) (O2 := P2) h1 h2, e => by
    simp at e
    subst e
    cases h1 with
    | @some v _ _ r =>
      refine ⟨v, [], P1, P2, rfl, rfl, r, fun F' H' v' d' A' st r' => ?_⟩
      have rest : ∀ {E : Ev} {σ : List (Option V)} {A : List Addr}, RpS K mg F H σ E A → (∀ b ∈ A, b ∈ P2) → RpS K mg F' H' σ E A := by
        intro E σ A h
        induction h with
        | nil => intro _; exact .nil
        | cons k1 k2 ih => intro m; exact .cons (st k1 fun b q => m b (List.mem_append_left _ q)) (ih fun b q => m b (List.mem_append_right _ q))
      show RpS K mg F' H' _ _ (A' ++ P2)
      exact .cons (.some r') (rest h2 fun _ m => m)
  | _, _, _, i + 1, d, .cons (O1 := P1) (O2 := P2) h1 h2, e => by
    obtain ⟨v, Q1, A, Q2, eq, es, r, go⟩ := RpS.focus (i := i) h2 (by simpa using e)
    subst eq
    refine ⟨v, P1 ++ Q1, A, Q2, by rw [List.append_assoc], by simpa using es, r, fun F' H' v' d' A' st r' => ?_⟩
    rw [List.append_assoc]
    refine .cons (st h1 fun b m => List.mem_append_left _ (List.mem_append_left _ m)) (go F' H' v' d' A' (fun k m => st k fun b q => ?_) r')
    rw [List.append_assoc]
    exact List.mem_append_right _ (m b q)
theorem set_same {α : Type} : ∀ {l : List α} {i : Nat} {x : α}, l[i]? = some x → l.set i x = l
  | [], _, _, e => by simp at e
  | _ :: _, 0, _, e => by simp at e; subst e; rfl
  | y :: l, i + 1, x, e => by
    rw [List.set_cons_succ, set_same (i := i) (by simpa using e)]
theorem RpS.change (w : Own F H O) (h : RpS K mg F H σ E O) (e : E[i]? = some (some d)) : ∃ v A, σ[i]? = some (some v) ∧ Rp K mg F H v d A ∧ Own F H A ∧ (∀ a ∈ A, a ∈ O) ∧
    ∀ (F' H' : Hp) (d' : D) (A' : List Addr), Ext F H A F' H' A' → Own F' H' A' → Rp K mg F' H' v d' A' →
      ∃ O', RpS K mg F' H' σ (E.set i (some d')) O' ∧ Own F' H' O' ∧ Ext F H O F' H' O' := by
  obtain ⟨v, O1, A, O2, eq, es, r, go⟩ := h.focus e
  subst eq
  have p : (O1 ++ (A ++ O2)).Perm ((O1 ++ O2) ++ A) := by
    refine (List.Perm.append_left O1 List.perm_append_comm).trans ?_
    rw [List.append_assoc]
  have w1 := w.perm p
  refine ⟨v, A, es, r, w1.right, fun b m => List.mem_append_right _ (List.mem_append_left _ m), fun F' H' d' A' x w' r' => ?_⟩
  have q := go F' H' v d' A' (fun k m => k.ext x fun b hb => w1.apart b (m b hb)) r'
  rw [set_same es] at q
  have p' : ((O1 ++ O2) ++ A').Perm (O1 ++ (A' ++ O2)) := by
    rw [List.append_assoc]
    exact List.Perm.append_left O1 List.perm_append_comm
  exact ⟨_, q, (w1.frame x w').perm p', (x.frame w1).perm p.symm p'⟩
theorem RpS.get (w : Own F H O) (h : RpS K mg F H σ E O) (e : E[i]? = some (some d)) : ∃ v A, σ[i]? = some (some v) ∧ Rp K mg F H v d A :=
  let ⟨v, A, e1, r, _⟩ := h.change w e
  ⟨v, A, e1, r⟩
theorem RpS.put : ∀ {E : Ev} {σ : List (Option V)} {O : List Addr} {i : Nat} {y : Option D} {x : Option V}, RpS K mg F H σ E O → RpO K mg F H x y B →
    ∃ O1 A O2, O = O1 ++ (A ++ O2) ∧ ((RpS K mg F H (σ.set i x) (E.set i y) (O1 ++ (B ++ O2)) ∧ i < E.length) ∨ (A = [] ∧ RpS K mg F H (σ.set i x) (E.set i y) (O1 ++ O2)))
  | _, _, _, i, y, x, .nil, r => ⟨[], [], [], rfl, .inr ⟨rfl, .nil⟩⟩
  | _, _, _, 0, y, x, .cons (O1 := P1) (O2 := P2) h1 h2, r => ⟨[], P1, P2, rfl, .inl ⟨(show RpS K mg F H _ _ (B ++ P2) from .cons r h2), Nat.succ_pos _⟩⟩
  | _, _, _, i + 1, y, x, .cons (O1 := P1) (O2 := P2) h1 h2, r => by
    obtain ⟨Q1, A, Q2, eq, go⟩ := RpS.put (i := i) h2 r
    subst eq
    refine ⟨P1 ++ Q1, A, Q2, by rw [List.append_assoc], ?_⟩
    rw [List.append_assoc, List.append_assoc]
    rcases go with ⟨g, l⟩ | ⟨z, g⟩
    · exact .inl ⟨.cons h1 g, Nat.succ_lt_succ l⟩
    · exact .inr ⟨z, .cons h1 g⟩
theorem RpS.assign (w : Own F H (B ++ O)) (h : RpS K mg F H σ E O) (r : Rp K mg F H v d B) : ∃ O', RpS K mg F H (σ.set i (some v)) (E.set i (some d)) O' ∧ Own F H O' ∧ ∀ a ∈ O', a ∈ B ++ O := by
  obtain ⟨O1, A, O2, eq, go⟩ := h.put (i := i) (RpO.some r)
  subst eq
  have nd := List.nodup_append.mp w.nd
  have nd2 := List.nodup_append.mp nd.2.1
  have nd3 := List.nodup_append.mp nd2.2.1
  have wl := w.left
  rcases go with ⟨g, _⟩ | ⟨_, g⟩
  · refine ⟨_, g, w.sub ?_ ?_, ?_⟩
    · refine List.nodup_append.mpr ⟨nd2.1, List.nodup_append.mpr ⟨nd.1, nd3.2.1, fun a x b y e => nd.2.2 a x b (List.mem_append_right _ (List.mem_append_right _ y)) e⟩, fun a x b y e => ?_⟩
      rcases List.mem_append.mp y with y | y
      · exact nd.2.2 b y a (List.mem_append_left _ x) e.symm
      · exact nd2.2.2 a x b (List.mem_append_right _ y) e
    all_goals
      intro b m
      rcases List.mem_append.mp m with m | m
      · exact List.mem_append_right _ (List.mem_append_left _ m)
      · rcases List.mem_append.mp m with m | m
        · exact List.mem_append_left _ m
        · exact List.mem_append_right _ (List.mem_append_right _ (List.mem_append_right _ m))
  · refine ⟨_, g, w.sub ?_ ?_, ?_⟩
    · exact List.nodup_append.mpr ⟨nd2.1, nd3.2.1, fun a x b y e => nd2.2.2 a x b (List.mem_append_right _ y) e⟩
    all_goals
      intro b m
      rcases List.mem_append.mp m with m | m
      · exact List.mem_append_right _ (List.mem_append_left _ m)
      · exact List.mem_append_right _ (List.mem_append_right _ (List.mem_append_right _ m))
end
end Dm

namespace Dm
open PySem PySem.Spec L2
open PyProof.Rows hiding St
/-! judgements: what an expression's reading computes of the slots. q: quietly (nothing that stood changes, the value may share with slots); e: owned or frozen value, slots may change -/
section
variable (K : PySem.W.Frag) (mg : Md)
def Qt (t : TE) (f : Ev → Option D) : Prop := ∀ (F H : Hp) (O : List Addr) (σ : L2.St) (E : Ev) (d : D), f E = some d → Own F H O → RpS K mg F H σ E O →
  ∀ Q : VK, (∀ v F' H' A, Qx F H F' H' → Rp K mg F' H' v d A → Q v H') → t σ H Q
def De (t : TE) (f : Ev → Option (D × Ev)) : Prop := ∀ (F H : Hp) (O : List Addr) (σ : L2.St) (E : Ev) (d : D) (E' : Ev), f E = some (d, E') → Own F H O → RpS K mg F H σ E O →
  ∀ Q : VK, (∀ v F' H' A O', Ext F H O F' H' (A ++ O') → Own F' H' (A ++ O') → Rp K mg F' H' v d A → RpS K mg F' H' σ E' O' → Q v H') → t σ H Q
def Qa (t : TA) (f : Ev → Option (List D)) : Prop := ∀ (F H : Hp) (O : List Addr) (σ : L2.St) (E : Ev) (ds : List D), f E = some ds → Own F H O → RpS K mg F H σ E O →
  ∀ Q : List V → Hp → Prop, (∀ vs F' H' A, Qx F H F' H' → RpL K mg F' H' vs ds A → Q vs H') → t σ H Q
def Da (t : TA) (f : Ev → Option (List D × Ev)) : Prop := ∀ (F H : Hp) (O : List Addr) (σ : L2.St) (E : Ev) (ds : List D) (E' : Ev), f E = some (ds, E') → Own F H O → RpS K mg F H σ E O →
  ∀ Q : List V → Hp → Prop, (∀ vs F' H' A O', Ext F H O F' H' (A ++ O') → Own F' H' (A ++ O') → RpL K mg F' H' vs ds A → RpS K mg F' H' σ E' O' → Q vs H') → t σ H Q
def Tq (t : TT) (f : Ev → Option Bool) : Prop := ∀ (F H : Hp) (O : List Addr) (σ : L2.St) (E : Ev) (b : Bool), f E = some b → Own F H O → RpS K mg F H σ E O →
  ∀ Q : Bool → Hp → Prop, (∀ F' H', Qx F H F' H' → Q b H') → t σ H Q
def Td (t : TT) (f : Ev → Option (Bool × Ev)) : Prop := ∀ (F H : Hp) (O : List Addr) (σ : L2.St) (E : Ev) (b : Bool) (E' : Ev), f E = some (b, E') → Own F H O → RpS K mg F H σ E O →
  ∀ Q : Bool → Hp → Prop, (∀ F' H' O', Ext F H O F' H' O' → Own F' H' O' → RpS K mg F' H' σ E' O' → Q b H') → t σ H Q
/-- what an operation makes of values: something new, or frozen -/
def R2ok (r : R2) (op : D → D → Option D) : Prop := ∀ (F H : Hp) (x y : V) (dx dy d : D) (A B : List Addr), op dx dy = some d → (∀ a o, F a = some o → H a = some o) → Rp K mg F H x dx A → Rp K mg F H y dy B →
  ∀ Q : VK, (∀ v F' H' C, Qx F H F' H' → C.Nodup → (∀ c ∈ C, H c = none) → Rp K mg F' H' v d C → Q v H') → r x y H Q
def R1ok (r : V → Hp → VK → Prop) (op : D → Option D) : Prop := ∀ (F H : Hp) (x : V) (dx d : D) (A : List Addr), op dx = some d → (∀ a o, F a = some o → H a = some o) → Rp K mg F H x dx A →
  ∀ Q : VK, (∀ v F' H' C, Qx F H F' H' → C.Nodup → (∀ c ∈ C, H c = none) → Rp K mg F' H' v d C → Q v H') → r x H Q
def RLok (r : List V → Hp → VK → Prop) (op : List D → Option D) : Prop := ∀ (F H : Hp) (vs : List V) (ds : List D) (d : D) (A : List Addr), op ds = some d → (∀ a o, F a = some o → H a = some o) → RpL K mg F H vs ds A →
  ∀ Q : VK, (∀ v F' H' C, Qx F H F' H' → C.Nodup → (∀ c ∈ C, H c = none) → Rp K mg F' H' v d C → Q v H') → r vs H Q
end
/-- a family of contexts: what does not hang on where the code stands -/
structure Fm where
  prog : Program
  w : World
  K : PySem.W.Frag
  mgf : Str → Option Value
  base : Heap
  N : List Str
  sc : Scope
  fn : Str → Bool
  k : Nat
abbrev Fm.mg (Y : Fm) : Md := ⟨Y.mgf, Y.prog, Y.w⟩
structure Fm.Is (Y : Fm) (X : Cx) : Prop where
  prog : X.prog = Y.prog
  w : X.w = Y.w
  K : X.K = Y.K
  mg : X.mg = Y.mgf
  base : X.base = Y.base
  N : X.N = Y.N
  sc : X.env.scope = Y.sc
  fn : X.fn = Y.fn
  calm : X.calm = true
  room : Room Y.k X.A
  guards : X.A.guards = some []
  xe : X.xe = fun _ _ => False
def PQ (Y : Fm) (e : Expr) (f : Ev → Option D) : Prop := ∃ t, (∀ X, Y.Is X → PE X e t) ∧ Qt Y.K Y.mg t f
def PD (Y : Fm) (e : Expr) (f : Ev → Option (D × Ev)) : Prop := ∃ t, (∀ X, Y.Is X → PE X e t) ∧ De Y.K Y.mg t f
def PQa (Y : Fm) (es : List Expr) (f : Ev → Option (List D)) : Prop := ∃ t, (∀ X, Y.Is X → PA X es t) ∧ Qa Y.K Y.mg t f
def PDa (Y : Fm) (es : List Expr) (f : Ev → Option (List D × Ev)) : Prop := ∃ t, (∀ X, Y.Is X → PA X es t) ∧ Da Y.K Y.mg t f
def TQ (Y : Fm) (e : Expr) (f : Ev → Option Bool) : Prop := ∃ t, (∀ X, Y.Is X → PT X e t) ∧ Tq Y.K Y.mg t f
def TD (Y : Fm) (e : Expr) (f : Ev → Option (Bool × Ev)) : Prop := ∃ t, (∀ X, Y.Is X → PT X e t) ∧ Td Y.K Y.mg t f
def WQ (Y : Fm) (e : Expr) (f : Ev → Option Bool) : Prop := ∃ t, (∀ X, Y.Is X → PW X e t) ∧ Tq Y.K Y.mg t f
def WD (Y : Fm) (e : Expr) (f : Ev → Option (Bool × Ev)) : Prop := ∃ t, (∀ X, Y.Is X → PW X e t) ∧ Td Y.K Y.mg t f
/-- operators, calls, for all contexts of a family -/
def OpY (Y : Fm) (f : Value → Value → Sem Value) (r : R2) : Prop := ∀ X, Y.Is X → OpR X f r
def UnY (Y : Fm) (f : Value → Sem Value) (r : V → Hp → VK → Prop) : Prop := ∀ X, Y.Is X → UnR X f r
def CallY (Y : Fm) (f : Value) (r : List V → Hp → VK → Prop) : Prop := ∀ X, Y.Is X → CallR X f r
abbrev GlY (Y : Fm) (x : Str) : Prop := Y.sc.names.lookup x = some .globalImplicit
theorem Fm.Is.gl {Y : Fm} {X : Cx} (h : Y.Is X) {x : Str} (g : GlY Y x) : Gl X x := by
  show X.env.scope.names.lookup x = some .globalImplicit
  rw [h.sc]; exact g
theorem Fm.Is.vis {Y : Fm} {X : Cx} (h : Y.Is X) {x : Str} (g : Vis Y.sc x) : Vis X.env.scope x := by rw [h.sc]; exact g
theorem Fm.Is.loc {Y : Fm} {X : Cx} (h : Y.Is X) {x : Str} (g : Loc Y.sc x) : Loc X.env.scope x := by rw [h.sc]; exact g
theorem Fm.Is.nm {Y : Fm} {X : Cx} (h : Y.Is X) {i : Nat} {x : Str} (g : Y.N[i]? = some x) : X.N[i]? = some x := by rw [h.N]; exact g
theorem Fm.Is.nd {Y : Fm} {X : Cx} (h : Y.Is X) (g : Y.N.Nodup) : X.N.Nodup := by rw [h.N]; exact g
theorem Fm.Is.mgN {Y : Fm} {X : Cx} (h : Y.Is X) {x : Str} {v : Option Value} (g : Y.mg x = v) : X.mg x = v := by rw [h.mg]; exact g
theorem Fm.Is.st {Y : Fm} {X : Cx} (h : Y.Is X) {x : Str} (g : Y.fn x = true ∨ Y.sc.names.lookup x = some .local) : X.fn x = true ∨ X.env.scope.names.lookup x = some .local := by rw [h.fn, h.sc]; exact g
theorem Fm.Is.own {Y : Fm} {X : Cx} (h : Y.Is X) : PassesOwn (model X.prog X.w) X.A X.env X.xe := by rw [h.xe]; exact PassesOwn.never

section
variable {K : PySem.W.Frag} {mg : Md} {F H F' H' F2 H2 : Hp} {O O' O1 O2 A B C : List Addr} {v : V} {d : D} {vs : List V} {ds : List D} {a : Addr} {σ : L2.St} {E E' : Ev} {i : Nat}
theorem Own.fresh (w : Own F H O) (x : Qx F H F' H') (nd : C.Nodup) (hf : ∀ c ∈ C, H c = none) (hl : ∀ c ∈ C, H' c ≠ none ∧ F' c = none) : Own F' H' (C ++ O) := by
  have w' := x.own w
  refine ⟨x.le, List.nodup_append.mpr ⟨nd, w'.nd, fun a m b n e => ?_⟩, fun b m => ?_, fun b m => ?_⟩
  · subst e
    exact w.alive a n (hf a m)
  · rcases List.mem_append.mp m with m | m
    · exact (hl b m).2
    · exact w'.out b m
  · rcases List.mem_append.mp m with m | m
    · exact (hl b m).1
    · exact w'.alive b m
theorem Ext.fresh (x : Qx F H F' H') (hf : ∀ c ∈ C, H c = none) : Ext F H O F' H' (C ++ O) where
  fle := x.ext.fle
  hle := fun b o e _ => x.hle b o e
  dom := x.ext.dom
  fdom := fun b e => by
    rcases x.ext.fdom b e with q | q | q
    · exact .inl q
    · cases q
    · exact .inr (.inr q)
  odom := fun b m => by
    rcases List.mem_append.mp m with m | m
    · exact .inr (hf b m)
    · exact .inl m
theorem Qx.new {p : Addr} {o : HO} (f : ∀ a o, F a = some o → H a = some o) (hp : H p = none) : Qx F H F (upd H p o) where
  ext := ⟨fun _ _ e => e, fun b u e _ => by rw [upd_ne (ne_of_none e hp)]; exact e, fun b e => by
    by_cases hb : b = p
    · subst hb; rw [upd_same]; simp
    · rw [upd_ne hb]; exact e, fun _ e => .inl e, fun _ m => by cases m⟩
  le := fun b u e => by
    have q := f b u e
    rw [upd_ne (ne_of_none q hp)]; exact q
theorem none_of_le {p : Addr} (f : ∀ a o, F a = some o → H a = some o) (hp : H p = none) : F p = none := by
  cases e : F p with
  | none => rfl
  | some o => rw [f p o e] at hp; cases hp
theorem Qx.newF {p : Addr} {o : HO} (f : ∀ a o, F a = some o → H a = some o) (hp : H p = none) : Qx F H (upd F p o) (upd H p o) where
  ext := ⟨fun b u e => by rw [upd_ne (ne_of_none e (none_of_le f hp))]; exact e, fun b u e _ => by rw [upd_ne (ne_of_none e hp)]; exact e, fun b e => by
    by_cases hb : b = p
    · subst hb; rw [upd_same]; simp
    · rw [upd_ne hb]; exact e, fun b e => by
    by_cases hb : b = p
    · subst hb; exact .inr (.inr hp)
    · rw [upd_ne hb] at e; exact .inl e, fun _ m => by cases m⟩
  le := fun b u e => by
    by_cases hb : b = p
    · subst hb; rw [upd_same] at e ⊢; exact e
    · rw [upd_ne hb] at e ⊢; exact f b u e
/-- two operands, quietly -/
theorem q2 {ta tb : TE} {fa fb : Ev → Option D} {dx dy : D} (ha : Qt K mg ta fa) (hb : Qt K mg tb fb) (ea : fa E = some dx) (eb : fb E = some dy) (w : Own F H O) (r : RpS K mg F H σ E O) (R : V → V → Hp → Prop)
    (h : ∀ x y F' H' A B, Qx F H F' H' → Rp K mg F' H' x dx A → Rp K mg F' H' y dy B → R x y H') : ta σ H fun x H1 => tb σ H1 fun y H2 => R x y H2 :=
  ha F H O σ E dx ea w r _ fun x F1 H1 A q1 r1 => hb F1 H1 O σ E dy eb (q1.own w) (q1.rps r) _ fun y F2 H2 B q2 r2 => h x y F2 H2 A B (q1.trans q2) (q2.rp r1) r2
theorem app_assoc3 : (A ++ B) ++ C = A ++ (B ++ C) := List.append_assoc A B C
/-- two operands that may change the slots -/
theorem d2 {ta tb : TE} {fa fb : Ev → Option (D × Ev)} {dx dy : D} {E1 E2 : Ev} (ha : De K mg ta fa) (hb : De K mg tb fb) (ea : fa E = some (dx, E1)) (eb : fb E1 = some (dy, E2)) (w : Own F H O) (r : RpS K mg F H σ E O) (R : V → V → Hp → Prop)
    (h : ∀ x y F' H' A B O', Ext F H O F' H' (A ++ (B ++ O')) → Own F' H' (A ++ (B ++ O')) → Rp K mg F' H' x dx A → Rp K mg F' H' y dy B → RpS K mg F' H' σ E2 O' → R x y H') : ta σ H fun x H1 => tb σ H1 fun y H2 => R x y H2 :=
  ha F H O σ E dx E1 ea w r _ fun x F1 H1 A O1 x1 w1 r1 s1 => hb F1 H1 O1 σ E1 dy E2 eb w1.right s1 _ fun y F2 H2 B O2 x2 w2 r2 s2 =>
    h x y F2 H2 A B O2 (x1.trans (x2.frame w1)) (w1.frame x2 w2) (r1.ext x2 w1.apart) r2 s2
end

/-! ### names, constants -/
def qVar (i : Nat) : Ev → Option D := fun E => match E[i]? with | some (some d) => some d | _ => none
def eVar (i : Nat) : Ev → Option (D × Ev) := fun E => match E[i]? with | some (some d) => (if isFz d = true then some (d, E) else some (froz d, E.set i (some (froz d)))) | _ => none
def qC (d : D) : Ev → Option D := fun _ => some d
/-- a quiet frozen value -/
def eOf (f : Ev → Option D) : Ev → Option (D × Ev) := fun E => match f E with | some d => (if isFz d = true then some (d, E) else none) | none => none
section
variable {Y : Fm}
theorem qt_var (K : PySem.W.Frag) (mg : Md) (i : Nat) : Qt K mg (tVar i) (qVar i) := by
  intro F H O σ E d e w r Q h
  unfold qVar at e
  split at e
  · rename_i d' e'
    cases e
    obtain ⟨v, A, es, rv⟩ := r.get w e'
    exact ⟨v, es, h v F H A (Qx.refl w.le) rv⟩
  · cases e
theorem pq_var {i : Nat} {x : Str} {pos : Pos} (hN : Y.N[i]? = some x) (hv : Vis Y.sc x) (hd : (x == ("__debug__" : Str)) = false := by decide) (hcd : (x == ("__classdict__" : Str)) = false := by decide) : PQ Y (.Name x pos) (qVar i) :=
  ⟨_, fun X h => pe_var (h.nm hN) (h.vis hv) hd hcd, qt_var _ _ i⟩
theorem pd_var {i : Nat} {x : Str} {pos : Pos} (hN : Y.N[i]? = some x) (hv : Vis Y.sc x) (hd : (x == ("__debug__" : Str)) = false := by decide) (hcd : (x == ("__classdict__" : Str)) = false := by decide) : PD Y (.Name x pos) (eVar i) := by
  refine ⟨_, fun X h => pe_var (h.nm hN) (h.vis hv) hd hcd, fun F H O σ E d E' e w r Q h => ?_⟩
  unfold eVar at e
  split at e
  · rename_i d' e'
    obtain ⟨v, A, es, rv, wA, sA, go⟩ := r.change w e'
    refine ⟨v, es, ?_⟩
    split at e
    · rename_i z
      cases e
      have z' := rv.fz z
      subst z'
      exact h v F H [] O Ext.refl w rv r
    · cases e
      have rz := rv.freeze wA
      obtain ⟨O', s', w', x'⟩ := go _ _ _ _ (frz_ext wA) (Own.nil (frz_le wA)) rz
      exact h v _ _ [] O' x' w' rz s'
  · cases e
theorem qt_c {K : PySem.W.Frag} {mg : Md} {v : V} {d : D} (h : ∀ F H, Rp K mg F H v d []) : Qt K mg (tC v) (qC d) := by
  intro F H O σ E d' e w r Q hq
  cases e
  exact hq v F H [] (Qx.refl w.le) (h F H)
theorem pq_int {i : Int} {j pos} : PQ Y (.Constant (.int i) j pos) (qC (.int i)) := ⟨_, fun _ _ => pe_int, qt_c fun _ _ => .int i⟩
theorem pq_bl {b : Bool} {j pos} : PQ Y (.Constant (.bool b) j pos) (qC (.bl b)) := ⟨_, fun _ _ => pe_bl, qt_c fun _ _ => .bl b⟩
theorem pq_non {j pos} : PQ Y (.Constant .none j pos) (qC .non) := ⟨_, fun _ _ => pe_non, qt_c fun _ _ => .non⟩
theorem pq_str {x : Str} {j pos} : PQ Y (.Constant (.str x) j pos) (qC (.str x)) := ⟨_, fun _ _ => pe_str, qt_c fun _ _ => .str x⟩
theorem pd_of {e : Expr} {f : Ev → Option D} (h : PQ Y e f) : PD Y e (eOf f) := by
  obtain ⟨t, p, q⟩ := h
  refine ⟨t, p, fun F H O σ E d E' e w r Q hQ => ?_⟩
  unfold eOf at e
  split at e
  · rename_i d' e'
    split at e
    · rename_i z
      cases e
      refine q F H O σ E d e' w r Q fun v F' H' A x rv => ?_
      have z' := rv.fz z
      subst z'
      exact hQ v F' H' [] O x.extO (x.own w) rv (x.rps r)
    · cases e
  · cases e
/-- a module's function as a value -/
theorem pq_fn {x : Str} {a : Addr} {pos : Pos} (hg : GlY Y x) (hm : Y.mg x = some (.ref a)) (hd : (x == ("__debug__" : Str)) = false := by decide) : PQ Y (.Name x pos) (qC (.fn x)) :=
  ⟨_, fun X h => pe_glob (h.gl hg) (h.mgN hm) (v := .ref a) rfl hd, qt_c fun _ _ => .fn hm⟩
end

/-! ### operators -/
def q2f (op : D → D → Option D) (fa fb : Ev → Option D) : Ev → Option D := fun E => match fa E with | some x => (match fb E with | some y => op x y | none => none) | none => none
def e2f (op : D → D → Option D) (fa fb : Ev → Option (D × Ev)) : Ev → Option (D × Ev) := fun E => match fa E with | some (x, E1) => (match fb E1 with | some (y, E2) => (match op x y with | some d => some (d, E2) | none => none) | none => none) | none => none
/-- quiet operands, a new value -/
def n2f (op : D → D → Option D) (fa fb : Ev → Option D) : Ev → Option (D × Ev) := fun E => match fa E with | some x => (match fb E with | some y => (match op x y with | some d => some (d, E) | none => none) | none => none) | none => none
section
variable {Y : Fm} {a b : Expr} {pos : Pos}
theorem qt_op {K : PySem.W.Frag} {mg : Md} {ta tb : TE} {fa fb : Ev → Option D} {r : R2} {op : D → D → Option D} (hr : R2ok K mg r op) (ha : Qt K mg ta fa) (hb : Qt K mg tb fb) : Qt K mg (tOp r ta tb) (q2f op fa fb) := by
  intro F H O σ E d e w s Q hQ
  unfold q2f at e
  split at e
  · rename_i dx ea
    split at e
    · rename_i dy eb
      exact q2 ha hb ea eb w s _ fun x y F' H' A B q rx ry => hr F' H' x y dx dy d A B e q.le rx ry Q fun v F2 H2 C q' _ _ rv => hQ v F2 H2 C (q.trans q') rv
    · cases e
  · cases e
theorem de_op {K : PySem.W.Frag} {mg : Md} {ta tb : TE} {fa fb : Ev → Option (D × Ev)} {r : R2} {op : D → D → Option D} (hr : R2ok K mg r op) (ha : De K mg ta fa) (hb : De K mg tb fb) : De K mg (tOp r ta tb) (e2f op fa fb) := by
  intro F H O σ E d E' e w s Q hQ
  unfold e2f at e
  split at e
  · rename_i dx E1 ea
    split at e
    · rename_i dy E2 eb
      split at e
      · rename_i d' eo
        cases e
        refine d2 ha hb ea eb w s _ fun x y F' H' A B O' x' w' rx ry s' => hr F' H' x y dx dy d A B eo w'.le rx ry Q fun v F2 H2 C q' nd hf rv => ?_
        have wO := w'.right.right
        exact hQ v F2 H2 C O' ((x'.sub (fun _ m => m) fun b m => .inl (List.mem_append_right _ (List.mem_append_right _ m))).trans (Ext.fresh (O := O') q' hf)) (wO.fresh q' nd hf rv.alive) rv (q'.rps s')
      · cases e
    · cases e
  · cases e
theorem de_opN {K : PySem.W.Frag} {mg : Md} {ta tb : TE} {fa fb : Ev → Option D} {r : R2} {op : D → D → Option D} (hr : R2ok K mg r op) (ha : Qt K mg ta fa) (hb : Qt K mg tb fb) : De K mg (tOp r ta tb) (n2f op fa fb) := by
  intro F H O σ E d E' e w s Q hQ
  unfold n2f at e
  split at e
  · rename_i dx ea
    split at e
    · rename_i dy eb
      split at e
      · rename_i d' eo
        cases e
        refine q2 ha hb ea eb w s _ fun x y F' H' A B q rx ry => hr F' H' x y dx dy d A B eo q.le rx ry Q fun v F2 H2 C q' nd hf rv => ?_
        have hf' : ∀ c ∈ C, H c = none := fun c m => Classical.byContradiction fun n => q.ext.dom c n (hf c m)
        exact hQ v F2 H2 C O (Ext.fresh (q.trans q') hf') (w.fresh (q.trans q') nd hf' rv.alive) rv ((q.trans q').rps s)
      · cases e
    · cases e
  · cases e
theorem pq_bin {op : Operator} {r : R2} {f : D → D → Option D} {fa fb} (ho : OpY Y (binaryOp op) r) (hr : R2ok Y.K Y.mg r f) (ha : PQ Y a fa) (hb : PQ Y b fb) : PQ Y (.BinOp a op b pos) (q2f f fa fb) :=
  let ⟨_, p1, q1⟩ := ha; let ⟨_, p2, q2⟩ := hb; ⟨_, fun X h => pe_op (ho X h) (p1 X h) (p2 X h), qt_op hr q1 q2⟩
theorem pd_bin {op : Operator} {r : R2} {f : D → D → Option D} {fa fb} (ho : OpY Y (binaryOp op) r) (hr : R2ok Y.K Y.mg r f) (ha : PD Y a fa) (hb : PD Y b fb) : PD Y (.BinOp a op b pos) (e2f f fa fb) :=
  let ⟨_, p1, q1⟩ := ha; let ⟨_, p2, q2⟩ := hb; ⟨_, fun X h => pe_op (ho X h) (p1 X h) (p2 X h), de_op hr q1 q2⟩
theorem pn_bin {op : Operator} {r : R2} {f : D → D → Option D} {fa fb} (ho : OpY Y (binaryOp op) r) (hr : R2ok Y.K Y.mg r f) (ha : PQ Y a fa) (hb : PQ Y b fb) : PD Y (.BinOp a op b pos) (n2f f fa fb) :=
  let ⟨_, p1, q1⟩ := ha; let ⟨_, p2, q2⟩ := hb; ⟨_, fun X h => pe_op (ho X h) (p1 X h) (p2 X h), de_opN hr q1 q2⟩
theorem pq_cmp {op : CmpOp} {r : R2} {f : D → D → Option D} {fa fb} (ho : OpY Y (compareOp op) r) (hr : R2ok Y.K Y.mg r f) (ha : PQ Y a fa) (hb : PQ Y b fb) (hm : behindInMarks op b = false) : PQ Y (.Compare a [op] [b] pos) (q2f f fa fb) :=
  let ⟨_, p1, q1⟩ := ha; let ⟨_, p2, q2⟩ := hb; ⟨_, fun X h => pe_cmpR (ho X h) (p1 X h) (p2 X h) hm, qt_op hr q1 q2⟩
theorem pd_cmp {op : CmpOp} {r : R2} {f : D → D → Option D} {fa fb} (ho : OpY Y (compareOp op) r) (hr : R2ok Y.K Y.mg r f) (ha : PD Y a fa) (hb : PD Y b fb) (hm : behindInMarks op b = false) : PD Y (.Compare a [op] [b] pos) (e2f f fa fb) :=
  let ⟨_, p1, q1⟩ := ha; let ⟨_, p2, q2⟩ := hb; ⟨_, fun X h => pe_cmpR (ho X h) (p1 X h) (p2 X h) hm, de_op hr q1 q2⟩
end

/-! ### tests -/
def asB : D → Option Bool
  | .bl b => some b
  | _ => none
def tqf (f : Ev → Option D) : Ev → Option Bool := fun E => match f E with | some d => asB d | none => none
def tdf (f : Ev → Option (D × Ev)) : Ev → Option (Bool × Ev) := fun E => match f E with | some (d, E1) => (match asB d with | some b => some (b, E1) | none => none) | none => none
theorem asB_some {d : D} {b : Bool} (h : asB d = some b) : d = .bl b := by
  cases d <;> simp [asB] at h
  subst h; rfl
section
variable {Y : Fm} {a b : Expr} {pos : Pos} {K : PySem.W.Frag} {mg : Md}
theorem Rp.isBl {F H : Hp} {v : V} {b : Bool} {A : List Addr} (r : Rp K mg F H v (.bl b) A) : v = .bl b ∧ A = [] := by cases r; exact ⟨rfl, rfl⟩
theorem tq_b {t : TE} {f : Ev → Option D} (h : Qt K mg t f) : Tq K mg (tB t) (tqf f) := by
  intro F H O σ E b e w s Q hQ
  unfold tqf at e
  split at e
  · rename_i d ed
    have e' := asB_some e
    subst e'
    exact h F H O σ E _ ed w s _ fun v F' H' A q r => ⟨b, r.isBl.1, hQ F' H' q⟩
  · cases e
theorem td_b {t : TE} {f : Ev → Option (D × Ev)} (h : De K mg t f) : Td K mg (tB t) (tdf f) := by
  intro F H O σ E b E' e w s Q hQ
  unfold tdf at e
  split at e
  · rename_i d E1 ed
    split at e
    · rename_i b' eb
      cases e
      have e' := asB_some eb
      subst e'
      refine h F H O σ E _ _ ed w s _ fun v F' H' A O' x w' r s' => ⟨b, r.isBl.1, ?_⟩
      obtain ⟨_, z⟩ := r.isBl
      subst z
      exact hQ F' H' O' x w' s'
    · cases e
  · cases e
theorem tq_val {e : Expr} {f} (h : PQ Y e f) (he : ∀ X : Cx, ∀ whole, isTrue e X.env whole = (do let v ← whole; standAt e.pos; holding [v] (truthy v)) := by intro _ _; rfl) : TQ Y e (tqf f) :=
  let ⟨_, p, q⟩ := h; ⟨_, fun X h => pt_val (p X h) (he X), tq_b q⟩
theorem td_val {e : Expr} {f} (h : PD Y e f) (he : ∀ X : Cx, ∀ whole, isTrue e X.env whole = (do let v ← whole; standAt e.pos; holding [v] (truthy v)) := by intro _ _; rfl) : TD Y e (tdf f) :=
  let ⟨_, p, q⟩ := h; ⟨_, fun X h => pt_val (p X h) (he X), td_b q⟩
theorem tq_cmp {op : CmpOp} {r : R2} {f : D → D → Option D} {fa fb} (ho : OpY Y (compareOp op) r) (hr : R2ok Y.K Y.mg r f) (ha : PQ Y a fa) (hb : PQ Y b fb) (hm : behindInMarks op b = false) : TQ Y (.Compare a [op] [b] pos) (tqf (q2f f fa fb)) :=
  let ⟨_, p1, q1⟩ := ha; let ⟨_, p2, q2⟩ := hb; ⟨_, fun X h => pt_cmpR (ho X h) (p1 X h) (p2 X h) hm, tq_b (qt_op hr q1 q2)⟩
theorem td_cmp {op : CmpOp} {r : R2} {f : D → D → Option D} {fa fb} (ho : OpY Y (compareOp op) r) (hr : R2ok Y.K Y.mg r f) (ha : PD Y a fa) (hb : PD Y b fb) (hm : behindInMarks op b = false) : TD Y (.Compare a [op] [b] pos) (tdf (e2f f fa fb)) :=
  let ⟨_, p1, q1⟩ := ha; let ⟨_, p2, q2⟩ := hb; ⟨_, fun X h => pt_cmpR (ho X h) (p1 X h) (p2 X h) hm, td_b (de_op hr q1 q2)⟩
/-- a quiet test where slots may change -/
def tOfQ (f : Ev → Option Bool) : Ev → Option (Bool × Ev) := fun E => match f E with | some b => some (b, E) | none => none
theorem td_ofQ {t : TT} {f : Ev → Option Bool} (h : Tq K mg t f) : Td K mg t (tOfQ f) := by
  intro F H O σ E b E' e w s Q hQ
  unfold tOfQ at e
  split at e
  · rename_i b' eb
    cases e
    exact h F H O σ E b eb w s Q fun F' H' q => hQ F' H' O q.extO (q.own w) (q.rps s)
  · cases e
theorem td_of {e : Expr} {f} (h : TQ Y e f) : TD Y e (tOfQ f) := let ⟨_, p, q⟩ := h; ⟨_, p, td_ofQ q⟩
theorem wd_of {e : Expr} {f} (h : WQ Y e f) : WD Y e (tOfQ f) := let ⟨_, p, q⟩ := h; ⟨_, p, td_ofQ q⟩
theorem tq_w {e : Expr} {f} (h : WQ Y e f) : TQ Y e f := let ⟨_, p, q⟩ := h; ⟨_, fun X h => (p X h).pt, q⟩
theorem td_w {e : Expr} {f} (h : WD Y e f) : TD Y e f := let ⟨_, p, q⟩ := h; ⟨_, fun X h => (p X h).pt, q⟩
def qAnd (f g : Ev → Option Bool) : Ev → Option Bool := fun E => match f E with | some true => g E | some false => some false | none => none
def qOr (f g : Ev → Option Bool) : Ev → Option Bool := fun E => match f E with | some true => some true | some false => g E | none => none
def qNot (f : Ev → Option Bool) : Ev → Option Bool := fun E => match f E with | some b => some (!b) | none => none
def dAnd (f g : Ev → Option (Bool × Ev)) : Ev → Option (Bool × Ev) := fun E => match f E with | some (true, E1) => g E1 | some (false, E1) => some (false, E1) | none => none
def dOr (f g : Ev → Option (Bool × Ev)) : Ev → Option (Bool × Ev) := fun E => match f E with | some (true, E1) => some (true, E1) | some (false, E1) => g E1 | none => none
def dNot (f : Ev → Option (Bool × Ev)) : Ev → Option (Bool × Ev) := fun E => match f E with | some (b, E1) => some (!b, E1) | none => none
theorem tq_and {t u : TT} {f g} (h : Tq K mg t f) (h' : Tq K mg u g) : Tq K mg (tAnd t u) (qAnd f g) := by
  intro F H O σ E b e w s Q hQ
  unfold qAnd at e
  split at e
  · rename_i ef
    exact h F H O σ E true ef w s _ fun F' H' q => h' F' H' O σ E b e (q.own w) (q.rps s) Q fun F2 H2 q2 => hQ F2 H2 (q.trans q2)
  · rename_i ef
    cases e
    exact h F H O σ E false ef w s _ fun F' H' q => hQ F' H' q
  · cases e
theorem tq_or {t u : TT} {f g} (h : Tq K mg t f) (h' : Tq K mg u g) : Tq K mg (tOr t u) (qOr f g) := by
  intro F H O σ E b e w s Q hQ
  unfold qOr at e
  split at e
  · rename_i ef
    cases e
    exact h F H O σ E true ef w s _ fun F' H' q => hQ F' H' q
  · rename_i ef
    exact h F H O σ E false ef w s _ fun F' H' q => h' F' H' O σ E b e (q.own w) (q.rps s) Q fun F2 H2 q2 => hQ F2 H2 (q.trans q2)
  · cases e
theorem tq_not' {t : TT} {f} (h : Tq K mg t f) : Tq K mg (tNot t) (qNot f) := by
  intro F H O σ E b e w s Q hQ
  unfold qNot at e
  split at e
  · rename_i c ef
    cases e
    exact h F H O σ E c ef w s _ fun F' H' q => hQ F' H' q
  · cases e
theorem td_and {t u : TT} {f g} (h : Td K mg t f) (h' : Td K mg u g) : Td K mg (tAnd t u) (dAnd f g) := by
  intro F H O σ E b E' e w s Q hQ
  unfold dAnd at e
  split at e
  · rename_i E1 ef
    exact h F H O σ E true E1 ef w s _ fun F' H' O' x w' s' => h' F' H' O' σ E1 b E' e w' s' Q fun F2 H2 O2 x2 w2 s2 => hQ F2 H2 O2 (x.trans x2) w2 s2
  · rename_i E1 ef
    cases e
    exact h F H O σ E false _ ef w s _ fun F' H' O' x w' s' => hQ F' H' O' x w' s'
  · cases e
theorem td_or {t u : TT} {f g} (h : Td K mg t f) (h' : Td K mg u g) : Td K mg (tOr t u) (dOr f g) := by
  intro F H O σ E b E' e w s Q hQ
  unfold dOr at e
  split at e
  · rename_i E1 ef
    cases e
    exact h F H O σ E true _ ef w s _ fun F' H' O' x w' s' => hQ F' H' O' x w' s'
  · rename_i E1 ef
    exact h F H O σ E false E1 ef w s _ fun F' H' O' x w' s' => h' F' H' O' σ E1 b E' e w' s' Q fun F2 H2 O2 x2 w2 s2 => hQ F2 H2 O2 (x.trans x2) w2 s2
  · cases e
theorem td_not' {t : TT} {f} (h : Td K mg t f) : Td K mg (tNot t) (dNot f) := by
  intro F H O σ E b E' e w s Q hQ
  unfold dNot at e
  split at e
  · rename_i c E1 ef
    cases e
    exact h F H O σ E c _ ef w s _ fun F' H' O' x w' s' => hQ F' H' O' x w' s'
  · cases e
theorem wq_and1 {f} (h : TQ Y a f) : WQ Y (.BoolOp .And [a] pos) f := let ⟨_, p, q⟩ := h; ⟨_, fun X h => pw_and1 (p X h), q⟩
theorem wq_or1 {f} (h : TQ Y a f) : WQ Y (.BoolOp .Or [a] pos) f := let ⟨_, p, q⟩ := h; ⟨_, fun X h => pw_or1 (p X h), q⟩
theorem wq_and {rest : List Expr} {f g} (h : TQ Y a f) (h' : WQ Y (.BoolOp .And (b :: rest) pos) g) : WQ Y (.BoolOp .And (a :: b :: rest) pos) (qAnd f g) := let ⟨_, p, q⟩ := h; let ⟨_, p', q'⟩ := h'; ⟨_, fun X h => pw_and (p X h) (p' X h), tq_and q q'⟩
theorem wq_or {rest : List Expr} {f g} (h : TQ Y a f) (h' : WQ Y (.BoolOp .Or (b :: rest) pos) g) : WQ Y (.BoolOp .Or (a :: b :: rest) pos) (qOr f g) := let ⟨_, p, q⟩ := h; let ⟨_, p', q'⟩ := h'; ⟨_, fun X h => pw_or (p X h) (p' X h), tq_or q q'⟩
theorem tq_not {f} (h : TQ Y a f) : TQ Y (.UnaryOp .Not a pos) (qNot f) := let ⟨_, p, q⟩ := h; ⟨_, fun X h => pt_not (p X h), tq_not' q⟩
theorem wd_and1 {f} (h : TD Y a f) : WD Y (.BoolOp .And [a] pos) f := let ⟨_, p, q⟩ := h; ⟨_, fun X h => pw_and1 (p X h), q⟩
theorem wd_or1 {f} (h : TD Y a f) : WD Y (.BoolOp .Or [a] pos) f := let ⟨_, p, q⟩ := h; ⟨_, fun X h => pw_or1 (p X h), q⟩
theorem wd_and {rest : List Expr} {f g} (h : TD Y a f) (h' : WD Y (.BoolOp .And (b :: rest) pos) g) : WD Y (.BoolOp .And (a :: b :: rest) pos) (dAnd f g) := let ⟨_, p, q⟩ := h; let ⟨_, p', q'⟩ := h'; ⟨_, fun X h => pw_and (p X h) (p' X h), td_and q q'⟩
theorem wd_or {rest : List Expr} {f g} (h : TD Y a f) (h' : WD Y (.BoolOp .Or (b :: rest) pos) g) : WD Y (.BoolOp .Or (a :: b :: rest) pos) (dOr f g) := let ⟨_, p, q⟩ := h; let ⟨_, p', q'⟩ := h'; ⟨_, fun X h => pw_or (p X h) (p' X h), td_or q q'⟩
theorem td_not {f} (h : TD Y a f) : TD Y (.UnaryOp .Not a pos) (dNot f) := let ⟨_, p, q⟩ := h; ⟨_, fun X h => pt_not (p X h), td_not' q⟩
end
end Dm

/-! dicts whose keys are tuples: the machine's operations over the abstract heap -/
namespace Dm
open PySem PySem.Spec L2
open PyProof.Rows hiding St
mutual
inductive Ky (K : PySem.W.Frag) (H : Hp) : V → NestedKey → Prop
  | non : Ky K H .non .none
  | bl (b : Bool) : Ky K H (.bl b) (.num (if b = true then 1 else 0))
  | int (i : Int) : Ky K H (.int i) (.num i)
  | str (x : Str) : Ky K H (.str x) (.text x)
  | tup {a : Addr} {vs : List V} {ks : List NestedKey} : SqT K H a vs → KyL K H vs ks → Ky K H (.ref a) (.tup ks)
inductive KyL (K : PySem.W.Frag) (H : Hp) : List V → List NestedKey → Prop
  | nil : KyL K H [] []
  | cons {v : V} {vs : List V} {k : NestedKey} {ks : List NestedKey} : Ky K H v k → KyL K H vs ks → KyL K H (v :: vs) (k :: ks)
end
section
variable {K : PySem.W.Frag} {mg : Md} {F H F' H' : Hp} {A : List Addr} {v : V} {d : D} {vs : List V} {ds : List D} {a : Addr}
mutual
theorem Rp.ky (f : ∀ a o, F a = some o → H' a = some o) : ∀ {d : D} {v : V} {A : List Addr} {k : NestedKey}, keyN d = some k → Rp K mg F H v d A → Ky K H' v k
  | .non, _, _, _, e, .non => by cases e; exact .non
  | .bl b, _, _, _, e, .bl _ => by cases e; exact .bl b
  | .int i, _, _, _, e, .int _ => by cases e; exact .int i
  | .str x, _, _, _, e, .str _ => by cases e; exact .str x
  | .tup xs, _, _, k, e, .tup h z r => by
    unfold keyN at e
    cases q : keysN xs with
    | none => rw [q] at e; cases e
    | some ks =>
      rw [q] at e
      cases e
      exact .tup (SqT.up f h) (RpL.kyl f q r)
  | .lst _ _, _, _, _, e, _ => by cases e
  | .scr _, _, _, _, e, _ => by cases e
  | .dic _ _ _, _, _, _, e, _ => by cases e
  | .fn _, _, _, _, e, _ => by cases e
  | .ty _, _, _, _, e, _ => by cases e
  | .ins _ _ _ _, _, _, _, e, _ => by cases e
theorem RpL.kyl (f : ∀ a o, F a = some o → H' a = some o) : ∀ {ds : List D} {vs : List V} {A : List Addr} {ks : List NestedKey}, keysN ds = some ks → RpL K mg F H vs ds A → KyL K H' vs ks
  | [], _, _, _, e, .nil => by cases e; exact .nil
  | d :: ds, _, _, ks, e, .cons r1 r2 => by
    unfold keysN at e
    cases q1 : keyN d with
    | none => rw [q1] at e; cases e
    | some k =>
      cases q2 : keysN ds with
      | none => rw [q1, q2] at e; cases e
      | some ks' =>
        rw [q1, q2] at e
        cases e
        exact .cons (Rp.ky f q1 r1) (RpL.kyl f q2 r2)
end
end
section
variable {X : Cx} {pins : List (Addr × Obj)} {σ : L2.St} {H : Hp} {s : Shared} {A : Around} {E : Value → Shared → Prop} {a b : Addr} {y v : V} {u r : Value} {f : Str → Option Value}
mutual
theorem Ky.is (I : Inv X pins σ H s) : ∀ {k : NestedKey} {v : V} {u : Value}, Ky X.K H v k → RelV v u → NestedIs s.heap k u
  | .none, _, _, .non, r => by cases r; exact .none
  | .num _, _, _, .bl b, r => by cases r; exact .bool rfl
  | .num i, _, _, .int _, r => by obtain ⟨t, rfl⟩ := r; exact .int i t
  | .text x, _, _, .str _, r => by obtain ⟨t, rfl⟩ := r; exact .text x t
  | .tup ks, _, _, .tup h hl, r => by
    cases (show _ = Value.ref _ from r)
    obtain ⟨its, rv, ⟨o, ho, hc, n, hd⟩, _⟩ := I.tuple h
    refine .tup ho hc hd ?_
    rw [List.toList_toArray]
    exact KyL.is I hl rv
theorem KyL.is (I : Inv X pins σ H s) : ∀ {ks : List NestedKey} {vs : List V} {us : List Value}, KyL X.K H vs ks → Vals vs us → NestedAll s.heap ks us
  | [], _, _, .nil, .nil => .nil
  | k :: ks, _, _, .cons h hl, .cons r rs => .cons (Ky.is I h r) (KyL.is I hl rs)
end
def dtKeys (K : PySem.W.Frag) (H : Hp) (xs : List (NestedKey × Addr × V)) : Prop := ∀ x ∈ xs, Ky K H (.ref x.2.1) x.1
theorem Paired.memR {α β : Type} {F : α → β → Prop} : ∀ {l₁ : List α} {l₂ : List β} {b : β}, PySem.Paired F l₁ l₂ → b ∈ l₂ → ∃ a ∈ l₁, F a b
  | _, _, _, .nil, m => by cases m
  | a :: l₁, b' :: l₂, b, .cons h t, m => by
    rcases List.mem_cons.mp m with e | m
    · subst e; exact ⟨a, List.mem_cons_self, h⟩
    · obtain ⟨a', m', h'⟩ := Paired.memR t m
      exact ⟨a', List.mem_cons_of_mem _ m', h'⟩
theorem dtAll.keys : ∀ {xs : List (NestedKey × Addr × V)} {ys : List (NestedKey × Addr × Value)}, dtAll xs ys → ys.map (·.1) = xs.map (·.1)
  | _, _, .nil => rfl
  | _, _, .cons h t => by rw [List.map_cons, List.map_cons, dtAll.keys t, h.1]
/-- at a stands a dict with tuples as keys (the empty one is one, too) -/
inductive DtIs (K : PySem.W.Frag) (mg : Md) (H : Hp) (a : Addr) : List (NestedKey × Addr × V) → Prop
  | o {xs : List (NestedKey × Addr × V)} : H a = some (DtO mg a xs) → dtOk a xs → dtKeys K H xs → DtIs K mg H a xs
  | e : H a = some (.dK []) → DtIs K mg H a []
/-- what the dict's object is -/
theorem dt_at {xs : List (NestedKey × Addr × V)} (I : Inv X pins σ H s) (D : DtIs X.K ⟨f, X.prog, X.w⟩ H a xs) : ∃ ys, dtAll xs ys ∧ s.heap.DictOfH (nestedKind X.prog X.w) a ys ∧ xs.length ≤ sizeLine ∧ (a == sysModules) = false ∧ Mut (H a) := by
  cases D with
  | o e ok hk =>
    obtain ⟨⟨ys, hall, o, es, ep, h1, h2, h3, h4⟩, _, _⟩ := I.hok a _ e
    refine ⟨ys, hall, ⟨o, es, ep, h1, h2, h3, h4, fun y hy => ?_, by rw [hall.keys]; exact ok.2.2.1⟩, ok.1, ok.2.1, by rw [e]; exact True.intro⟩
    obtain ⟨x, hx, q1, q2, _⟩ := Paired.memR hall hy
    rw [← q1, ← q2]
    exact ⟨(hk x hx).is I rfl, ok.2.2.2.1 x hx⟩
  | e e =>
    obtain ⟨_, hda, vs, rel, o, es, ep, h1, h2, h3, _, h4, _⟩ := dk_of I.hok e
    have ev : vs = [] := List.eq_nil_of_length_eq_zero rel.length.symm
    subst ev
    have h5 : es.toList = [] := List.eq_nil_of_length_eq_zero (PySem.Pairs.length h4)
    exact ⟨[], .nil, ⟨o, es, ep, h1, h2, h3, h5, fun _ hx => (by cases hx), List.nodup_nil⟩, Nat.zero_le _, hda, by rw [e]; exact True.intro⟩
def valX (xs : List (NestedKey × Addr × V)) (k : NestedKey) : Option V := (xs.find? fun x => decide (x.1 = k)).map (·.2.2)
def putX (xs : List (NestedKey × Addr × V)) (k : NestedKey) (b : Addr) (v : V) : List (NestedKey × Addr × V) :=
  if (valX xs k).isSome then xs.map (fun x => if x.1 = k then (x.1, x.2.1, v) else x) else xs ++ [(k, b, v)]
theorem dtAll.val : ∀ {xs : List (NestedKey × Addr × V)} {ys : List (NestedKey × Addr × Value)}, dtAll xs ys → ∀ k, RelO (valX xs k) ((atKey ys k).map (·.2))
  | _, _, .nil, _ => True.intro
  | x :: xs, y :: ys, .cons h t, k => by
    have ih := dtAll.val t k
    unfold valX atKey at ih ⊢
    rw [List.find?_cons, List.find?_cons, ← h.1]
    by_cases e : x.1 = k
    · rw [decide_eq_true e]
      exact h.2.2
    · rw [decide_eq_false e]
      exact ih
theorem dtAll.put {xs : List (NestedKey × Addr × V)} {ys : List (NestedKey × Addr × Value)} (h : dtAll xs ys) (k : NestedKey) (b : Addr) {v : V} {u : Value} (rv : RelV v u) : dtAll (putX xs k b v) (storedH ys k b u) := by
  have e : (valX xs k).isSome = (atKey ys k).isSome := by
    have q := (h.val k).isSome_eq
    rw [Option.isSome_map] at q
    exact q
  unfold putX storedH
  rw [e]
  split
  · have go : ∀ {xs : List (NestedKey × Addr × V)} {ys : List (NestedKey × Addr × Value)}, dtAll xs ys → dtAll (xs.map fun x => if x.1 = k then (x.1, x.2.1, v) else x) (ys.map (putAt k u)) := by
      intro xs ys h
      induction h with
      | nil => exact .nil
      | @cons x y _ _ h t ih =>
        rw [List.map_cons, List.map_cons]
        refine .cons ?_ ih
        unfold putAt
        by_cases q : x.1 = k
        · rw [if_pos q, if_pos (h.1 ▸ q)]
          exact ⟨h.1, h.2.1, rv⟩
        · rw [if_neg q, if_neg (h.1 ▸ q)]
          exact h
    exact go h
  · exact Paired.snoc h ⟨rfl, rfl, rv⟩
theorem putX_length (xs : List (NestedKey × Addr × V)) (k : NestedKey) (b : Addr) (v : V) : (putX xs k b v).length ≤ xs.length + 1 := by
  unfold putX
  split
  · rw [List.length_map]; omega
  · rw [List.length_append]; exact Nat.le_refl _
/-- the room of nested keys -/
theorem nk_room {k : Nat} {P : Program} {w : World} (hr : Room k A) : (nestedKind P w).room A.in1 := by
  have := hr.un
  show A.units + 1 + 8 < cLine
  omega
theorem y_getItem {k : Nat} {nk : NestedKey} {Q : Value → Shared → Prop} (hr : Room k A) (I : Inv X pins σ H s) {xs : List (NestedKey × Addr × V)} (D : DtIs X.K ⟨f, X.prog, X.w⟩ H a xs) (hy : Ky X.K H (.ref b) nk) (hd : nk.depth ≤ 8) (hv : valX xs nk = some v)
    (h : ∀ w' s', Inv X pins σ H s' → RelV v w' → Q w' s') : wpAny (model X.prog X.w) A (getItem (.ref a) (.ref b)) Q E s := by
  obtain ⟨ys, hall, dd, hz0, hda, mu⟩ := dt_at I D
  obtain ⟨w', hw, rw'⟩ := RelO.some_of (v := v) (o := (atKey ys nk).map (·.2)) (by rw [← hv]; exact hall.val nk)
  obtain ⟨p, hp, hp2⟩ := Option.map_eq_some_iff.mp hw
  refine wpAny_getItem_heap (nk_room hr) ⟨hy.is I rfl, hd⟩ dd hp ?_
  rw [hp2]
  exact h w' _ (I.tok _) rw'
theorem y_in {k : Nat} {nk : NestedKey} {Q : Value → Shared → Prop} (hr : Room k A) (I : Inv X pins σ H s) {xs : List (NestedKey × Addr × V)} (D : DtIs X.K ⟨f, X.prog, X.w⟩ H a xs) (hy : Ky X.K H (.ref b) nk) (hd : nk.depth ≤ 8)
    (h : ∀ s', Inv X pins σ H s' → Q (.bool (valX xs nk).isSome) s') : wpAny (model X.prog X.w) A (compareOp .In (.ref b) (.ref a)) Q E s := by
  obtain ⟨ys, hall, dd, hz0, hda, mu⟩ := dt_at I D
  refine wpAny_in_heap (nk_room hr) ⟨hy.is I rfl, hd⟩ hda dd ?_
  have q := (hall.val nk).isSome_eq
  rw [Option.isSome_map] at q
  rw [← q]
  exact h _ (I.tok _)
theorem y_notIn {k : Nat} {nk : NestedKey} {Q : Value → Shared → Prop} (hr : Room k A) (I : Inv X pins σ H s) {xs : List (NestedKey × Addr × V)} (D : DtIs X.K ⟨f, X.prog, X.w⟩ H a xs) (hy : Ky X.K H (.ref b) nk) (hd : nk.depth ≤ 8)
    (h : ∀ s', Inv X pins σ H s' → Q (.bool (!(valX xs nk).isSome)) s') : wpAny (model X.prog X.w) A (compareOp .NotIn (.ref b) (.ref a)) Q E s := by
  obtain ⟨ys, hall, dd, hz0, hda, mu⟩ := dt_at I D
  refine wpAny_notIn_heap (nk_room hr) ⟨hy.is I rfl, hd⟩ hda dd ?_
  have q := (hall.val nk).isSome_eq
  rw [Option.isSome_map] at q
  rw [← q]
  exact h _ (I.tok _)
theorem y_get1 {k : Nat} {nk : NestedKey} {Q : Value → Shared → Prop} (hr : Room k A) (I : Inv X pins σ H s) {xs : List (NestedKey × Addr × V)} (D : DtIs X.K ⟨f, X.prog, X.w⟩ H a xs) (hy : Ky X.K H (.ref b) nk) (hd : nk.depth ≤ 8)
    (h : ∀ w' s', Inv X pins σ H s' → RelV ((valX xs nk).getD .non) w' → Q w' s') : wpAny (model X.prog X.w) A (call (.builtin "dict.get") [.ref a, .ref b]) Q E s := by
  obtain ⟨ys, hall, dd, hz0, hda, mu⟩ := dt_at I D
  exact call_meetsIn PySem.F.slot_dict_get dd.typeIs PySem.F.entry_dict_get (PySem.F.args_dict_get_2 _ _) (meetsH_dict_get (nestedKind X.prog X.w) a b hda) ⟨nk_room hr, nk, ys, ⟨hy.is I rfl, hd⟩, dd, h _ _ (I.tok _) ((hall.val nk).getD rfl)⟩
theorem y_get2 {k : Nat} {nk : NestedKey} {x : V} {Q : Value → Shared → Prop} (hr : Room k A) (I : Inv X pins σ H s) {xs : List (NestedKey × Addr × V)} (D : DtIs X.K ⟨f, X.prog, X.w⟩ H a xs) (hy : Ky X.K H (.ref b) nk) (hd : nk.depth ≤ 8) (rx : RelV x r)
    (h : ∀ w' s', Inv X pins σ H s' → RelV ((valX xs nk).getD x) w' → Q w' s') : wpAny (model X.prog X.w) A (call (.builtin "dict.get") [.ref a, .ref b, r]) Q E s := by
  obtain ⟨ys, hall, dd, hz0, hda, mu⟩ := dt_at I D
  exact call_meetsIn PySem.F.slot_dict_get dd.typeIs PySem.F.entry_dict_get (PySem.F.args_dict_get_3 _ _ _) (meetsH_dict_get_default (nestedKind X.prog X.w) a b hda r) ⟨nk_room hr, nk, ys, ⟨hy.is I rfl, hd⟩, dd, h _ _ (I.tok _) ((hall.val nk).getD rx)⟩
theorem dtO_ok {mg : Md} {h' : Heap} {H' : Hp} {ys : List (NestedKey × Addr × Value)} (hall : dtAll xs ys) (dd : h'.DictOfH mg.nk a ys) : ObjOk mg.P mg.w H' h' a (DtO mg a xs) := by
  obtain ⟨o, es, ep, h1, h2, h3, h4, _, _⟩ := dd
  refine ⟨⟨ys, hall, o, es, ep, h1, h2, h3, h4⟩, ⟨o, h1⟩, fun k1 k2 ⟨ys', q0, o', es', ep', q1, q⟩ k => ⟨ys', q0, o', es', ep', k _ q1, q⟩⟩
theorem y_setItem {k : Nat} {nk : NestedKey} {Q : Unit → Shared → Prop} (hr : Room k A) (I : Inv X pins σ H s) {xs : List (NestedKey × Addr × V)} (D : DtIs X.K ⟨f, X.prog, X.w⟩ H a xs) (hy : Ky X.K H (.ref b) nk) (hd : nk.depth ≤ 8) (rv : RelV v r)
    (h : ∀ s', Inv X pins σ (upd H a (DtO ⟨f, X.prog, X.w⟩ a (putX xs nk b v))) s' → Q () s') : wpAny (model X.prog X.w) A (setItem (.ref a) (.ref b) r) Q E s := by
  obtain ⟨ys, hall, dd, hz0, hda, mu⟩ := dt_at I D
  have hz : ys.length ≤ sizeLine := by rw [← PySem.Paired.length hall]; exact hz0
  refine wpAny_setItem_heap (hsz := hz) (nk_room hr) ⟨hy.is I rfl, hd⟩ dd fun h' dd' hs => h _ ?_
  have he : ∃ q, h'.get? a = some q := let ⟨q, _, _, hq, _⟩ := dd'; ⟨q, hq⟩
  exact d_write I mu hs he (dtO_ok (hall.put nk b rv) dd')
end
end Dm

/-! dicts as data: get, in; what the machine does is that -/
namespace Dm
open PySem PySem.Spec L2
open PyProof.Rows hiding St
def keyT (d : D) : Option NestedKey := match d with
  | .tup xs => (match keyN (.tup xs) with | some k => (if k.depth ≤ 8 then some k else none) | none => none)
  | _ => none
def keysT : List D → Option (List NestedKey)
  | [] => some []
  | d :: ds => match keyT d, keysT ds with | some k, some ks => some (k :: ks) | _, _ => none
def lookK {κ : Type} [DecidableEq κ] : List κ → List D → κ → Option D
  | x :: xs, d :: ds, k => if x = k then some d else lookK xs ds k
  | _, _, _ => none
/-- what a dict with these keys and values has at k (none: no such key is served) -/
def dGet (ks ds : List D) (k : D) : Option (Option D) := match keyK k with
  | some x => (match keysK ks with | some xs => some (lookK xs ds x) | none => none)
  | none => (match keyT k with | some x => (match keysT ks with | some xs => some (lookK xs ds x) | none => none) | none => none)
/-- .. the machine's: the dict at a has o at y -/
def YGet (K : PySem.W.Frag) (mg : Md) (H : Hp) (a : Addr) (y : V) (o : Option V) : Prop :=
  DGet H a y o ∨ ∃ xs nk b, DtIs K mg H a xs ∧ y = .ref b ∧ Ky K H y nk ∧ nk.depth ≤ 8 ∧ o = valX xs nk
section
variable {K : PySem.W.Frag} {mg : Md} {F H F' H' : Hp} {A B O : List Addr} {v y : V} {d k : D} {vs : List V} {ds ks : List D} {a : Addr}
theorem keyT_some {nk : NestedKey} (e : keyT k = some nk) : keyN k = some nk ∧ nk.depth ≤ 8 ∧ ∃ xs, k = .tup xs := by
  unfold keyT at e
  split at e
  · split at e
    · split at e
      · cases e
        rename_i q1 q2
        exact ⟨q1, q2, _, rfl⟩
      · cases e
    · cases e
  · cases e
theorem keyK_kV {x : Key} (e : keyK k = some x) (r : Rp K mg F H y k A) : y = kV x := by
  cases k <;> simp only [keyK] at e <;> try (cases e; done)
  · cases e; cases r; rfl
  · cases e; cases r; rfl
theorem Rp.tup_ref {xs : List D} (r : Rp K mg F H y (.tup xs) A) : ∃ b, y = .ref b := by cases r; exact ⟨_, rfl⟩
theorem lookK_rpl {κ : Type} [DecidableEq κ] : ∀ {kvs : List (κ × V)} {ds : List D} {A : List Addr} (x : κ), RpL K mg F H (kvs.map (·.2)) ds A →
    (∀ d, lookK (kvs.map (·.1)) ds x = some d → ∃ u C, valV kvs x = some u ∧ Rp K mg F H u d C) ∧ (lookK (kvs.map (·.1)) ds x = none → valV kvs x = none)
  | [], _, _, x, r => ⟨fun d q => (by simp [lookK] at q), fun _ => rfl⟩
  | p :: kvs, ds, A, x, r => by
    rw [List.map_cons] at r
    cases r with
    | @cons _ _ d ds _ _ r1 r2 =>
      have ih := lookK_rpl x r2
      rw [List.map_cons]
      unfold lookK
      by_cases e : p.1 = x
      · rw [if_pos e, valV_pos e]
        exact ⟨fun d' q => (by cases q; exact ⟨_, _, rfl, r1⟩), fun q => (by cases q)⟩
      · rw [if_neg e, valV_neg e]
        exact ih
theorem valX_valV (xs : List (NestedKey × Addr × V)) (k : NestedKey) : valX xs k = valV (xs.map fun x => (x.1, x.2.2)) k := by
  induction xs with
  | nil => rfl
  | cons x xs ih =>
    rw [List.map_cons]
    by_cases e : x.1 = k
    · rw [valV_pos (p := (x.1, x.2.2)) e]
      unfold valX
      rw [List.find?_cons, decide_eq_true e]
      rfl
    · rw [valV_neg (p := (x.1, x.2.2)) e, ← ih]
      unfold valX
      rw [List.find?_cons, decide_eq_false e]
/-- the two forms of a dict -/
inductive DcV (K : PySem.W.Frag) (mg : Md) (F H : Hp) (a : Addr) (ks : List D) : List V → Prop
  | k {kvs : List (Key × V)} : H a = some (.dK kvs) → keysK ks = some (kvs.map (·.1)) → (kvs.map (·.1)).Nodup → DcV K mg F H a ks (kvs.map (·.2))
  | t {xs : List (NestedKey × Addr × V)} : H a = some (DtO mg a xs) → dtOk a xs → keysN ks = some (xs.map (·.1)) → RpL K mg F H (xs.map fun x => .ref x.2.1) ks [] → DcV K mg F H a ks (xs.map (·.2.2))
theorem Rp.dic_inv {o : Bool} (f : ∀ a o, F a = some o → H a = some o) (r : Rp K mg F H v (.dic o ks ds) A) : ∃ a vs As, v = .ref a ∧ DcV K mg F H a ks vs ∧ RpL K mg F H vs ds As ∧ (o = true → A = a :: As ∧ F a = none) ∧ (o = false → A = [] ∧ As = []) := by
  cases r with
  | dKF e z h => exact ⟨_, _, [], rfl, .k (f _ _ e) z.1 z.2, h, fun q => (by cases q), fun _ => ⟨rfl, rfl⟩⟩
  | dKO e e2 z h => exact ⟨_, _, _, rfl, .k e z.1 z.2, h, fun _ => ⟨rfl, e2⟩, fun q => (by cases q)⟩
  | dTF e ok z hk h => exact ⟨_, _, [], rfl, .t (f _ _ e) ok z hk, h, fun q => (by cases q), fun _ => ⟨rfl, rfl⟩⟩
  | dTO e e2 ok z hk h => exact ⟨_, _, _, rfl, .t e ok z hk, h, fun _ => ⟨rfl, e2⟩, fun q => (by cases q)⟩
theorem keysN_keys (f : ∀ a o, F a = some o → H a = some o) : ∀ {xs : List (NestedKey × Addr × V)} {ks : List D} {A : List Addr}, keysN ks = some (xs.map (·.1)) → RpL K mg F H (xs.map fun x => .ref x.2.1) ks A → dtKeys K H xs
  | [], _, _, _, _ => fun _ m => by cases m
  | x :: xs, ks, _, e, r => by
    rw [List.map_cons] at r
    cases r with
    | @cons _ _ d ds _ _ r1 r2 =>
      unfold keysN at e
      cases q1 : keyN d with
      | none => rw [q1] at e; cases e
      | some k1 =>
        cases q2 : keysN ds with
        | none => rw [q1, q2] at e; cases e
        | some ks' =>
          rw [q1, q2] at e
          have e' : k1 :: ks' = x.1 :: xs.map (·.1) := Option.some.inj e
          injection e' with e1 e2
          intro y m
          rcases List.mem_cons.mp m with q | m
          · subst q
            rw [← e1]
            exact Rp.ky f q1 r1
          · exact keysN_keys f (q2.trans (by rw [e2])) r2 y m
theorem keysK_nil (e : keysK ks = some []) : ks = [] := by
  cases ks with
  | nil => rfl
  | cons d ds =>
    unfold keysK at e
    split at e
    · cases e
    · cases e
theorem keysTN : ∀ {ks : List D} {xs : List NestedKey}, keysT ks = some xs → keysN ks = some xs ∧ ∀ x ∈ xs, x.depth ≤ 8
  | [], _, e => by cases e; exact ⟨rfl, fun _ m => by cases m⟩
  | d :: ds, _, e => by
    unfold keysT at e
    split at e
    · rename_i k ks q1 q2
      cases e
      obtain ⟨h1, h2, _⟩ := keyT_some q1
      obtain ⟨h3, h4⟩ := keysTN q2
      refine ⟨by unfold keysN; rw [h1, h3], fun x m => ?_⟩
      rcases List.mem_cons.mp m with z | m
      · subst z; exact h2
      · exact h4 x m
    · cases e
theorem keysKT {xs : List Key} {ys : List NestedKey} (e1 : keysK ks = some xs) (e2 : keysT ks = some ys) : ks = [] := by
  cases ks with
  | nil => rfl
  | cons d ds =>
    unfold keysT at e2
    split at e2
    · rename_i k _ q1 _
      obtain ⟨_, _, _, z⟩ := keyT_some q1
      subst z
      unfold keysK at e1
      split at e1
      · rename_i q _; cases q
      · cases e1
    · cases e2
theorem keysK_refs : ∀ {xs : List (NestedKey × Addr × V)} {ys : List Key} {ks : List D} {A : List Addr}, keysK ks = some ys → RpL K mg F H (xs.map fun x => .ref x.2.1) ks A → xs = []
  | [], _, _, _, _, _ => rfl
  | x :: xs, ys, ks, A, e, r => by
    rw [List.map_cons] at r
    cases r with
    | @cons _ _ d ds _ _ r1 r2 =>
      exfalso
      unfold keysK at e
      split at e
      · rename_i k _ q _
        have := keyK_kV q r1
        cases k <;> cases this
      · cases e
theorem dGet_some {o : Option D} (e : dGet ks ds k = some o) : (∃ x xs, keyK k = some x ∧ keysK ks = some xs ∧ o = lookK xs ds x) ∨ (∃ x xs, keyT k = some x ∧ keysT ks = some xs ∧ o = lookK xs ds x) := by
  unfold dGet at e
  split at e
  · rename_i x ex
    split at e
    · rename_i xs exs; cases e; exact .inl ⟨x, xs, ex, exs, rfl⟩
    · cases e
  · split at e
    · rename_i x ex
      split at e
      · rename_i xs exs; cases e; exact .inr ⟨x, xs, ex, exs, rfl⟩
      · cases e
    · cases e
/-- a dict's look-up -/
theorem dic_get {o : Option D} (f : ∀ a o, F a = some o → H a = some o) (D : DcV K mg F H a ks vs) (r : RpL K mg F H vs ds A) (ry : Rp K mg F H y k B) (e : dGet ks ds k = some o) :
    ∃ ov, YGet K mg H a y ov ∧ (o = none → ov = none) ∧ ∀ d, o = some d → ∃ u C, ov = some u ∧ Rp K mg F H u d C := by
  rcases dGet_some e with ⟨x, xs, ex, exs, eo⟩ | ⟨x, xs, ex, exs, eo⟩
  · subst eo
    have ey := keyK_kV ex ry
    cases D with
    | @k kvs hd hk _ =>
      rw [hk] at exs
      cases exs
      obtain ⟨h1, h2⟩ := lookK_rpl x r
      exact ⟨valV kvs x, .inl (.inl ⟨kvs, x, .inl hd, ey, rfl⟩), h2, h1⟩
    | @t ys hd ok hk hr => exact absurd (keysK_refs exs hr) ok.2.2.2.2
  · subst eo
    obtain ⟨ek, ed, zs, ez⟩ := keyT_some ex
    subst ez
    obtain ⟨b, eb⟩ := ry.tup_ref
    have ky := Rp.ky f ek ry
    cases D with
    | @k kvs hd hk _ =>
      have q := keysKT hk exs
      subst q
      cases exs
      cases kvs with
      | cons p kvs => cases hk
      | nil => exact ⟨none, .inr ⟨[], x, b, .e hd, eb, ky, ed, rfl⟩, fun _ => rfl, fun d q => (by simp [lookK] at q)⟩
    | @t ys hd ok hk hr =>
      have z := (keysTN exs).1
      rw [hk] at z
      cases z
      have r' : RpL K mg F H ((ys.map fun x => (x.1, x.2.2)).map (·.2)) ds A := by rw [List.map_map]; exact r
      have hh := lookK_rpl x r'
      rw [List.map_map] at hh
      refine ⟨valX ys x, .inr ⟨ys, x, b, .o hd ok (keysN_keys f hk hr), eb, ky, ed, rfl⟩, fun q => ?_, fun d q => ?_⟩
      · rw [valX_valV]; exact hh.2 q
      · rw [valX_valV]; exact hh.1 d q
end
/-! ### the operators' rules -/
section
variable {X : Cx} {mg : Md} {k : Nat}
theorem y_at {pins : List (Addr × Obj)} {σ : L2.St} {H : Hp} {s : Shared} {a : Addr} {y : V} {o : Option V} (hp : mg.P = X.prog) (hw : mg.w = X.w) (I : Inv X pins σ H s) (g : YGet X.K mg H a y o) :
    s.TypeIs (.ref a) "dict" ∧ (∀ b, Value.ref a = .ref b → ∃ ob, s.heap.get? b = some ob ∧ ob.dict = none) ∧ (a == sysModules) = false := by
  obtain ⟨f, P, w⟩ := mg
  cases hp
  cases hw
  rcases g with g | ⟨xs, nk, b, D, _⟩
  · refine isD_at I ?_
    rcases g with ⟨kvs, k, e, _⟩ | ⟨kvs, k, b, e, _⟩
    · exact .inl ⟨kvs, e⟩
    · exact .inr ⟨kvs, e⟩
  · obtain ⟨ys, hall, dd, _, hda, _⟩ := dt_at I D
    refine ⟨dd.typeIs, fun b q => ?_, hda⟩
    cases q
    obtain ⟨ob, _, _, h1, h2, _⟩ := dd
    exact ⟨ob, h1, h2.2.1⟩
def rIxD (K : PySem.W.Frag) (mg : Md) : R2 := fun x y H Q => ∃ a v, x = .ref a ∧ YGet K mg H a y (some v) ∧ Q v H
theorem ix_dic (hr : Room k X.A) (hp : mg.P = X.prog) (hw : mg.w = X.w) : IxR X (rIxD X.K mg) := by
  intro value slice pins s σ H x y v u Q I rx ry h hs
  obtain ⟨a, z, rfl, g, q⟩ := h
  obtain rfl : v = Value.ref a := rx
  have ty := (y_at hp hw I g).1
  refine tail_any ty slot_dict_getitem.lookup ?_ hs
  obtain ⟨f, P, w⟩ := mg
  cases hp
  cases hw
  rcases g with g | ⟨xs, nk, b, D, rfl, ky, hd, e⟩
  · exact d_getItem (hu_of hr) I g ry fun w' s' I' rw' => ⟨_, H, I', rw', q⟩
  · obtain rfl : u = Value.ref b := ry
    exact y_getItem hr I D ky hd e.symm fun w' s' I' rw' => ⟨_, H, I', rw', q⟩
def rInD (K : PySem.W.Frag) (mg : Md) : R2 := fun x y H Q => ∃ a o, y = .ref a ∧ YGet K mg H a x o ∧ Q (.bl o.isSome) H
theorem op_inD (hr : Room k X.A) (hp : mg.P = X.prog) (hw : mg.w = X.w) : OpR X (compareOp .In) (rInD X.K mg) := by
  intro pins s σ H x y v u Q I rx ry h
  obtain ⟨a, o, rfl, g, q⟩ := h
  obtain rfl : u = Value.ref a := ry
  obtain ⟨f, P, w⟩ := mg
  cases hp
  cases hw
  rcases g with g | ⟨xs, nk, b, D, rfl, ky, hd, e⟩
  · exact d_in (hu_of hr) I g rx fun s' I' => ⟨.bl _, H, I', rfl, q⟩
  · obtain rfl : v = Value.ref b := rx
    subst e
    exact y_in hr I D ky hd fun s' I' => ⟨.bl _, H, I', rfl, q⟩
def rNotInD (K : PySem.W.Frag) (mg : Md) : R2 := fun x y H Q => ∃ a o, y = .ref a ∧ YGet K mg H a x o ∧ Q (.bl (!o.isSome)) H
theorem op_notInD (hr : Room k X.A) (hp : mg.P = X.prog) (hw : mg.w = X.w) : OpR X (compareOp .NotIn) (rNotInD X.K mg) := by
  intro pins s σ H x y v u Q I rx ry h
  obtain ⟨a, o, rfl, g, q⟩ := h
  obtain rfl : u = Value.ref a := ry
  obtain ⟨f, P, w⟩ := mg
  cases hp
  cases hw
  rcases g with g | ⟨xs, nk, b, D, rfl, ky, hd, e⟩
  · exact d_notIn (hu_of hr) I g rx fun s' I' => ⟨.bl _, H, I', rfl, q⟩
  · obtain rfl : v = Value.ref b := rx
    subst e
    exact y_notIn hr I D ky hd fun s' I' => ⟨.bl _, H, I', rfl, q⟩
def rGet1 (K : PySem.W.Frag) (mg : Md) : V → List V → Hp → VK → Prop := fun x xs H Q => ∃ a y o, x = .ref a ∧ xs = [y] ∧ YGet K mg H a y o ∧ Q (o.getD .non) H
theorem mt_get1 (hr : Room k X.A) (hp : mg.P = X.prog) (hw : mg.w = X.w) : MtR X "dict.get" (rGet1 X.K mg) := by
  intro pins s σ H x xs v us Q I rx rs h
  obtain ⟨a, y, o, rfl, rfl, g, q⟩ := h
  obtain rfl : v = Value.ref a := rx
  obtain ⟨u, rfl, ru⟩ := vals1 rs
  obtain ⟨f, P, w⟩ := mg
  cases hp
  cases hw
  rcases g with g | ⟨xs, nk, b, D, rfl, ky, hd, e⟩
  · exact d_get1 (hu_of hr) I g ru fun w' s' I' rw' => ⟨_, H, I', rw', q⟩
  · obtain rfl : u = Value.ref b := ru
    subst e
    exact y_get1 hr I D ky hd fun w' s' I' rw' => ⟨_, H, I', rw', q⟩
def rGet2 (K : PySem.W.Frag) (mg : Md) : V → List V → Hp → VK → Prop := fun x xs H Q => ∃ a y z o, x = .ref a ∧ xs = [y, z] ∧ YGet K mg H a y o ∧ Q (o.getD z) H
theorem mt_get2 (hr : Room k X.A) (hp : mg.P = X.prog) (hw : mg.w = X.w) : MtR X "dict.get" (rGet2 X.K mg) := by
  intro pins s σ H x xs v us Q I rx rs h
  obtain ⟨a, y, z, o, rfl, rfl, g, q⟩ := h
  obtain rfl : v = Value.ref a := rx
  obtain ⟨u, u2, rfl, ru, ru2⟩ := vals2 rs
  obtain ⟨f, P, w⟩ := mg
  cases hp
  cases hw
  rcases g with g | ⟨xs, nk, b, D, rfl, ky, hd, e⟩
  · exact d_get2 (hu_of hr) I g ru ru2 fun w' s' I' rw' => ⟨_, H, I', rw', q⟩
  · obtain rfl : u = Value.ref b := ru
    subst e
    exact y_get2 hr I D ky hd ru2 fun w' s' I' rw' => ⟨_, H, I', rw', q⟩
end
end Dm

namespace Dm
open PySem PySem.Spec L2
open PyProof.Rows hiding St
/-! operations on data, and that the operators keep to them -/
section
variable {K : PySem.W.Frag} {mg : Md} {F H F' H' : Hp} {O A B C : List Addr} {v : V} {d : D} {vs ws : List V} {ds es : List D} {a : Addr} {b : Bool} {i : Nat}
theorem RpL.length : ∀ {ds : List D} {vs : List V} {A : List Addr}, RpL K mg F H vs ds A → vs.length = ds.length
  | _, _, _, .nil => rfl
  | _, _, _, .cons _ h => by rw [List.length_cons, List.length_cons, RpL.length h]
theorem RpL.append : ∀ {ds : List D} {vs : List V} {A : List Addr}, RpL K mg F H vs ds A → RpL K mg F H ws es B → RpL K mg F H (vs ++ ws) (ds ++ es) (A ++ B)
  | _, _, _, .nil, h => h
  | _, _, _, .cons h1 h2, h => by rw [List.append_assoc]; exact .cons h1 (RpL.append h2 h)
theorem RpL.get : ∀ {ds : List D} {vs : List V} {A : List Addr} {i : Nat} {d : D}, RpL K mg F H vs ds A → ds[i]? = some d → ∃ v B, vs[i]? = some v ∧ Rp K mg F H v d B ∧ ∀ b ∈ B, b ∈ A
  | _, _, _, _, _, .nil, e => by simp at e
  | _, _, _, 0, _, .cons h1 h2, e => by
    simp at e; subst e
    exact ⟨_, _, rfl, h1, fun b m => List.mem_append_left _ m⟩
  | _, _, _, i + 1, _, .cons h1 h2, e => by
    obtain ⟨v, B, e1, r, m⟩ := RpL.get (i := i) h2 (by simpa using e)
    exact ⟨v, B, by simpa using e1, r, fun b q => List.mem_append_right _ (m b q)⟩
theorem RpL.nilOf (h : RpL K mg F H vs ds A) (p : isFzL ds = true) : RpL K mg F H vs ds [] := by
  have q := h.fz p
  subst q
  exact h
theorem RpL.cons_nil (r : Rp K mg F H v d []) (h : RpL K mg F H vs ds []) : RpL K mg F H (v :: vs) (d :: ds) [] := .cons r h
theorem RpL.split {v : V} {d : D} (h : RpL K mg F H (v :: vs) (d :: ds) []) : Rp K mg F H v d [] ∧ RpL K mg F H vs ds [] := by
  generalize e : ([] : List Addr) = A at h
  cases h with
  | @cons _ _ _ _ O1 O2 h1 h2 =>
    obtain ⟨e1, e2⟩ := List.append_eq_nil_iff.mp e.symm
    subst e1 e2
    exact ⟨h1, h2⟩
theorem RpL.take : ∀ (n : Nat) {ds : List D} {vs : List V}, RpL K mg F H vs ds [] → RpL K mg F H (vs.take n) (ds.take n) []
  | 0, _, _, _ => by rw [List.take_zero, List.take_zero]; exact .nil
  | n + 1, [], [], h => h
  | n + 1, d :: ds, v :: vs, h => .cons_nil h.split.1 (RpL.take n h.split.2)
  | n + 1, [], _ :: _, h => by have := h.length; simp at this
  | n + 1, _ :: _, [], h => by have := h.length; simp at this
theorem RpL.drop : ∀ (n : Nat) {ds : List D} {vs : List V}, RpL K mg F H vs ds [] → RpL K mg F H (vs.drop n) (ds.drop n) []
  | 0, _, _, h => h
  | n + 1, [], [], h => h
  | n + 1, d :: ds, v :: vs, h => RpL.drop n h.split.2
  | n + 1, [], _ :: _, h => by have := h.length; simp at this
  | n + 1, _ :: _, [], h => by have := h.length; simp at this
theorem RpL.rep (h : RpL K mg F H vs ds []) : ∀ n : Nat, RpL K mg F H (List.replicate n vs).flatten (List.replicate n ds).flatten []
  | 0 => .nil
  | n + 1 => by
    rw [List.replicate_succ, List.replicate_succ, List.flatten_cons, List.flatten_cons]
    exact h.append (RpL.rep h n)
theorem Rp.lst_inv (f : ∀ a o, F a = some o → H a = some o) (r : Rp K mg F H v (.lst b ds) A) : ∃ a vs B, v = .ref a ∧ H a = some (.lst vs) ∧ vs.length ≤ sizeLine ∧ RpL K mg F H vs ds B ∧ ∀ x ∈ B, x ∈ A := by
  cases r with
  | lstF e z h => exact ⟨_, _, _, rfl, f _ _ e, z, h, fun _ m => m⟩
  | lstO e _ z h => exact ⟨_, _, _, rfl, e, z, h, fun _ m => List.mem_cons_of_mem _ m⟩
theorem Rp.scr_inv (f : ∀ a o, F a = some o → H a = some o) (r : Rp K mg F H v (.scr ds) A) : ∃ a vs, v = .ref a ∧ SqL K H a vs ∧ vs.length ≤ sizeLine ∧ RpL K mg F H vs ds [] := by
  cases r with
  | scr e z h => exact ⟨_, _, rfl, SqL.up f e, z, h⟩
theorem Rp.tup_inv (f : ∀ a o, F a = some o → H a = some o) (r : Rp K mg F H v (.tup ds) A) : ∃ a vs, v = .ref a ∧ SqT K F a vs ∧ SqT K H a vs ∧ vs.length ≤ sizeLine ∧ RpL K mg F H vs ds A := by
  cases r with
  | tup e z h => exact ⟨_, _, rfl, e, SqT.up f e, z, h⟩
/-- a new list, a new tuple, of frozen items -/
theorem mk_lst {Q : VK} {p : Addr} (f : ∀ a o, F a = some o → H a = some o) (hp : H p = none) (z : vs.length ≤ sizeLine) (r : RpL K mg F H vs ds [])
    (hQ : ∀ v F' H' C, Qx F H F' H' → C.Nodup → (∀ c ∈ C, H c = none) → Rp K mg F' H' v (.lst true ds) C → Q v H') : Q (.ref p) (upd H p (.lst vs)) := by
  have q : Qx F H F (upd H p (.lst vs)) := Qx.new f hp
  refine hQ _ F _ [p] q (by simp) (fun c m => by simp at m; subst m; exact hp) ?_
  exact .lstO upd_same (none_of_le f hp) z (q.rpl r)
theorem mk_tup {Q : VK} {p : Addr} (f : ∀ a o, F a = some o → H a = some o) (hp : H p = none) (z : vs.length ≤ sizeLine) (r : RpL K mg F H vs ds [])
    (hQ : ∀ v F' H' C, Qx F H F' H' → C.Nodup → (∀ c ∈ C, H c = none) → Rp K mg F' H' v (.tup ds) C → Q v H') : Q (.ref p) (upd H p (.tup vs)) := by
  have q : Qx F H (upd F p (.tup vs)) (upd H p (.tup vs)) := Qx.newF f hp
  exact hQ _ _ _ [] q List.nodup_nil (fun c m => by cases m) (.tup (SqT.of upd_same) z (q.rpl r))
theorem give {Q : VK} {v : V} {d : D} (f : ∀ a o, F a = some o → H a = some o) (r : Rp K mg F H v d []) (hQ : ∀ v F' H' C, Qx F H F' H' → C.Nodup → (∀ c ∈ C, H c = none) → Rp K mg F' H' v d C → Q v H') : Q v H :=
  hQ v F H [] (Qx.refl f) List.nodup_nil (fun c m => by cases m) r
end

/-! ### numbers -/
def small (i : Int) : Bool := decide (-(2 ^ 64) < i ∧ i < 2 ^ 64)
def opAdd : D → D → Option D
  | .int i, .int j => some (.int (i + j))
  | .str x, .str y => if x.length + y.length ≤ sizeLine then some (.str (x ++ y)) else none
  | .lst _ xs, .lst _ ys => if xs.length + ys.length ≤ sizeLine ∧ isFzL xs = true ∧ isFzL ys = true then some (.lst true (xs ++ ys)) else none
  | .tup xs, .tup ys => if xs.length + ys.length ≤ sizeLine ∧ isFzL xs = true ∧ isFzL ys = true then some (.tup (xs ++ ys)) else none
  | _, _ => none
def opSub : D → D → Option D
  | .int i, .int j => some (.int (i - j))
  | _, _ => none
def opMul : D → D → Option D
  | .int i, .int j => if small i = true ∨ small j = true then some (.int (i * j)) else none
  | .lst _ xs, .int k => if -(2 ^ 63) ≤ k ∧ k < 2 ^ 63 ∧ xs.length * k.toNat ≤ sizeLine ∧ isFzL xs = true then some (.lst true (List.replicate k.toNat xs).flatten) else none
  | _, _ => none
def opFDiv : D → D → Option D
  | .int i, .int j => if j ≠ 0 ∧ j.natAbs < 1073741824 then some (.int (i.fdiv j)) else none
  | _, _ => none
def opMod : D → D → Option D
  | .int i, .int j => if j ≠ 0 then some (.int (i.fmod j)) else none
  | _, _ => none
def opPow : D → D → Option D
  | .int i, .int j => if 0 ≤ j ∧ j ≤ 1000000 ∧ i.natAbs < 2 ^ 64 then some (.int (i ^ j.toNat)) else none
  | _, _ => none
def opNeg : D → Option D
  | .int i => some (.int (-i))
  | _ => none
def cmpI (p : Int → Int → Bool) : D → D → Option D
  | .int i, .int j => some (.bl (p i j))
  | _, _ => none
def opLt : D → D → Option D
  | .int i, .int j => some (.bl (decide (i < j)))
  | .str x, .str y => some (.bl (decide (x.cps.toList < y.cps.toList)))
  | _, _ => none
def opLe : D → D → Option D := cmpI fun i j => decide (i ≤ j)
def opGt : D → D → Option D := cmpI fun i j => decide (j < i)
def opGe : D → D → Option D := cmpI fun i j => decide (j ≤ i)
def okEq (d : D) : Bool := isDat d && SeqAt.shaped (toP d)
def opEq : D → D → Option D
  | .str x, .str y => some (.bl (x == y))
  | x, y => if okEq x = true ∧ okEq y = true then some (.bl (PyData.eqv (toP x) (toP y))) else none
def opNe : D → D → Option D
  | .str x, .str y => some (.bl (!(x == y)))
  | x, y => if okEq x = true ∧ okEq y = true then some (.bl (!PyData.eqv (toP x) (toP y))) else none
def isNon : D → Bool
  | .non => true
  | _ => false
def opIs : D → D → Option D
  | x, .non => some (.bl (isNon x))
  | _, _ => none
def opIsNot : D → D → Option D
  | x, .non => some (.bl (!isNon x))
  | _, _ => none
/-- flat data as values -/
def flat : D → Option V
  | .non => some .non
  | .bl b => some (.bl b)
  | .int i => some (.int i)
  | .str x => some (.str x)
  | _ => none
def flatL : List D → Option (List V)
  | [] => some []
  | x :: xs => match flat x, flatL xs with | some v, some vs => some (v :: vs) | _, _ => none
def inSeq (x : D) (ys : List D) : Option Bool := match flat x, flatL ys with | some v, some vs => some (inV v vs) | _, _ => none
def opIn : D → D → Option D
  | x, .lst _ ys => (inSeq x ys).map .bl
  | x, .tup ys => (inSeq x ys).map .bl
  | x, .scr ys => (inSeq x ys).map .bl
  | x, .dic _ ks ds => (dGet ks ds x).map fun o => .bl o.isSome
  | .str x, .str y => some (.bl (!(Builtin.Str.occurrences y x 0 y.length 1).isEmpty))
  | _, _ => none
def opNotIn : D → D → Option D
  | x, .lst _ ys => (inSeq x ys).map fun b => .bl (!b)
  | x, .tup ys => (inSeq x ys).map fun b => .bl (!b)
  | x, .scr ys => (inSeq x ys).map fun b => .bl (!b)
  | x, .dic _ ks ds => (dGet ks ds x).map fun o => .bl (!o.isSome)
  | .str x, .str y => some (.bl (!(!(Builtin.Str.occurrences y x 0 y.length 1).isEmpty)))
  | _, _ => none

section
variable {K : PySem.W.Frag} {mg : Md} {F H F' H' : Hp} {O A B C : List Addr} {v : V} {d : D} {vs ws : List V} {ds es : List D} {a : Addr} {b : Bool}
theorem Rp.int_inv {i : Int} (r : Rp K mg F H v (.int i) A) : v = .int i := by cases r; rfl
theorem Rp.str_inv {i : Str} (r : Rp K mg F H v (.str i) A) : v = .str i := by cases r; rfl
theorem Rp.bl_inv {i : Bool} (r : Rp K mg F H v (.bl i) A) : v = .bl i := by cases r; rfl
theorem Rp.non_inv (r : Rp K mg F H v .non A) : v = .non := by cases r; rfl
theorem small_iff {i : Int} : small i = true ↔ -(2 ^ 64) < i ∧ i < 2 ^ 64 := by unfold small; exact decide_eq_true_iff
theorem Rp.flat_inv : ∀ {d : D} {v w : V} {A : List Addr}, Rp K mg F H v d A → flat d = some w → v = w ∧ flatV v = true
  | .non, _, _, _, r, e => by cases e; cases r; exact ⟨rfl, rfl⟩
  | .bl b, _, _, _, r, e => by cases e; cases r; exact ⟨rfl, rfl⟩
  | .int i, _, _, _, r, e => by cases e; cases r; exact ⟨rfl, rfl⟩
  | .str i, _, _, _, r, e => by cases e; cases r; exact ⟨rfl, rfl⟩
  | .tup _, _, _, _, _, e => by cases e
  | .lst _ _, _, _, _, _, e => by cases e
  | .scr _, _, _, _, _, e => by cases e
  | .dic _ _ _, _, _, _, _, e => by cases e
  | .fn _, _, _, _, _, e => by cases e
  | .ty _, _, _, _, _, e => by cases e
  | .ins _ _ _ _, _, _, _, _, e => by cases e
theorem RpL.flat_inv : ∀ {ds : List D} {vs ws : List V} {A : List Addr}, RpL K mg F H vs ds A → flatL ds = some ws → vs = ws ∧ vs.all flatV = true
  | [], _, _, _, r, e => by cases e; cases r; exact ⟨rfl, rfl⟩
  | d :: ds, _, ws, _, .cons r1 r2, e => by
    unfold flatL at e
    split at e
    · rename_i w ws' e1 e2
      cases e
      obtain ⟨p1, p2⟩ := r1.flat_inv e1
      obtain ⟨p3, p4⟩ := RpL.flat_inv r2 e2
      subst p1 p3
      exact ⟨rfl, by rw [List.all_cons, p2, p4]; rfl⟩
    · cases e
theorem inSeq_some {x : D} {ys : List D} {c : Bool} (e : inSeq x ys = some c) : ∃ w ws, flat x = some w ∧ flatL ys = some ws ∧ c = inV w ws := by
  unfold inSeq at e
  split at e
  · rename_i w ws e1 e2
    cases e
    exact ⟨w, ws, e1, e2, rfl⟩
  · cases e
end
abbrev rAddX (K : PySem.W.Frag) : R2 := fun x y H Q => (rI0 fun i j => V.int (i + j)) x y H Q ∨ ((∃ i j, x = .str i ∧ y = .str j ∧ i.length + j.length ≤ sizeLine ∧ Q (.str (i ++ j)) H) ∨ (rCat x y H Q ∨ rCatA K x y H Q))
theorem op_addX {X : Cx} : OpR X (binaryOp .Add) (rAddX X.K) := op_add.or (op_add_str.or (op_cat.or op_catA))
section
variable {K : PySem.W.Frag} {mg : Md}
theorem ok_add : R2ok K mg (rAddX K) opAdd := by
  intro F H x y dx dy d A B e f rx ry Q hQ
  cases dx <;> cases dy <;> simp only [opAdd] at e <;> try (cases e; done)
  · cases e
    exact .inl ⟨_, _, rx.int_inv, ry.int_inv, give f (.int _) hQ⟩
  · split at e
    · cases e
      rename_i z
      exact .inr (.inl ⟨_, _, rx.str_inv, ry.str_inv, z, give f (.str _) hQ⟩)
    · cases e
  · split at e
    · cases e
      rename_i z
      obtain ⟨a, vs, _, e1, e2, z1, r1⟩ := rx.tup_inv f
      obtain ⟨b, ws, _, e3, e4, z2, r2⟩ := ry.tup_inv f
      have s1 := r1.nilOf z.2.1
      have s2 := r2.nilOf z.2.2
      have l1 := s1.length
      have l2 := s2.length
      refine .inr (.inr (.inr ⟨a, b, vs, ws, by assumption, by assumption, e2, e4, by omega, fun h0 => ?_, fun h0 h1 => ?_, fun _ _ p hp => ?_⟩))
      · subst h0
        have e0 : (_ : List D) = [] := List.length_eq_zero_iff.mp (l1.symm.trans rfl)
        refine give f (d := .tup _) ?_ hQ
        rw [e0, List.nil_append]
        exact .tup e3 z2 s2
      · subst h1
        have e0 : (_ : List D) = [] := List.length_eq_zero_iff.mp (l2.symm.trans rfl)
        refine give f (d := .tup _) ?_ hQ
        rw [e0, List.append_nil]
        exact .tup e1 z1 s1
      · exact mk_tup f hp (by rw [List.length_append]; omega) (s1.append s2) hQ
    · cases e
  · split at e
    · cases e
      rename_i z
      obtain ⟨a, vs, _, _, e1, z1, r1, _⟩ := rx.lst_inv f
      obtain ⟨b, ws, _, _, e2, z2, r2, _⟩ := ry.lst_inv f
      have s1 := r1.nilOf z.2.1
      have s2 := r2.nilOf z.2.2
      have l1 := s1.length
      have l2 := s2.length
      exact .inr (.inr (.inl ⟨a, b, vs, ws, by assumption, by assumption, e1, e2, by omega, fun p hp => mk_lst f hp (by rw [List.length_append]; omega) (s1.append s2) hQ⟩))
    · cases e
theorem ok_sub : R2ok K mg (rI0 fun i j => V.int (i - j)) opSub := by
  intro F H x y dx dy d A B e f rx ry Q hQ
  cases dx <;> cases dy <;> simp only [opSub] at e <;> try (cases e; done)
  cases e
  exact ⟨_, _, rx.int_inv, ry.int_inv, give f (.int _) hQ⟩
end
abbrev rMulX : R2 := fun x y H Q => (rI CMul fun i j => V.int (i * j)) x y H Q ∨ rRep x y H Q
theorem op_mulX {X : Cx} : OpR X (binaryOp .Mult) rMulX := op_mul.or op_rep
section
variable {K : PySem.W.Frag} {mg : Md}
theorem ok_mul : R2ok K mg rMulX opMul := by
  intro F H x y dx dy d A B e f rx ry Q hQ
  cases dx <;> cases dy <;> simp only [opMul] at e <;> try (cases e; done)
  · split at e
    · cases e
      rename_i z
      refine .inl ⟨_, _, rx.int_inv, ry.int_inv, ?_, give f (.int _) hQ⟩
      rcases z with z | z
      · exact .inl (small_iff.mp z)
      · exact .inr (small_iff.mp z)
    · cases e
  · split at e
    · cases e
      rename_i z
      obtain ⟨a, vs, _, _, e1, z1, r1, _⟩ := rx.lst_inv f
      have s1 := r1.nilOf z.2.2.2
      have l1 := s1.length
      refine .inr ⟨a, _, vs, by assumption, ry.int_inv, e1, z.1, z.2.1, by rw [l1]; exact z.2.2.1, fun p hp => mk_lst f hp ?_ (s1.rep _) hQ⟩
      rw [(s1.rep _).length]
      have := z.2.2.1
      rw [List.length_flatten, List.map_replicate, List.sum_replicate_nat]
      rw [Nat.mul_comm]; exact this
    · cases e
theorem ok_fdiv : R2ok K mg (rI CDivN fun i j => V.int (i.fdiv j)) opFDiv := by
  intro F H x y dx dy d A B e f rx ry Q hQ
  cases dx <;> cases dy <;> simp only [opFDiv] at e <;> try (cases e; done)
  split at e
  · cases e
    rename_i z
    exact ⟨_, _, rx.int_inv, ry.int_inv, z, give f (.int _) hQ⟩
  · cases e
theorem ok_mod : R2ok K mg (rI (fun _ j => j ≠ 0) fun i j => V.int (i.fmod j)) opMod := by
  intro F H x y dx dy d A B e f rx ry Q hQ
  cases dx <;> cases dy <;> simp only [opMod] at e <;> try (cases e; done)
  split at e
  · cases e
    rename_i z
    exact ⟨_, _, rx.int_inv, ry.int_inv, z, give f (.int _) hQ⟩
  · cases e
theorem ok_pow : R2ok K mg (rI CPow fun i j => V.int (i ^ j.toNat)) opPow := by
  intro F H x y dx dy d A B e f rx ry Q hQ
  cases dx <;> cases dy <;> simp only [opPow] at e <;> try (cases e; done)
  split at e
  · cases e
    rename_i z
    exact ⟨_, _, rx.int_inv, ry.int_inv, z, give f (.int _) hQ⟩
  · cases e
theorem ok_neg : R1ok K mg (rU fun i => V.int (-i)) opNeg := by
  intro F H x dx d A e f rx Q hQ
  cases dx <;> simp only [opNeg] at e <;> try (cases e; done)
  cases e
  exact ⟨_, rx.int_inv, give f (.int _) hQ⟩
theorem ok_cmpI (p : Int → Int → Bool) : R2ok K mg (rI0 fun i j => V.bl (p i j)) (cmpI p) := by
  intro F H x y dx dy d A B e f rx ry Q hQ
  cases dx <;> cases dy <;> simp only [cmpI] at e <;> try (cases e; done)
  cases e
  exact ⟨_, _, rx.int_inv, ry.int_inv, give f (.bl _) hQ⟩
theorem ok_le : R2ok K mg (rI0 fun i j => V.bl (decide (i ≤ j))) opLe := ok_cmpI _
theorem ok_gt : R2ok K mg (rI0 fun i j => V.bl (decide (j < i))) opGt := ok_cmpI _
theorem ok_ge : R2ok K mg (rI0 fun i j => V.bl (decide (j ≤ i))) opGe := ok_cmpI _
end
abbrev rLtX : R2 := fun x y H Q => (rI0 fun i j => V.bl (decide (i < j))) x y H Q ∨ ∃ i j : Str, x = .str i ∧ y = .str j ∧ Q (.bl (decide (i.cps.toList < j.cps.toList))) H
theorem op_ltX {X : Cx} : OpR X (compareOp .Lt) rLtX := op_lt.or op_lt_str
section
variable {K : PySem.W.Frag} {mg : Md}
theorem ok_lt : R2ok K mg rLtX opLt := by
  intro F H x y dx dy d A B e f rx ry Q hQ
  cases dx <;> cases dy <;> simp only [opLt] at e <;> try (cases e; done)
  · cases e
    exact .inl ⟨_, _, rx.int_inv, ry.int_inv, give f (.bl _) hQ⟩
  · cases e
    exact .inr ⟨_, _, rx.str_inv, ry.str_inv, give f (.bl _) hQ⟩
abbrev rEqX (K : PySem.W.Frag) : R2 := fun x y H Q => rEq x y H Q ∨ rEqD K x y H Q
abbrev rNeX (K : PySem.W.Frag) : R2 := fun x y H Q => rNe x y H Q ∨ rNeD K x y H Q
theorem okEq_iff {d : D} : okEq d = true ↔ isDat d = true ∧ SeqAt.shaped (toP d) = true := by unfold okEq; exact Bool.and_eq_true_iff
theorem ok_eq : R2ok K mg (rEqX K) opEq := by
  intro F H x y dx dy d A B e f rx ry Q hQ
  unfold opEq at e
  split at e
  · cases e
    refine .inl ⟨by rw [rx.str_inv, ry.str_inv]; rfl, ?_⟩
    rw [rx.str_inv, ry.str_inv, dec_str]
    exact give f (.bl _) hQ
  · split at e
    · cases e
      rename_i z
      obtain ⟨p1, p2⟩ := okEq_iff.mp z.1
      obtain ⟨p3, p4⟩ := okEq_iff.mp z.2
      exact .inr ⟨_, _, rx.dp f p1, ry.dp f p3, p2, p4, give f (.bl _) hQ⟩
    · cases e
theorem ok_ne : R2ok K mg (rNeX K) opNe := by
  intro F H x y dx dy d A B e f rx ry Q hQ
  unfold opNe at e
  split at e
  · cases e
    refine .inl ⟨by rw [rx.str_inv, ry.str_inv]; rfl, ?_⟩
    rw [rx.str_inv, ry.str_inv, dec_str]
    exact give f (.bl _) hQ
  · split at e
    · cases e
      rename_i z
      obtain ⟨p1, p2⟩ := okEq_iff.mp z.1
      obtain ⟨p3, p4⟩ := okEq_iff.mp z.2
      exact .inr ⟨_, _, rx.dp f p1, ry.dp f p3, p2, p4, give f (.bl _) hQ⟩
    · cases e
theorem Rp.isNon_iff {F H : Hp} {v : V} {d : D} {A : List Addr} (r : Rp K mg F H v d A) : decide (v = .non) = isNon d := by
  cases r <;> simp [isNon]
theorem ok_is : R2ok K mg (fun x y H Q => y = .non ∧ Q (.bl (decide (x = .non))) H) opIs := by
  intro F H x y dx dy d A B e f rx ry Q hQ
  cases dy <;> simp only [opIs] at e <;> try (cases e; done)
  cases e
  refine ⟨ry.non_inv, ?_⟩
  rw [rx.isNon_iff]
  exact give f (.bl _) hQ
theorem ok_isnot : R2ok K mg (fun x y H Q => y = .non ∧ Q (.bl (!decide (x = .non))) H) opIsNot := by
  intro F H x y dx dy d A B e f rx ry Q hQ
  cases dy <;> simp only [opIsNot] at e <;> try (cases e; done)
  cases e
  refine ⟨ry.non_inv, ?_⟩
  rw [rx.isNon_iff]
  exact give f (.bl _) hQ
end
abbrev rInX (K : PySem.W.Frag) (mg : Md) : R2 := fun x y H Q => (rIn K false x y H Q ∨ ∃ i j : Str, x = .str i ∧ y = .str j ∧ Q (.bl (!(Builtin.Str.occurrences j i 0 j.length 1).isEmpty)) H) ∨ rInD K mg x y H Q
theorem op_inX {X : Cx} {mg : Md} {k : Nat} (hr : Room k X.A) (hp : mg.P = X.prog) (hw : mg.w = X.w) : OpR X (compareOp .In) (rInX X.K mg) := (op_in_seq.or op_in_str).or (op_inD hr hp hw)
abbrev rNotInX (K : PySem.W.Frag) (mg : Md) : R2 := fun x y H Q => (rIn K true x y H Q ∨ ∃ i j : Str, x = .str i ∧ y = .str j ∧ Q (.bl (!(!(Builtin.Str.occurrences j i 0 j.length 1).isEmpty))) H) ∨ rNotInD K mg x y H Q
theorem op_notInX {X : Cx} {mg : Md} {k : Nat} (hr : Room k X.A) (hp : mg.P = X.prog) (hw : mg.w = X.w) : OpR X (compareOp .NotIn) (rNotInX X.K mg) := (op_notIn_seq.or op_notin_str).or (op_notInD hr hp hw)
section
variable {K : PySem.W.Frag} {mg : Md}
theorem in_core {F H : Hp} {x y : V} {dx : D} {ys : List D} {A : List Addr} {c : Bool} (neg : Bool) (e : inSeq dx ys = some c) (f : ∀ a o, F a = some o → H a = some o) (rx : Rp K mg F H x dx A)
    {p : Addr} {vs : List V} {B' : List Addr} (ey : y = .ref p) (hs : SqL K H p vs ∨ SqT K H p vs) (rl : RpL K mg F H vs ys B') {Q : VK} (hQ : Q (.bl (if neg then !c else c)) H) : rIn K neg x y H Q := by
  obtain ⟨w, ws, e1, e2, e3⟩ := inSeq_some e
  subst e3
  obtain ⟨p1, p2⟩ := rx.flat_inv e1
  obtain ⟨p3, p4⟩ := rl.flat_inv e2
  subst p1 p3
  exact ⟨p, vs, ey, hs, p2, p4, hQ⟩
theorem ok_in : R2ok K mg (rInX K mg) opIn := by
  intro F H x y dx dy d A B e f rx ry Q hQ
  cases dy with
  | lst b ys =>
    obtain ⟨p, vs, _, ey, h1, _, rl, _⟩ := ry.lst_inv f
    cases dx <;> simp only [opIn] at e <;> (obtain ⟨c, ec, e'⟩ := Option.map_eq_some_iff.mp e) <;> (subst e') <;>
      exact .inl (.inl (in_core false ec f rx ey (.inl (SqL.of h1)) rl (give f (.bl _) hQ)))
  | tup ys =>
    obtain ⟨p, vs, ey, _, h1, _, rl⟩ := ry.tup_inv f
    cases dx <;> simp only [opIn] at e <;> (obtain ⟨c, ec, e'⟩ := Option.map_eq_some_iff.mp e) <;> (subst e') <;>
      exact .inl (.inl (in_core false ec f rx ey (.inr h1) rl (give f (.bl _) hQ)))
  | scr ys =>
    obtain ⟨p, vs, ey, h1, _, rl⟩ := ry.scr_inv f
    cases dx <;> simp only [opIn] at e <;> (obtain ⟨c, ec, e'⟩ := Option.map_eq_some_iff.mp e) <;> (subst e') <;>
      exact .inl (.inl (in_core false ec f rx ey (.inl h1) rl (give f (.bl _) hQ)))
  | str z =>
    cases dx <;> simp only [opIn] at e <;> try (cases e; done)
    cases e
    exact .inl (.inr ⟨_, _, rx.str_inv, ry.str_inv, give f (.bl _) hQ⟩)
  | dic o ks ds =>
    obtain ⟨a, vs, As, ey, Dc, rl, _, _⟩ := ry.dic_inv f
    have e' : (dGet ks ds dx).map (fun o => D.bl (o.isSome)) = some d := by cases dx <;> exact e
    obtain ⟨o, eo, e2⟩ := Option.map_eq_some_iff.mp e'
    subst e2
    obtain ⟨ov, g, h1, h2⟩ := dic_get f Dc rl rx eo
    refine .inr ⟨a, ov, ey, g, ?_⟩
    cases o with
    | none =>
      rw [h1 rfl]
      exact give f (.bl _) hQ
    | some d0 =>
      obtain ⟨u, C, e3, _⟩ := h2 d0 rfl
      rw [e3]
      exact give f (.bl _) hQ
  | _ => cases dx <;> simp only [opIn] at e <;> cases e
theorem ok_notIn : R2ok K mg (rNotInX K mg) opNotIn := by
  intro F H x y dx dy d A B e f rx ry Q hQ
  cases dy with
  | lst b ys =>
    obtain ⟨p, vs, _, ey, h1, _, rl, _⟩ := ry.lst_inv f
    cases dx <;> simp only [opNotIn] at e <;> (obtain ⟨c, ec, e'⟩ := Option.map_eq_some_iff.mp e) <;> (subst e') <;>
      exact .inl (.inl (in_core true ec f rx ey (.inl (SqL.of h1)) rl (give f (.bl _) hQ)))
  | tup ys =>
    obtain ⟨p, vs, ey, _, h1, _, rl⟩ := ry.tup_inv f
    cases dx <;> simp only [opNotIn] at e <;> (obtain ⟨c, ec, e'⟩ := Option.map_eq_some_iff.mp e) <;> (subst e') <;>
      exact .inl (.inl (in_core true ec f rx ey (.inr h1) rl (give f (.bl _) hQ)))
  | scr ys =>
    obtain ⟨p, vs, ey, h1, _, rl⟩ := ry.scr_inv f
    cases dx <;> simp only [opNotIn] at e <;> (obtain ⟨c, ec, e'⟩ := Option.map_eq_some_iff.mp e) <;> (subst e') <;>
      exact .inl (.inl (in_core true ec f rx ey (.inl h1) rl (give f (.bl _) hQ)))
  | str z =>
    cases dx <;> simp only [opNotIn] at e <;> try (cases e; done)
    cases e
    exact .inl (.inr ⟨_, _, rx.str_inv, ry.str_inv, give f (.bl _) hQ⟩)
  | dic o ks ds =>
    obtain ⟨a, vs, As, ey, Dc, rl, _, _⟩ := ry.dic_inv f
    have e' : (dGet ks ds dx).map (fun o => D.bl (!o.isSome)) = some d := by cases dx <;> exact e
    obtain ⟨o, eo, e2⟩ := Option.map_eq_some_iff.mp e'
    subst e2
    obtain ⟨ov, g, h1, h2⟩ := dic_get f Dc rl rx eo
    refine .inr ⟨a, ov, ey, g, ?_⟩
    cases o with
    | none =>
      rw [h1 rfl]
      exact give f (.bl _) hQ
    | some d0 =>
      obtain ⟨u, C, e3, _⟩ := h2 d0 rfl
      rw [e3]
      exact give f (.bl _) hQ
  | _ => cases dx <;> simp only [opNotIn] at e <;> cases e
end
end Dm

namespace Dm
open PySem PySem.Spec L2
open PyProof.Rows hiding St
/-! ### argument lists, displays -/
def qNil : Ev → Option (List D) := fun _ => some []
def qCons (f : Ev → Option D) (g : Ev → Option (List D)) : Ev → Option (List D) := fun E => match f E with | some d => (match g E with | some ds => some (d :: ds) | none => none) | none => none
def eNil : Ev → Option (List D × Ev) := fun E => some ([], E)
def eCons (f : Ev → Option (D × Ev)) (g : Ev → Option (List D × Ev)) : Ev → Option (List D × Ev) := fun E => match f E with | some (d, E1) => (match g E1 with | some (ds, E2) => some (d :: ds, E2) | none => none) | none => none
def eTup (g : Ev → Option (List D × Ev)) : Ev → Option (D × Ev) := fun E => match g E with | some (ds, E1) => (if ds.length ≤ sizeLine then some (.tup ds, E1) else none) | none => none
def eLst (g : Ev → Option (List D × Ev)) : Ev → Option (D × Ev) := fun E => match g E with | some (ds, E1) => (if ds.length ≤ sizeLine then some (.lst true ds, E1) else none) | none => none
section
variable {Y : Fm} {e : Expr} {es : List Expr} {pos : Pos} {K : PySem.W.Frag} {mg : Md}
theorem qa_nil : PQa Y [] qNil := ⟨_, fun _ _ => pa_nil, fun F H O σ E ds e w s Q hQ => by cases e; exact hQ [] F H [] (Qx.refl w.le) .nil⟩
theorem qa_cons {f g} (h : PQ Y e f) (h' : PQa Y es g) (hs : ∀ X : Cx, starEach (e :: es) X.env = (false, eval e X.env) :: starEach es X.env := by intro _; rfl) : PQa Y (e :: es) (qCons f g) := by
  obtain ⟨_, p, q⟩ := h
  obtain ⟨_, p', q'⟩ := h'
  refine ⟨_, fun X h => pa_cons (p X h) (p' X h) (hs X), fun F H O σ E ds e w s Q hQ => ?_⟩
  unfold qCons at e
  split at e
  · rename_i d ed
    split at e
    · rename_i ds' eds
      cases e
      exact q F H O σ E d ed w s _ fun v F1 H1 A x1 r1 => q' F1 H1 O σ E ds' eds (x1.own w) (x1.rps s) _ fun vs F2 H2 B x2 r2 => hQ (v :: vs) F2 H2 (A ++ B) (x1.trans x2) (.cons (x2.rp r1) r2)
    · cases e
  · cases e
theorem da_nil : PDa Y [] eNil := ⟨_, fun _ _ => pa_nil, fun F H O σ E ds E' e w s Q hQ => by cases e; exact hQ [] F H [] O Ext.refl w .nil s⟩
theorem da_cons {f g} (h : PD Y e f) (h' : PDa Y es g) (hs : ∀ X : Cx, starEach (e :: es) X.env = (false, eval e X.env) :: starEach es X.env := by intro _; rfl) : PDa Y (e :: es) (eCons f g) := by
  obtain ⟨_, p, q⟩ := h
  obtain ⟨_, p', q'⟩ := h'
  refine ⟨_, fun X h => pa_cons (p X h) (p' X h) (hs X), fun F H O σ E ds E' e w s Q hQ => ?_⟩
  unfold eCons at e
  split at e
  · rename_i d E1 ed
    split at e
    · rename_i ds' E2 eds
      cases e
      refine q F H O σ E d E1 ed w s _ fun v F1 H1 A O1 x1 w1 r1 s1 => q' F1 H1 O1 σ E1 ds' _ eds w1.right s1 _ fun vs F2 H2 B O2 x2 w2 r2 s2 => ?_
      refine hQ (v :: vs) F2 H2 (A ++ B) O2 ?_ ?_ (.cons (r1.ext x2 w1.apart) r2) s2
      · rw [List.append_assoc]; exact x1.trans (x2.frame w1)
      · rw [List.append_assoc]; exact w1.frame x2 w2
    · cases e
  · cases e
theorem own_new {F H : Hp} {A O : List Addr} {p : Addr} {o : HO} (w : Own F H (A ++ O)) (hp : H p = none) : Own F (upd H p o) ((p :: A) ++ O) := by
  have x : Qx F H F (upd H p o) := Qx.new w.le hp
  exact w.fresh (C := [p]) x (by simp) (fun c m => by simp at m; subst m; exact hp) fun c m => by
    simp at m; subst m
    exact ⟨by rw [upd_same]; simp, none_of_le w.le hp⟩
theorem pd_tup {k} {g} (h : PDa Y es g) : PD Y (.Tuple es k pos) (eTup g) := by
  obtain ⟨_, p, q⟩ := h
  refine ⟨_, fun X h => pe_tup (p X h), fun F H O σ E d E' e w s Q hQ => ?_⟩
  unfold eTup at e
  split at e
  · rename_i ds E1 ed
    split at e
    · rename_i z
      cases e
      refine q F H O σ E ds _ ed w s _ fun vs F1 H1 A O1 x1 w1 r1 s1 => ⟨by rw [r1.length]; exact z, fun p hp => ?_⟩
      have y : Qx F1 H1 (upd F1 p (.tup vs)) (upd H1 p (.tup vs)) := Qx.newF w1.le hp
      exact hQ _ _ _ A O1 (x1.trans y.extO) (y.own w1) (.tup (SqT.of upd_same) (by rw [r1.length]; exact z) (y.rpl r1)) (y.rps s1)
    · cases e
  · cases e
theorem pd_lst {g} (h : PDa Y es g) : PD Y (.List es pos) (eLst g) := by
  obtain ⟨_, p, q⟩ := h
  refine ⟨_, fun X h => pe_lst (p X h), fun F H O σ E d E' e w s Q hQ => ?_⟩
  unfold eLst at e
  split at e
  · rename_i ds E1 ed
    split at e
    · rename_i z
      cases e
      refine q F H O σ E ds _ ed w s _ fun vs F1 H1 A O1 x1 w1 r1 s1 => ⟨by rw [r1.length]; exact z, fun p hp => ?_⟩
      have y : Qx F1 H1 F1 (upd H1 p (.lst vs)) := Qx.new w1.le hp
      refine hQ _ F1 _ (p :: A) O1 (x1.trans ?_) (own_new w1 hp) (.lstO upd_same (none_of_le w1.le hp) (by rw [r1.length]; exact z) (y.rpl r1)) (y.rps s1)
      exact Ext.fresh (C := [p]) (O := A ++ O1) y fun c m => by simp at m; subst m; exact hp
    · cases e
  · cases e

/-! ### subscripts -/
def opIx : D → D → Option D
  | .lst _ xs, .int k => atI xs k
  | .scr xs, .int k => atI xs k
  | .tup xs, .int k => atI xs k
  | .str z, .int k => if z.length ≤ sizeLine then (atI z.cps.toList k).map fun c => .str ⟨#[c]⟩ else none
  | .dic _ ks ds, k => match dGet ks ds k with | some o => o | none => none
  | _, _ => none
abbrev rIxX (K : PySem.W.Frag) (mg : Md) : R2 := fun x y H Q => rIx K x y H Q ∨ rIxD K mg x y H Q
theorem ix_X {X : Cx} {mg : Md} {k : Nat} (hr : Room k X.A) (hp : mg.P = X.prog) (hw : mg.w = X.w) : IxR X (rIxX X.K mg) := ix_seq.or (ix_dic hr hp hw)
theorem ix_Y {Y : Fm} {X : Cx} (h : Y.Is X) : IxR X (rIxX Y.K Y.mg) := by rw [← h.K]; exact ix_X h.room h.prog.symm h.w.symm
def fzOnly (d : Option D) : Option D := match d with | some d => (if isFz d = true then some d else none) | none => none
def opIxF (x y : D) : Option D := fzOnly (opIx x y)
def cutG {α : Type} (xs : List α) (lo hi : Option Int) : List α := (xs.drop (HT.sIx xs.length 0 lo)).take (HT.sIx xs.length xs.length hi - HT.sIx xs.length 0 lo)
theorem ixN_some {n : Nat} {i : Int} {j : Nat} (h : ixN n i = some j) : j < n := by
  unfold ixN at h
  repeat' split at h
  all_goals first | cases h | skip
  all_goals omega
theorem atI_rp {F H : Hp} {vs : List V} {ds : List D} {A : List Addr} {k : Int} {d : D} (r : RpL K mg F H vs ds A) (e : atI ds k = some d) : ∃ v B, atI vs k = some v ∧ Rp K mg F H v d B ∧ ∀ b ∈ B, b ∈ A := by
  unfold atI at e ⊢
  rw [r.length]
  cases q : ixN ds.length k with
  | none => rw [q] at e; cases e
  | some j =>
    rw [q] at e
    exact r.get e
theorem ok_ix {F H : Hp} {x y : V} {dx dy d : D} {A B : List Addr} (e : opIx dx dy = some d) (f : ∀ a o, F a = some o → H a = some o) (rx : Rp K mg F H x dx A) (ry : Rp K mg F H y dy B)
    {Q : VK} (hQ : ∀ v C, Rp K mg F H v d C → Q v H) : rIxX K mg x y H Q := by
  by_cases isd : ∃ o ks ds, dx = .dic o ks ds
  · obtain ⟨o, ks, ds, ed⟩ := isd
    subst ed
    have e' : (match dGet ks ds dy with | some o => o | none => none) = some d := by cases dy <;> exact e
    split at e'
    · rename_i o' eo
      subst e'
      obtain ⟨a, vs, As, ex, D, rl, _, _⟩ := rx.dic_inv f
      obtain ⟨ov, g, _, h2⟩ := dic_get f D rl ry eo
      obtain ⟨u, C, e3, ru⟩ := h2 d rfl
      subst e3
      exact .inr ⟨a, u, ex, g, hQ u C ru⟩
    · cases e'
  refine .inl ?_
  have nd : ∀ o ks ds, dx ≠ .dic o ks ds := fun o ks ds q => isd ⟨o, ks, ds, q⟩
  cases dx <;> first | (exact absurd rfl (nd _ _ _)) | skip
  all_goals cases dy <;> simp only [opIx] at e <;> try (cases e; done)
  · split at e
    · rename_i z
      obtain ⟨c, ec, e'⟩ := Option.map_eq_some_iff.mp e
      subst e'
      exact .inr (.inr ⟨_, _, c, rx.str_inv, ry.int_inv, z, ec, hQ _ [] (.str _)⟩)
    · cases e
  · obtain ⟨a, vs, ev, _, e2, z1, r1⟩ := rx.tup_inv f
    obtain ⟨v, C, e3, r3, _⟩ := atI_rp r1 e
    exact .inr (.inl ⟨a, vs, _, v, ev, ry.int_inv, e2, e3, hQ v C r3⟩)
  · obtain ⟨a, vs, _, ev, e1, z1, r1, _⟩ := rx.lst_inv f
    obtain ⟨v, C, e3, r3, _⟩ := atI_rp r1 e
    exact .inl ⟨a, vs, _, v, ev, ry.int_inv, SqL.of e1, e3, hQ v C r3⟩
  · obtain ⟨a, vs, ev, e1, z1, r1⟩ := rx.scr_inv f
    obtain ⟨v, C, e3, r3, _⟩ := atI_rp r1 e
    exact .inl ⟨a, vs, _, v, ev, ry.int_inv, e1, e3, hQ v C r3⟩
theorem fzOnly_some {o : Option D} {d : D} (e : fzOnly o = some d) : o = some d ∧ isFz d = true := by
  unfold fzOnly at e
  split at e
  · split at e
    · rename_i z
      cases e
      exact ⟨rfl, z⟩
    · cases e
  · cases e
theorem ok_ixF : R2ok K mg (rIxX K mg) opIxF := by
  intro F H x y dx dy d A B e f rx ry Q hQ
  obtain ⟨e', z⟩ := fzOnly_some e
  refine ok_ix e' f rx ry fun v C r => ?_
  have c := r.fz z
  subst c
  exact give f r hQ
theorem qt_ix {ta tb : TE} {fa fb : Ev → Option D} (ha : Qt K mg ta fa) (hb : Qt K mg tb fb) : Qt K mg (tOp (rIxX K mg) ta tb) (q2f opIx fa fb) := by
  intro F H O σ E d e w s Q hQ
  unfold q2f at e
  split at e
  · rename_i dx ea
    split at e
    · rename_i dy eb
      exact q2 ha hb ea eb w s _ fun x y F' H' A B q rx ry => ok_ix e q.le rx ry fun v C r => hQ v F' H' C q r
    · cases e
  · cases e
theorem pq_ix {a b : Expr} {fa fb} (ha : PQ Y a fa) (hb : PQ Y b fb) (hs : PlainIx b := by intro _ _; rfl) : PQ Y (.Subscript a b pos) (q2f opIx fa fb) :=
  let ⟨_, p1, q1⟩ := ha; let ⟨_, p2, q2⟩ := hb; ⟨_, fun X h => pe_ix (ix_Y h) (p1 X h) (p2 X h) hs, qt_ix q1 q2⟩
theorem pd_ix {a b : Expr} {fa fb} (ha : PD Y a fa) (hb : PD Y b fb) (hs : PlainIx b := by intro _ _; rfl) : PD Y (.Subscript a b pos) (e2f opIxF fa fb) :=
  let ⟨_, p1, q1⟩ := ha; let ⟨_, p2, q2⟩ := hb; ⟨_, fun X h => pe_ix (ix_Y h) (p1 X h) (p2 X h) hs, de_op ok_ixF q1 q2⟩
/-- slot[e]: the item is read behind e -/
def eIxN (i : Nat) (fb : Ev → Option (D × Ev)) : Ev → Option (D × Ev) := fun E => match E[i]? with
  | some (some _) => (match fb E with | some (k, E1) => (match E1[i]? with | some (some c) => (match opIxF c k with | some d => some (d, E1) | none => (match opIxF (froz c) k with | some d => some (d, E1.set i (some (froz c))) | none => none)) | _ => none) | none => none)
  | _ => none
theorem pd_ixN {i : Nat} {x : Str} {px : Pos} {b : Expr} {fb} (hN : Y.N[i]? = some x) (hv : Vis Y.sc x) (hb : PD Y b fb) (hs : PlainIx b := by intro _ _; rfl)
    (hd : (x == ("__debug__" : Str)) = false := by decide) (hcd : (x == ("__classdict__" : Str)) = false := by decide) : PD Y (.Subscript (.Name x px) b pos) (eIxN i fb) := by
  obtain ⟨_, p2, q2⟩ := hb
  refine ⟨_, fun X h => pe_ix (ix_Y h) (pe_var (h.nm hN) (h.vis hv) hd hcd) (p2 X h) hs, fun F H O σ E d E' e w s Q hQ => ?_⟩
  unfold eIxN at e
  split at e
  · rename_i d0 e0
    split at e
    · rename_i k E1 ek
      split at e
      · rename_i c ec
        split at e
        · rename_i d' eo
          cases e
          obtain ⟨v0, A0, es0, _⟩ := s.get w e0
          refine ⟨v0, es0, q2 F H O σ E k _ ek w s _ fun v F1 H1 A O1 x1 w1 r1 s1 => ?_⟩
          obtain ⟨v1, A1, es1, rv⟩ := s1.get w1.right ec
          have ev : v0 = v1 := by
            rw [es0] at es1
            exact Option.some.inj (Option.some.inj es1)
          subst ev
          obtain ⟨eo', z⟩ := fzOnly_some eo
          refine ok_ix eo' w1.le rv r1 fun u C r => ?_
          have c := r.fz z
          subst c
          exact hQ u F1 H1 [] O1 (x1.sub (fun _ m => m) fun b m => .inl (List.mem_append_right _ m)) w1.right r s1
        · split at e
          · rename_i d' eo
            cases e
            obtain ⟨v0, A0, es0, _⟩ := s.get w e0
            refine ⟨v0, es0, q2 F H O σ E k _ ek w s _ fun v F1 H1 A O1 x1 w1 r1 s1 => ?_⟩
            obtain ⟨v1, A1, es1, rv, wA, sA, go⟩ := s1.change w1.right ec
            have ev : v0 = v1 := by
              rw [es0] at es1
              exact Option.some.inj (Option.some.inj es1)
            subst ev
            obtain ⟨O', s', w', x'⟩ := go _ _ _ _ (frz_ext wA) (Own.nil (frz_le wA)) (rv.freeze wA)
            obtain ⟨eo', z⟩ := fzOnly_some eo
            refine ok_ix eo' w'.le (rv.freeze wA) (r1.ext x' w1.apart) fun u C r => ?_
            have c := r.fz z
            subst c
            exact hQ u _ H1 [] O' ((x1.sub (fun _ m => m) fun b m => .inl (List.mem_append_right _ m)).trans x') w' r s'
          · cases e
      · cases e
    · cases e
  · cases e

/-! ### slices -/
def opSl (x : D) (lo hi : Option Int) : Option D := match x with
  | .lst _ xs => if isFzL xs = true then some (.lst true (cutG xs lo hi)) else none
  | .scr xs => if isFzL xs = true then some (.lst true (cutG xs lo hi)) else none
  | .tup xs => if isFzL xs = true then some (.tup (cutG xs lo hi)) else none
  | .str z => if z.length ≤ sizeLine then some (.str (cutS z lo hi)) else none
  | _ => none
abbrev rSlX (K : PySem.W.Frag) : V → Option Int → Option Int → Hp → VK → Prop := fun x lo hi H Q => rSlL K x lo hi H Q ∨ (rSlA K x lo hi H Q ∨ rSlS x lo hi H Q)
theorem sl_any {X : Cx} : SlR X (rSlX X.K) := sl_list.or (sl_tupA.or sl_str)
theorem RpL.cut {F H : Hp} {vs : List V} {ds : List D} (r : RpL K mg F H vs ds []) (lo hi : Option Int) : RpL K mg F H (cutV vs lo hi) (cutG ds lo hi) [] := by
  unfold cutV cutG
  rw [r.length]
  exact (r.drop _).take _
theorem sIx_whole {α : Type} (ds : List α) (lo hi : Option Int) (h : HT.sIx ds.length 0 lo = 0 ∧ HT.sIx ds.length ds.length hi = ds.length) : cutG ds lo hi = ds := by
  unfold cutG
  rw [h.1, h.2, List.drop_zero, Nat.sub_zero, List.take_length]
theorem ok_sl {F H : Hp} {x : V} {dx d : D} {A : List Addr} {lo hi : Option Int} (e : opSl dx lo hi = some d) (f : ∀ a o, F a = some o → H a = some o) (rx : Rp K mg F H x dx A)
    {Q : VK} (hQ : ∀ v F' H' C, Qx F H F' H' → C.Nodup → (∀ c ∈ C, H c = none) → Rp K mg F' H' v d C → Q v H') : rSlX K x lo hi H Q := by
  cases dx <;> simp only [opSl] at e <;> try (cases e; done)
  · split at e
    · cases e
      rename_i z
      exact .inr (.inr ⟨_, rx.str_inv, z, give f (.str _) hQ⟩)
    · cases e
  · split at e
    · cases e
      rename_i z
      obtain ⟨a, vs, ev, e1, e2, z1, r1⟩ := rx.tup_inv f
      have s1 := r1.nilOf z
      refine .inr (.inl ⟨a, vs, ev, e2, fun hw => ?_, fun _ p hp => mk_tup f hp (Nat.le_trans (cutV_length vs lo hi) z1) (s1.cut lo hi) hQ⟩)
      rw [s1.length] at hw
      rw [sIx_whole _ lo hi hw] at hQ
      exact give f (ev ▸ (.tup e1 z1 s1 : Rp K mg F H (.ref a) _ [])) hQ
    · cases e
  · split at e
    · cases e
      rename_i z
      obtain ⟨a, vs, _, ev, e1, z1, r1, _⟩ := rx.lst_inv f
      exact .inl ⟨a, vs, ev, SqL.of e1, fun p hp => mk_lst f hp (Nat.le_trans (cutV_length vs lo hi) z1) ((r1.nilOf z).cut lo hi) hQ⟩
    · cases e
  · split at e
    · cases e
      rename_i z
      obtain ⟨a, vs, ev, e1, z1, r1⟩ := rx.scr_inv f
      exact .inl ⟨a, vs, ev, e1, fun p hp => mk_lst f hp (Nat.le_trans (cutV_length vs lo hi) z1) (r1.cut lo hi) hQ⟩
    · cases e
def PQo (Y : Fm) (e : Option Expr) (f : Ev → Option (Option Int)) : Prop := ∃ t, (∀ X, Y.Is X → PO X e t) ∧ ∀ (F H : Hp) (O : List Addr) (σ : L2.St) (E : Ev) (o : Option Int), f E = some o → Own F H O → RpS Y.K Y.mg F H σ E O →
  ∀ Q : Option Int → Hp → Prop, (∀ F' H', Qx F H F' H' → Q o H') → t σ H Q
def qNo : Ev → Option (Option Int) := fun _ => some none
def asI : D → Option Int
  | .int i => some i
  | _ => none
def qPart (f : Ev → Option D) : Ev → Option (Option Int) := fun E => match f E with | some d => (match asI d with | some i => some (some i) | none => none) | none => none
theorem asI_some {d : D} {i : Int} (h : asI d = some i) : d = .int i := by
  cases d <;> simp [asI] at h
  subst h; rfl
theorem qo_none : PQo Y none qNo := ⟨_, fun _ _ => po_none, fun F H O σ E o e w s Q hQ => by cases e; exact hQ F H (Qx.refl w.le)⟩
theorem qo_some {e : Expr} {f} (h : PQ Y e f) : PQo Y (some e) (qPart f) := by
  obtain ⟨_, p, q⟩ := h
  refine ⟨_, fun X h => po_some (p X h), fun F H O σ E o e w s Q hQ => ?_⟩
  unfold qPart at e
  split at e
  · rename_i d ed
    split at e
    · rename_i i ei
      cases e
      have := asI_some ei
      subst this
      exact q F H O σ E _ ed w s _ fun v F' H' A x r => ⟨i, r.int_inv, hQ F' H' x⟩
    · cases e
  · cases e
def qSl (f : Ev → Option D) (l h : Ev → Option (Option Int)) : Ev → Option D := fun E => match f E with | some x => (match l E with | some lo => (match h E with | some hi => opSl x lo hi | none => none) | none => none) | none => none
def nSl (f : Ev → Option D) (l h : Ev → Option (Option Int)) : Ev → Option (D × Ev) := fun E => match qSl f l h E with | some d => some (d, E) | none => none
theorem sl_core {te : TE} {tl th : TO} {f : Ev → Option D} {l h : Ev → Option (Option Int)} (q : Qt K mg te f)
    (ql : ∀ (F H : Hp) (O : List Addr) (σ : L2.St) (E : Ev) (o : Option Int), l E = some o → Own F H O → RpS K mg F H σ E O → ∀ Q : Option Int → Hp → Prop, (∀ F' H', Qx F H F' H' → Q o H') → tl σ H Q)
    (qh : ∀ (F H : Hp) (O : List Addr) (σ : L2.St) (E : Ev) (o : Option Int), h E = some o → Own F H O → RpS K mg F H σ E O → ∀ Q : Option Int → Hp → Prop, (∀ F' H', Qx F H F' H' → Q o H') → th σ H Q)
    {F H : Hp} {O : List Addr} {σ : L2.St} {E : Ev} {d : D} (e : qSl f l h E = some d) (w : Own F H O) (s : RpS K mg F H σ E O) {Q : VK}
    (hQ : ∀ v F' H' C, Qx F H F' H' → C.Nodup → (∀ c ∈ C, H c = none) → Rp K mg F' H' v d C → Q v H') : tSl (rSlX K) te tl th σ H Q := by
  unfold qSl at e
  split at e
  · rename_i dx ex
    split at e
    · rename_i lo el
      split at e
      · rename_i hi eh
        refine q F H O σ E dx ex w s _ fun v F1 H1 A x1 r1 => ql F1 H1 O σ E lo el (x1.own w) (x1.rps s) _ fun F2 H2 x2 => qh F2 H2 O σ E hi eh ((x1.trans x2).own w) ((x1.trans x2).rps s) _ fun F3 H3 x3 => ?_
        have x := x1.trans (x2.trans x3)
        refine ok_sl e x.le (x3.rp (x2.rp r1)) fun u F4 H4 C x4 nd hf r => hQ u F4 H4 C (x.trans x4) nd (fun c m => ?_) r
        exact Classical.byContradiction fun n => x.ext.dom c n (hf c m)
      · cases e
    · cases e
  · cases e
theorem pq_sl {a : Expr} {lo hi : Option Expr} {p2 : Pos} {f l h} (ha : PQ Y a f) (hl : PQo Y lo l) (hh : PQo Y hi h) : PQ Y (.Subscript a (.Slice lo hi none p2) pos) (qSl f l h) := by
  obtain ⟨_, p, q⟩ := ha
  obtain ⟨_, pl, ql⟩ := hl
  obtain ⟨_, ph, qh⟩ := hh
  exact ⟨_, fun X h => pe_slice (h.K ▸ sl_any) (p X h) (pl X h) (ph X h), fun F H O σ E d e w s Q hQ => sl_core q ql qh e w s fun v F' H' C x _ _ r => hQ v F' H' C x r⟩
theorem pn_sl {a : Expr} {lo hi : Option Expr} {p2 : Pos} {f l h} (ha : PQ Y a f) (hl : PQo Y lo l) (hh : PQo Y hi h) : PD Y (.Subscript a (.Slice lo hi none p2) pos) (nSl f l h) := by
  obtain ⟨_, p, q⟩ := ha
  obtain ⟨_, pl, ql⟩ := hl
  obtain ⟨_, ph, qh⟩ := hh
  refine ⟨_, fun X h => pe_slice (h.K ▸ sl_any) (p X h) (pl X h) (ph X h), fun F H O σ E d E' e w s Q hQ => ?_⟩
  unfold nSl at e
  split at e
  · rename_i d' ed
    cases e
    exact sl_core q ql qh ed w s fun v F' H' C x nd hf r => hQ v F' H' C O (Ext.fresh x hf) (w.fresh x nd hf r.alive) r (x.rps s)
  · cases e

/-! ### calls of built-ins -/
def q1L (op : List D → Option D) (g : Ev → Option (List D)) : Ev → Option D := fun E => match g E with | some ds => op ds | none => none
def n1L (op : List D → Option D) (g : Ev → Option (List D)) : Ev → Option (D × Ev) := fun E => match g E with | some ds => (match op ds with | some d => some (d, E) | none => none) | none => none
def e1L (op : List D → Option D) (g : Ev → Option (List D × Ev)) : Ev → Option (D × Ev) := fun E => match g E with | some (ds, E1) => (match op ds with | some d => some (d, E1) | none => none) | none => none
theorem qt_cb {t : TA} {r : List V → Hp → VK → Prop} {op : List D → Option D} {g} (hr : RLok K mg r op) (q : Qa K mg t g) : Qt K mg (tCB r t) (q1L op g) := by
  intro F H O σ E d e w s Q hQ
  unfold q1L at e
  split at e
  · rename_i ds ed
    exact q F H O σ E ds ed w s _ fun vs F1 H1 A x1 r1 => hr F1 H1 vs ds d A e x1.le r1 Q fun v F2 H2 C x2 _ _ r2 => hQ v F2 H2 C (x1.trans x2) r2
  · cases e
theorem de_cbn {t : TA} {r : List V → Hp → VK → Prop} {op : List D → Option D} {g} (hr : RLok K mg r op) (q : Qa K mg t g) : De K mg (tCB r t) (n1L op g) := by
  intro F H O σ E d E' e w s Q hQ
  unfold n1L at e
  split at e
  · rename_i ds ed
    split at e
    · rename_i d' eo
      cases e
      refine q F H O σ E ds ed w s _ fun vs F1 H1 A x1 r1 => hr F1 H1 vs ds d A eo x1.le r1 Q fun v F2 H2 C x2 nd hf r2 => ?_
      have hf' : ∀ c ∈ C, H c = none := fun c m => Classical.byContradiction fun n => x1.ext.dom c n (hf c m)
      exact hQ v F2 H2 C O (Ext.fresh (x1.trans x2) hf') (w.fresh (x1.trans x2) nd hf' r2.alive) r2 ((x1.trans x2).rps s)
    · cases e
  · cases e
theorem de_cb {t : TA} {r : List V → Hp → VK → Prop} {op : List D → Option D} {g} (hr : RLok K mg r op) (q : Da K mg t g) : De K mg (tCB r t) (e1L op g) := by
  intro F H O σ E d E' e w s Q hQ
  unfold e1L at e
  split at e
  · rename_i ds E1 ed
    split at e
    · rename_i d' eo
      cases e
      refine q F H O σ E ds _ ed w s _ fun vs F1 H1 A O1 x1 w1 r1 s1 => hr F1 H1 vs ds d A eo w1.le r1 Q fun v F2 H2 C x2 nd hf r2 => ?_
      exact hQ v F2 H2 C O1 ((x1.sub (fun _ m => m) fun b m => .inl (List.mem_append_right _ m)).trans (Ext.fresh (O := O1) x2 hf)) (w1.right.fresh x2 nd hf r2.alive) r2 (x2.rps s1)
    · cases e
  · cases e
section
variable {x : Str} {px : Pos} {id T : String} {r : List V → Hp → VK → Prop} {op : List D → Option D}
theorem pq_callB {g} (hc : CallY Y (.builtin id) r) (hr : RLok Y.K Y.mg r op) (hg : GlY Y x) (hm : Y.mg x = none) (hv : bootBuiltins x = some (.builtin id)) (ha : PQa Y (e :: es) g) (hn : x ≠ "__name__" := by decide) (hdb : (x == ("__debug__" : Str)) = false := by decide)
    (he : ∀ X : Cx, starEach (e :: es) X.env = (false, eval e X.env) :: starEach es X.env := by intro _; rfl) (hpl : ∀ X : Cx, (backTo pos (starEach es X.env)).any (·.1) = false := by intro _; rfl) : PQ Y (.Call (.Name x px) (e :: es) [] pos) (q1L op g) :=
  let ⟨_, p, q⟩ := ha; ⟨_, fun X h => pe_callB (hc X h) (h.gl hg) (h.mgN hm) hv (p X h) hn hdb (he X) (hpl X), qt_cb hr q⟩
theorem pn_callB {g} (hc : CallY Y (.builtin id) r) (hr : RLok Y.K Y.mg r op) (hg : GlY Y x) (hm : Y.mg x = none) (hv : bootBuiltins x = some (.builtin id)) (ha : PQa Y (e :: es) g) (hn : x ≠ "__name__" := by decide) (hdb : (x == ("__debug__" : Str)) = false := by decide)
    (he : ∀ X : Cx, starEach (e :: es) X.env = (false, eval e X.env) :: starEach es X.env := by intro _; rfl) (hpl : ∀ X : Cx, (backTo pos (starEach es X.env)).any (·.1) = false := by intro _; rfl) : PD Y (.Call (.Name x px) (e :: es) [] pos) (n1L op g) :=
  let ⟨_, p, q⟩ := ha; ⟨_, fun X h => pe_callB (hc X h) (h.gl hg) (h.mgN hm) hv (p X h) hn hdb (he X) (hpl X), de_cbn hr q⟩
theorem pd_callB {g} (hc : CallY Y (.builtin id) r) (hr : RLok Y.K Y.mg r op) (hg : GlY Y x) (hm : Y.mg x = none) (hv : bootBuiltins x = some (.builtin id)) (ha : PDa Y (e :: es) g) (hn : x ≠ "__name__" := by decide) (hdb : (x == ("__debug__" : Str)) = false := by decide)
    (he : ∀ X : Cx, starEach (e :: es) X.env = (false, eval e X.env) :: starEach es X.env := by intro _; rfl) (hpl : ∀ X : Cx, (backTo pos (starEach es X.env)).any (·.1) = false := by intro _; rfl) : PD Y (.Call (.Name x px) (e :: es) [] pos) (e1L op g) :=
  let ⟨_, p, q⟩ := ha; ⟨_, fun X h => pe_callB (hc X h) (h.gl hg) (h.mgN hm) hv (p X h) hn hdb (he X) (hpl X), de_cb hr q⟩
theorem pq_callT {g} (hc : CallY Y (.type T) r) (hr : RLok Y.K Y.mg r op) (hg : GlY Y x) (hm : Y.mg x = none) (hv : bootBuiltins x = some (.type T)) (ha : PQa Y (e :: es) g) (hn : x ≠ "__name__" := by decide) (hdb : (x == ("__debug__" : Str)) = false := by decide)
    (he : ∀ X : Cx, starEach (e :: es) X.env = (false, eval e X.env) :: starEach es X.env := by intro _; rfl) (hpl : ∀ X : Cx, (backTo pos (starEach es X.env)).any (·.1) = false := by intro _; rfl) : PQ Y (.Call (.Name x px) (e :: es) [] pos) (q1L op g) :=
  let ⟨_, p, q⟩ := ha; ⟨_, fun X h => pe_callTy (hc X h) (h.gl hg) (h.mgN hm) hv (p X h) hn hdb (he X) (hpl X), qt_cb hr q⟩
theorem pn_callT {g} (hc : CallY Y (.type T) r) (hr : RLok Y.K Y.mg r op) (hg : GlY Y x) (hm : Y.mg x = none) (hv : bootBuiltins x = some (.type T)) (ha : PQa Y (e :: es) g) (hn : x ≠ "__name__" := by decide) (hdb : (x == ("__debug__" : Str)) = false := by decide)
    (he : ∀ X : Cx, starEach (e :: es) X.env = (false, eval e X.env) :: starEach es X.env := by intro _; rfl) (hpl : ∀ X : Cx, (backTo pos (starEach es X.env)).any (·.1) = false := by intro _; rfl) : PD Y (.Call (.Name x px) (e :: es) [] pos) (n1L op g) :=
  let ⟨_, p, q⟩ := ha; ⟨_, fun X h => pe_callTy (hc X h) (h.gl hg) (h.mgN hm) hv (p X h) hn hdb (he X) (hpl X), de_cbn hr q⟩
theorem pd_callT {g} (hc : CallY Y (.type T) r) (hr : RLok Y.K Y.mg r op) (hg : GlY Y x) (hm : Y.mg x = none) (hv : bootBuiltins x = some (.type T)) (ha : PDa Y (e :: es) g) (hn : x ≠ "__name__" := by decide) (hdb : (x == ("__debug__" : Str)) = false := by decide)
    (he : ∀ X : Cx, starEach (e :: es) X.env = (false, eval e X.env) :: starEach es X.env := by intro _; rfl) (hpl : ∀ X : Cx, (backTo pos (starEach es X.env)).any (·.1) = false := by intro _; rfl) : PD Y (.Call (.Name x px) (e :: es) [] pos) (e1L op g) :=
  let ⟨_, p, q⟩ := ha; ⟨_, fun X h => pe_callTy (hc X h) (h.gl hg) (h.mgN hm) hv (p X h) hn hdb (he X) (hpl X), de_cb hr q⟩
/-- a built-in type's name as a value -/
theorem pq_ty (hg : GlY Y x) (hm : Y.mg x = none) (hv : bootBuiltins x = some (.type T)) (hn : x ≠ "__name__" := by decide) (hdb : (x == ("__debug__" : Str)) = false := by decide) : PQ Y (.Name x px) (qC (.ty T)) :=
  ⟨_, fun X h => pe_bltn (h.gl hg) (h.mgN hm) hv (v := .ty T) rfl hn hdb, qt_c fun _ _ => .ty T⟩
end
end
end Dm

namespace Dm
open PySem PySem.Spec L2
open PyProof.Rows hiding St
/-! ### built-in functions on data -/
section
variable {K : PySem.W.Frag} {mg : Md} {F H F' H' : Hp} {O A B C : List Addr} {v : V} {d : D} {vs ws : List V} {ds es : List D} {a : Addr} {b : Bool}
theorem RpL.one_inv {d : D} (r : RpL K mg F H vs [d] A) : ∃ v, vs = [v] ∧ Rp K mg F H v d A := by
  cases r with
  | cons r1 r2 =>
    cases r2
    refine ⟨_, rfl, ?_⟩
    rw [List.append_nil]
    exact r1
theorem RpL.two_inv {d e : D} (r : RpL K mg F H vs [d, e] A) : ∃ v w A1 A2, vs = [v, w] ∧ Rp K mg F H v d A1 ∧ Rp K mg F H w e A2 := by
  cases r with
  | cons r1 r2 =>
    obtain ⟨w, e, r3⟩ := r2.one_inv
    subst e
    exact ⟨_, _, _, _, rfl, r1, r3⟩
def opLen : List D → Option D
  | [.lst _ xs] => some (.int xs.length)
  | [.scr xs] => some (.int xs.length)
  | [.tup xs] => some (.int xs.length)
  | [.str z] => if z.length ≤ sizeLine then some (.int z.length) else none
  | _ => none
end
abbrev rLenX (K : PySem.W.Frag) : List V → Hp → VK → Prop := fun xs H Q => (∃ p ys, xs = [.ref p] ∧ (SqL K H p ys ∨ SqT K H p ys) ∧ Q (.int ys.length) H) ∨ ∃ z : Str, xs = [.str z] ∧ z.length ≤ sizeLine ∧ Q (.int z.length) H
theorem call_lenX {X : Cx} : CallR X (.builtin "len") (rLenX X.K) := call_len_seq.or call_len_str
section
variable {K : PySem.W.Frag} {mg : Md}
theorem ok_len : RLok K mg (rLenX K) opLen := by
  intro F H vs ds d A e f r Q hQ
  unfold opLen at e
  split at e
  · cases e
    obtain ⟨v, ev, r1⟩ := r.one_inv
    obtain ⟨a, us, _, ea, e1, z1, r2, _⟩ := r1.lst_inv f
    subst ev
    refine .inl ⟨a, us, by rw [ea], .inl (SqL.of e1), ?_⟩
    rw [r2.length]
    exact give f (.int _) hQ
  · cases e
    obtain ⟨v, ev, r1⟩ := r.one_inv
    obtain ⟨a, us, ea, e1, z1, r2⟩ := r1.scr_inv f
    subst ev
    refine .inl ⟨a, us, by rw [ea], .inl e1, ?_⟩
    rw [r2.length]
    exact give f (.int _) hQ
  · cases e
    obtain ⟨v, ev, r1⟩ := r.one_inv
    obtain ⟨a, us, ea, _, e1, z1, r2⟩ := r1.tup_inv f
    subst ev
    refine .inl ⟨a, us, by rw [ea], .inr e1, ?_⟩
    rw [r2.length]
    exact give f (.int _) hQ
  · split at e
    · cases e
      rename_i z
      obtain ⟨v, ev, r1⟩ := r.one_inv
      subst ev
      exact .inr ⟨_, by rw [r1.str_inv], z, give f (.int _) hQ⟩
    · cases e
  · cases e
/-! isinstance -/
def tyName : D → Option String
  | .non => some "NoneType"
  | .bl _ => some "bool"
  | .int _ => some "int"
  | .str _ => some "str"
  | .tup _ => some "tuple"
  | .lst _ _ => some "list"
  | .scr _ => some "list"
  | _ => none
def tyNames : List String := ["int", "bool", "str", "tuple", "list", "dict"]
def isiN (t T : String) : Bool := t == T || (t == "bool" && T == "int")
def opIsi : List D → Option D
  | [x, .ty T] => match tyName x with
    | some t => if T ∈ tyNames then some (.bl (isiN t T)) else none
    | none => none
  | _ => none
theorem kit_names {t T : String} (ht : t ∈ "NoneType" :: tyNames) (hT : T ∈ tyNames) : PySem.W.kitOne K (.type t) (.type T) = some (isiN t T) := by
  simp only [tyNames, List.mem_cons, List.not_mem_nil, or_false] at ht hT
  rcases ht with h | h | h | h | h | h | h <;> rcases hT with h' | h' | h' | h' | h' | h' <;> subst h <;> subst h' <;> rfl
theorem Rp.tyX {F H : Hp} {v : V} {x : D} {A : List Addr} {t : String} (f : ∀ a o, F a = some o → H a = some o) (r : Rp K mg F H v x A) (e : tyName x = some t) : TyX K H v (.type t) ∧ t ∈ "NoneType" :: tyNames := by
  cases x <;> simp only [tyName] at e <;> try (cases e; done)
  · cases e
    rw [r.non_inv]
    exact ⟨.base .non, by decide⟩
  · cases e
    rw [r.bl_inv]
    exact ⟨.base (.bl _), by decide⟩
  · cases e
    rw [r.int_inv]
    exact ⟨.base (.int _), by decide⟩
  · cases e
    rw [r.str_inv]
    exact ⟨.base (.str _), by decide⟩
  · cases e
    obtain ⟨a, us, ea, _, e1, z1, r2⟩ := r.tup_inv f
    subst ea
    refine ⟨?_, by decide⟩
    rcases e1 with (e1 | ⟨o, e1⟩) | ⟨o, its, n, h1, h2, _⟩
    · exact .base (.tup e1)
    · exact .fTuple e1
    · exact .kTuple h1 h2
  · cases e
    obtain ⟨a, us, _, ea, e1, z1, r2, _⟩ := r.lst_inv f
    subst ea
    exact ⟨.base (.lst e1), by decide⟩
  · cases e
    obtain ⟨a, us, ea, e1, z1, r2⟩ := r.scr_inv f
    subst ea
    refine ⟨?_, by decide⟩
    rcases e1 with (e1 | ⟨o, e1⟩) | ⟨o, its, n, h1, h2, _⟩
    · exact .base (.lst e1)
    · exact .base (.frz e1)
    · exact .kList h1 h2
theorem ok_isi : RLok K mg (rIsi K) opIsi := by
  intro F H vs ds d A e f r Q hQ
  unfold opIsi at e
  split at e
  · rename_i x T
    split at e
    · rename_i t et
      split at e
      · cases e
        rename_i hT
        obtain ⟨v, w, A1, A2, ev, r1, r2⟩ := r.two_inv
        subst ev
        obtain ⟨h1, h2⟩ := r1.tyX f et
        cases r2
        exact ⟨v, .ty T, .type t, .type T, isiN t T, rfl, .ty T, h1, kit_names h2 hT, give f (.bl _) hQ⟩
      · cases e
    · cases e
  · cases e
/-! numbers -/
def opAbs : List D → Option D
  | [.int i] => some (.int (if i < 0 then -i else i))
  | _ => none
theorem ok_abs : RLok K mg (fun xs H Q => ∃ i : Int, xs = [.int i] ∧ Q (.int (if i < 0 then -i else i)) H) opAbs := by
  intro F H vs ds d A e f r Q hQ
  unfold opAbs at e
  split at e
  · cases e
    obtain ⟨v, ev, r1⟩ := r.one_inv
    subst ev
    exact ⟨_, by rw [r1.int_inv], give f (.int _) hQ⟩
  · cases e
def opInt : List D → Option D
  | [.int i] => some (.int i)
  | [.bl b] => some (.int (if b then 1 else 0))
  | _ => none
theorem ok_int : RLok K mg (fun xs H Q => (∃ i : Int, xs = [.int i] ∧ Q (.int i) H) ∨ ∃ k : Bool, xs = [.bl k] ∧ Q (.int (if k then 1 else 0)) H) opInt := by
  intro F H vs ds d A e f r Q hQ
  unfold opInt at e
  split at e
  · cases e
    obtain ⟨v, ev, r1⟩ := r.one_inv
    subst ev
    exact .inl ⟨_, by rw [r1.int_inv], give f (.int _) hQ⟩
  · cases e
    obtain ⟨v, ev, r1⟩ := r.one_inv
    subst ev
    exact .inr ⟨_, by rw [r1.bl_inv], give f (.int _) hQ⟩
  · cases e
/-! lists of numbers, of truths -/
def intsOf : List D → Option (List Int)
  | [] => some []
  | .int i :: r => match intsOf r with | some is => some (i :: is) | none => none
  | _ :: _ => none
def blsOf : List D → Option (List Bool)
  | [] => some []
  | .bl i :: r => match blsOf r with | some is => some (i :: is) | none => none
  | _ :: _ => none
theorem intsOf_map (ns : List Int) : intsOf (ns.map D.int) = some ns := by
  induction ns with
  | nil => rfl
  | cons n ns ih => rw [List.map_cons, intsOf, ih]
theorem blsOf_map (ns : List Bool) : blsOf (ns.map D.bl) = some ns := by
  induction ns with
  | nil => rfl
  | cons n ns ih => rw [List.map_cons, blsOf, ih]
theorem RpL.ints {F H : Hp} : ∀ {ds : List D} {vs : List V} {A : List Addr} {ns : List Int}, RpL K mg F H vs ds A → intsOf ds = some ns → vs = ns.map V.int
  | [], _, _, _, .nil, e => by cases e; rfl
  | d :: ds, _, _, ns, .cons r1 r2, e => by
    cases d <;> simp only [intsOf] at e <;> try (cases e; done)
    split at e
    · rename_i is ei
      cases e
      rw [r1.int_inv, RpL.ints r2 ei]; rfl
    · cases e
theorem RpL.bls {F H : Hp} : ∀ {ds : List D} {vs : List V} {A : List Addr} {ns : List Bool}, RpL K mg F H vs ds A → blsOf ds = some ns → vs = ns.map V.bl
  | [], _, _, _, .nil, e => by cases e; rfl
  | d :: ds, _, _, ns, .cons r1 r2, e => by
    cases d <;> simp only [blsOf] at e <;> try (cases e; done)
    split at e
    · rename_i is ei
      cases e
      rw [r1.bl_inv, RpL.bls r2 ei]; rfl
    · cases e
def opAll : List D → Option D
  | [.lst _ xs] => match blsOf xs with | some bs => some (.bl (bs.all id)) | none => none
  | _ => none
def opAny : List D → Option D
  | [.lst _ xs] => match blsOf xs with | some bs => some (.bl (bs.any id)) | none => none
  | _ => none
def opSum : List D → Option D
  | [.lst _ xs] => match intsOf xs with | some ns => some (.int ns.sum) | none => none
  | _ => none
theorem ok_all : RLok K mg (rAll K) opAll := by
  intro F H vs ds d A e f r Q hQ
  unfold opAll at e
  split at e
  · split at e
    · cases e
      rename_i bs eb
      obtain ⟨v, ev, r1⟩ := r.one_inv
      obtain ⟨a, us, _, ea, e1, z1, r2, _⟩ := r1.lst_inv f
      subst ev
      have q := r2.bls eb
      subst q
      exact ⟨a, bs, by rw [ea], SqL.of e1, give f (.bl _) hQ⟩
    · cases e
  · cases e
theorem ok_any : RLok K mg (rAny K) opAny := by
  intro F H vs ds d A e f r Q hQ
  unfold opAny at e
  split at e
  · split at e
    · cases e
      rename_i bs eb
      obtain ⟨v, ev, r1⟩ := r.one_inv
      obtain ⟨a, us, _, ea, e1, z1, r2, _⟩ := r1.lst_inv f
      subst ev
      have q := r2.bls eb
      subst q
      exact ⟨a, bs, by rw [ea], SqL.of e1, give f (.bl _) hQ⟩
    · cases e
  · cases e
theorem ok_sum : RLok K mg (rSum K) opSum := by
  intro F H vs ds d A e f r Q hQ
  unfold opSum at e
  split at e
  · split at e
    · cases e
      rename_i bs eb
      obtain ⟨v, ev, r1⟩ := r.one_inv
      obtain ⟨a, us, _, ea, e1, z1, r2, _⟩ := r1.lst_inv f
      subst ev
      have q := r2.ints eb
      subst q
      exact ⟨a, bs, by rw [ea], SqL.of e1, give f (.int _) hQ⟩
    · cases e
  · cases e
/-! min, max: of two numbers, of a list of numbers -/
def opMin : List D → Option D
  | [.lst _ xs] => match intsOf xs with | some ns => (match ns.min? with | some m => some (.int m) | none => none) | none => none
  | [.int i, .int j] => some (.int (if j < i then j else i))
  | _ => none
def opMax : List D → Option D
  | [.lst _ xs] => match intsOf xs with | some ns => (match ns.max? with | some m => some (.int m) | none => none) | none => none
  | [.int i, .int j] => some (.int (if j > i then j else i))
  | _ => none
end
abbrev rMinX (K : PySem.W.Frag) : List V → Hp → VK → Prop := fun xs H Q => rMin K xs H Q ∨ ∃ i j : Int, xs = [.int i, .int j] ∧ Q (.int (if j < i then j else i)) H
abbrev rMaxX (K : PySem.W.Frag) : List V → Hp → VK → Prop := fun xs H Q => rMax K xs H Q ∨ ∃ i j : Int, xs = [.int i, .int j] ∧ Q (.int (if j > i then j else i)) H
theorem call_minX {X : Cx} (hc : X.calm = true) : CallR X (.builtin "min") (rMinX X.K) := (cr_min hc).or (call_min2 hc)
theorem call_maxX {X : Cx} (hc : X.calm = true) : CallR X (.builtin "max") (rMaxX X.K) := (cr_max hc).or (call_max2 hc)
section
variable {K : PySem.W.Frag} {mg : Md}
theorem ok_min : RLok K mg (rMinX K) opMin := by
  intro F H vs ds d A e f r Q hQ
  unfold opMin at e
  split at e
  · split at e
    · rename_i ns en
      split at e
      · cases e
        rename_i m em
        obtain ⟨v, ev, r1⟩ := r.one_inv
        obtain ⟨a, us, _, ea, e1, z1, r2, _⟩ := r1.lst_inv f
        subst ev
        have q := r2.ints en
        subst q
        obtain ⟨m1, m2⟩ := List.min?_eq_some_iff.mp em
        refine .inl ⟨a, ns, by rw [ea], SqL.of e1, List.length_pos_of_mem m1, fun k hk hle => ?_⟩
        have e' : k = m := Int.le_antisymm (hle m m1) (m2 k hk)
        subst e'
        exact give f (.int _) hQ
      · cases e
    · cases e
  · cases e
    obtain ⟨v, w, A1, A2, ev, r1, r2⟩ := r.two_inv
    subst ev
    exact .inr ⟨_, _, by rw [r1.int_inv, r2.int_inv], give f (.int _) hQ⟩
  · cases e
theorem ok_max : RLok K mg (rMaxX K) opMax := by
  intro F H vs ds d A e f r Q hQ
  unfold opMax at e
  split at e
  · split at e
    · rename_i ns en
      split at e
      · cases e
        rename_i m em
        obtain ⟨v, ev, r1⟩ := r.one_inv
        obtain ⟨a, us, _, ea, e1, z1, r2, _⟩ := r1.lst_inv f
        subst ev
        have q := r2.ints en
        subst q
        obtain ⟨m1, m2⟩ := List.max?_eq_some_iff.mp em
        refine .inl ⟨a, ns, by rw [ea], SqL.of e1, List.length_pos_of_mem m1, fun k hk hle => ?_⟩
        have e' : k = m := Int.le_antisymm (m2 k hk) (hle m m1)
        subst e'
        exact give f (.int _) hQ
      · cases e
    · cases e
  · cases e
    obtain ⟨v, w, A1, A2, ev, r1, r2⟩ := r.two_inv
    subst ev
    exact .inr ⟨_, _, by rw [r1.int_inv, r2.int_inv], give f (.int _) hQ⟩
  · cases e
/-! list(..), tuple(..) -/
def opList : List D → Option D
  | [.lst _ xs] => if isFzL xs = true then some (.lst true xs) else none
  | [.scr xs] => if isFzL xs = true then some (.lst true xs) else none
  | [.tup xs] => if isFzL xs = true then some (.lst true xs) else none
  | _ => none
def opTuple : List D → Option D
  | [.lst _ xs] => if isFzL xs = true then some (.tup xs) else none
  | [.scr xs] => if isFzL xs = true then some (.tup xs) else none
  | [.tup xs] => if isFzL xs = true then some (.tup xs) else none
  | _ => none
theorem ok_list : RLok K mg (fun xs H Q => ∃ p ys, xs = [V.ref p] ∧ (SqL K H p ys ∨ SqT K H p ys) ∧ ∀ l, H l = none → Q (.ref l) (upd H l (.lst ys))) opList := by
  intro F H vs ds d A e f r Q hQ
  unfold opList at e
  split at e
  · split at e
    · cases e
      rename_i z
      obtain ⟨v, ev, r1⟩ := r.one_inv
      obtain ⟨a, us, _, ea, e1, z1, r2, _⟩ := r1.lst_inv f
      subst ev
      exact ⟨a, us, by rw [ea], .inl (SqL.of e1), fun l hl => mk_lst f hl z1 (r2.nilOf z) hQ⟩
    · cases e
  · split at e
    · cases e
      rename_i z
      obtain ⟨v, ev, r1⟩ := r.one_inv
      obtain ⟨a, us, ea, e1, z1, r2⟩ := r1.scr_inv f
      subst ev
      exact ⟨a, us, by rw [ea], .inl e1, fun l hl => mk_lst f hl z1 r2 hQ⟩
    · cases e
  · split at e
    · cases e
      rename_i z
      obtain ⟨v, ev, r1⟩ := r.one_inv
      obtain ⟨a, us, ea, _, e1, z1, r2⟩ := r1.tup_inv f
      subst ev
      exact ⟨a, us, by rw [ea], .inr e1, fun l hl => mk_lst f hl z1 (r2.nilOf z) hQ⟩
    · cases e
  · cases e
theorem ok_tuple : RLok K mg (fun xs H Q => ∃ p ys, xs = [V.ref p] ∧ ((SqL K H p ys ∧ ∀ l, H l = none → Q (.ref l) (upd H l (.tup ys))) ∨ (SqT K H p ys ∧ Q (.ref p) H))) opTuple := by
  intro F H vs ds d A e f r Q hQ
  unfold opTuple at e
  split at e
  · split at e
    · cases e
      rename_i z
      obtain ⟨v, ev, r1⟩ := r.one_inv
      obtain ⟨a, us, _, ea, e1, z1, r2, _⟩ := r1.lst_inv f
      subst ev
      exact ⟨a, us, by rw [ea], .inl ⟨SqL.of e1, fun l hl => mk_tup f hl z1 (r2.nilOf z) hQ⟩⟩
    · cases e
  · split at e
    · cases e
      rename_i z
      obtain ⟨v, ev, r1⟩ := r.one_inv
      obtain ⟨a, us, ea, e1, z1, r2⟩ := r1.scr_inv f
      subst ev
      exact ⟨a, us, by rw [ea], .inl ⟨e1, fun l hl => mk_tup f hl z1 r2 hQ⟩⟩
    · cases e
  · split at e
    · cases e
      rename_i z
      obtain ⟨v, ev, r1⟩ := r.one_inv
      obtain ⟨a, us, ea, e0, e1, z1, r2⟩ := r1.tup_inv f
      subst ev
      exact ⟨a, us, by rw [ea], .inr ⟨e1, give f (.tup e0 z1 (r2.nilOf z)) hQ⟩⟩
    · cases e
  · cases e
end
/-! repr -/
def rRepr (K : PySem.W.Frag) : List V → Hp → VK → Prop := fun xs H Q => ∃ x d, xs = [x] ∧ Dp K H x d ∧ d.showable = true ∧ d.hasDict = false ∧ d.depth ≤ 60 ∧ d.shown.length ≤ sizeLine ∧ Q (.str d.shown) H
theorem call_reprD {X : Cx} (hg : X.A.guards = some []) (hu : X.A.units + 64 < cLine) : CallR X (.builtin "repr") (rRepr X.K) := by
  intro pins s σ H xs us Q I r h
  obtain ⟨x, d, rfl, hd, h1, h2, h3, h4, q⟩ := h
  obtain ⟨u, rfl, ru⟩ := vals1 r
  obtain ⟨as, rd⟩ := Dp.reads I d x u hd ru
  cases rd with
  | none =>
    refine PySem.P.repr_of_none ⟨.str _, H, I.tok _, ⟨_, rfl⟩, ?_⟩
    rw [PyData.shown_none] at q; exact q
  | bool b =>
    refine PySem.P.repr_of_bool ⟨.str _, H, I.tok _, ⟨_, rfl⟩, ?_⟩
    rw [PyData.shown_bool] at q; exact q
  | int i t =>
    refine PySem.P.repr_of_int (by simpa [PyData.showable] using h1) ⟨.str _, H, I.tok _, ⟨_, rfl⟩, ?_⟩
    rw [PyData.shown_int] at q; exact q
  | str z t =>
    rw [PyData.shown_str] at q h4
    exact PySem.P.repr_of_str ⟨.str _, H, I.tok _, ⟨_, rfl⟩, q⟩ h4
  | list p1 p2 p3 p4 =>
    exact repr_of_reads' (.list p1 p2 p3 p4) h1 (fun z => by rw [h2] at z; cases z) hg (by omega) (fun _ _ e => e) (fun h' u tk k => ⟨.str _, H, I.kept k, ⟨_, rfl⟩, q⟩) h4
  | tuple p1 p2 p3 p4 =>
    exact repr_of_reads' (.tuple p1 p2 p3 p4) h1 (fun z => by rw [h2] at z; cases z) hg (by omega) (fun _ _ e => e) (fun h' u tk k => ⟨.str _, H, I.kept k, ⟨_, rfl⟩, q⟩) h4
  | dict p1 p2 p3 p4 p5 => simp [PyData.hasDict] at h2
def okRepr (d : D) : Bool := isDat d && (toP d).showable && !(toP d).hasDict && decide ((toP d).depth ≤ 60) && decide ((toP d).shown.length ≤ sizeLine)
def opRepr : List D → Option D
  | [x] => if okRepr x = true then some (.str (toP x).shown) else none
  | _ => none
section
variable {K : PySem.W.Frag} {mg : Md}
theorem ok_repr : RLok K mg (rRepr K) opRepr := by
  intro F H vs ds d A e f r Q hQ
  unfold opRepr at e
  split at e
  · split at e
    · cases e
      rename_i z
      simp only [okRepr, Bool.and_eq_true, Bool.not_eq_true', decide_eq_true_eq] at z
      obtain ⟨⟨⟨⟨z1, z2⟩, z3⟩, z4⟩, z5⟩ := z
      obtain ⟨v, ev, r1⟩ := r.one_inv
      subst ev
      exact ⟨v, _, rfl, r1.dp f z1, z2, z3, z4, z5, give f (.str _) hQ⟩
    · cases e
  · cases e
end
end Dm

namespace Dm
open PySem PySem.Spec L2
open PyProof.Rows hiding St
/-! ### statements -/
inductive Out where
  | nx (E : Ev) | ret (d : D) (E : Ev) | bk (E : Ev) | ct (E : Ev)
abbrev Lks := Nat → Bool
structure Lk (lk : Lks) (σ σ' : L2.St) : Prop where
  len : σ'.length = σ.length
  eq : ∀ i, lk i = true → σ'[i]? = σ[i]?
theorem Lk.refl {lk : Lks} {σ : L2.St} : Lk lk σ σ := ⟨rfl, fun _ _ => rfl⟩
theorem Lk.trans {lk : Lks} {σ σ' σ2 : L2.St} (a : Lk lk σ σ') (b : Lk lk σ' σ2) : Lk lk σ σ2 := ⟨b.len.trans a.len, fun i h => (b.eq i h).trans (a.eq i h)⟩
section
variable (K : PySem.W.Frag) (mg : Md)
def SPst (F H : Hp) (O : List Addr) (σ : L2.St) (lk : Lks) (E' : Ev) (Q : L2.St → Hp → Prop) : Prop := ∀ σ' F' H' O', Lk lk σ σ' → Ext F H O F' H' O' → Own F' H' O' → RpS K mg F' H' σ' E' O' → Q σ' H'
def SRet (F H : Hp) (O : List Addr) (σ : L2.St) (lk : Lks) (d : D) (E' : Ev) (Q : VK) : Prop := ∀ v σ' F' H' A O', Lk lk σ σ' → Ext F H O F' H' (A ++ O') → Own F' H' (A ++ O') → Rp K mg F' H' v d A → RpS K mg F' H' σ' E' O' → Q v H'
def EndP (F H : Hp) (O : List Addr) (σ : L2.St) (lk : Lks) : Out → Ends → Prop
  | .nx E', N => SPst K mg F H O σ lk E' N.nx
  | .bk E', N => SPst K mg F H O σ lk E' N.bk
  | .ct E', N => SPst K mg F H O σ lk E' N.ct
  | .ret d E', N => SRet K mg F H O σ lk d E' N.rt
def Ds (t : TS) (lk : Lks) (g : Ev → Option Out) : Prop := ∀ (F H : Hp) (O : List Addr) (σ : L2.St) (E : Ev) (o : Out), g E = some o → Own F H O → RpS K mg F H σ E O → ∀ N : Ends, EndP K mg F H O σ lk o N → t N σ H
end
def SD (Y : Fm) (st : Stmt) (lk : Lks) (g : Ev → Option Out) : Prop := ∃ t, (∀ X, Y.Is X → PS X st t) ∧ Ds Y.K Y.mg t lk g
def SDs (Y : Fm) (sts : List Stmt) (lk : Lks) (g : Ev → Option Out) : Prop := ∃ t, (∀ X, Y.Is X → PSs X sts t) ∧ Ds Y.K Y.mg t lk g
section
variable {K : PySem.W.Frag} {mg : Md} {F H F' H' : Hp} {O O' A B C : List Addr} {σ σ' : L2.St} {lk : Lks} {N N' : Ends}
theorem SPst.from {E' : Ev} {Q : L2.St → Hp → Prop} (h : SPst K mg F H O σ lk E' Q) (l : Lk lk σ σ') (x : Ext F H O F' H' O') : SPst K mg F' H' O' σ' lk E' Q :=
  fun σ2 F2 H2 O2 l2 x2 w2 s2 => h σ2 F2 H2 O2 (l.trans l2) (x.trans x2) w2 s2
theorem SRet.from {d : D} {E' : Ev} {Q : VK} (h : SRet K mg F H O σ lk d E' Q) (l : Lk lk σ σ') (x : Ext F H O F' H' O') : SRet K mg F' H' O' σ' lk d E' Q :=
  fun v σ2 F2 H2 A O2 l2 x2 w2 r2 s2 => h v σ2 F2 H2 A O2 (l.trans l2) (x.trans x2) w2 r2 s2
theorem EndP.from {o : Out} (h : EndP K mg F H O σ lk o N) (l : Lk lk σ σ') (x : Ext F H O F' H' O') : EndP K mg F' H' O' σ' lk o N := by
  cases o with
  | nx E' => exact SPst.from h l x
  | bk E' => exact SPst.from h l x
  | ct E' => exact SPst.from h l x
  | ret d E' => exact SRet.from h l x
end
def sNil : Ev → Option Out := fun E => some (.nx E)
def sSeq (g1 g2 : Ev → Option Out) : Ev → Option Out := fun E => match g1 E with | some (.nx E1) => g2 E1 | o => o
def sBk : Ev → Option Out := fun E => some (.bk E)
def sCt : Ev → Option Out := fun E => some (.ct E)
def sExpr (f : Ev → Option (D × Ev)) : Ev → Option Out := fun E => match f E with | some (_, E1) => some (.nx E1) | none => none
def sRet (f : Ev → Option (D × Ev)) : Ev → Option Out := fun E => match f E with | some (d, E1) => some (.ret d E1) | none => none
def sRetN : Ev → Option Out := fun E => some (.ret .non E)
def sIf (c : Ev → Option (Bool × Ev)) (g1 g2 : Ev → Option Out) : Ev → Option Out := fun E => match c E with | some (true, E1) => g1 E1 | some (false, E1) => g2 E1 | none => none
section
variable {Y : Fm} {st : Stmt} {rest : List Stmt} {lk : Lks} {e : Expr} {pos : Pos} {g g1 g2 : Ev → Option Out}
theorem sd_nil : SDs Y [] lk sNil := ⟨_, fun _ _ => pss_nil, fun F H O σ E o e w s N h => by cases e; exact h σ F H O .refl Ext.refl w s⟩
theorem ds_seq {K : PySem.W.Frag} {mg : Md} {t u : TS} (h1 : Ds K mg t lk g1) (h2 : Ds K mg u lk g2) : Ds K mg (tSeq t u) lk (sSeq g1 g2) := by
  intro F H O σ E o e w s N h
  unfold sSeq at e
  cases e1 : g1 E with
  | none => rw [e1] at e; cases e
  | some o1 =>
    rw [e1] at e
    refine h1 F H O σ E o1 e1 w s _ ?_
    cases o1 with
    | nx E1 => exact fun σ' F' H' O' l x w' s' => h2 F' H' O' σ' E1 o e w' s' N (h.from l x)
    | ret d E1 => cases e; exact h
    | bk E1 => cases e; exact h
    | ct E1 => cases e; exact h
theorem sd_cons (h1 : SD Y st lk g1) (h2 : SDs Y rest lk g2) : SDs Y (st :: rest) lk (sSeq g1 g2) :=
  let ⟨_, p1, q1⟩ := h1; let ⟨_, p2, q2⟩ := h2; ⟨_, fun X h => pss_cons (p1 X h) (p2 X h), ds_seq q1 q2⟩
theorem sd_one (h1 : SD Y st lk g1) : SDs Y [st] lk g1 := let ⟨_, p1, q1⟩ := h1; ⟨_, fun X h => pss_one (p1 X h), q1⟩
theorem sd_pass : SD Y (.Pass pos) lk sNil := ⟨_, fun _ _ => ps_pass, fun F H O σ E o e w s N h => by cases e; exact h σ F H O .refl Ext.refl w s⟩
theorem sd_break : SD Y (.Break pos) lk sBk := ⟨_, fun _ _ => ps_break, fun F H O σ E o e w s N h => by cases e; exact h σ F H O .refl Ext.refl w s⟩
theorem sd_continue : SD Y (.Continue pos) lk sCt := ⟨_, fun _ _ => ps_continue, fun F H O σ E o e w s N h => by cases e; exact h σ F H O .refl Ext.refl w s⟩
theorem sd_doc {x : Str} {j pos'} : SD Y (.Expr (.Constant (.str x) j pos) pos') lk sNil := ⟨_, fun _ _ => ps_doc, fun F H O σ E o e w s N h => by cases e; exact h σ F H O .refl Ext.refl w s⟩
theorem sd_expr {f} (h : PD Y e f) (hs : ∀ X : Cx, swapsWith e none pos.line X.env = pure false := by intro _; rfl) : SD Y (.Expr e pos) lk (sExpr f) := by
  obtain ⟨_, p, q⟩ := h
  refine ⟨_, fun X h => ps_expr (p X h) (hs X), fun F H O σ E o e w s N h => ?_⟩
  unfold sExpr at e
  split at e
  · rename_i d E1 ed
    cases e
    refine q F H O σ E d E1 ed w s _ fun v F' H' A O' x w' r s' => h σ F' H' O' .refl (x.sub (fun _ m => m) fun b m => .inl (List.mem_append_right _ m)) w'.right s'
  · cases e
theorem sd_ret {f} (h : PD Y e f) : SD Y (.Return (some e) pos) lk (sRet f) := by
  obtain ⟨_, p, q⟩ := h
  refine ⟨_, fun X h => ps_ret (p X h), fun F H O σ E o e w s N h => ?_⟩
  unfold sRet at e
  split at e
  · rename_i d E1 ed
    cases e
    exact q F H O σ E d E1 ed w s _ fun v F' H' A O' x w' r s' => h v σ F' H' A O' .refl x w' r s'
  · cases e
theorem sd_retN : SD Y (.Return none pos) lk sRetN := ⟨_, fun _ _ => ps_retN, fun F H O σ E o e w s N h => by cases e; exact h .non σ F H [] O .refl Ext.refl w .non s⟩
theorem sd_if {c : Expr} {a b : List Stmt} {f} (hc : TD Y c f) (ha : SDs Y a lk g1) (hb : SDs Y b lk g2) : SD Y (.If c a b pos) lk (sIf f g1 g2) := by
  obtain ⟨_, p, q⟩ := hc
  obtain ⟨_, p1, q1⟩ := ha
  obtain ⟨_, p2, q2⟩ := hb
  refine ⟨_, fun X h => ps_if (p X h) (p1 X h) (p2 X h), fun F H O σ E o e w s N h => ?_⟩
  unfold sIf at e
  split at e
  · rename_i E1 ec
    refine q F H O σ E true E1 ec w s _ fun F' H' O' x w' s' => ?_
    rw [if_pos rfl]
    exact q1 F' H' O' σ E1 o e w' s' N (h.from .refl x)
  · rename_i E1 ec
    refine q F H O σ E false E1 ec w s _ fun F' H' O' x w' s' => ?_
    rw [if_neg Bool.false_ne_true]
    exact q2 F' H' O' σ E1 o e w' s' N (h.from .refl x)
  · cases e
end

/-! ### targets -/
structure Tch (ts : List Nat) (σ σ' : L2.St) : Prop where
  len : σ'.length = σ.length
  eq : ∀ i, i ∉ ts → σ'[i]? = σ[i]?
theorem Tch.refl {ts : List Nat} {σ : L2.St} : Tch ts σ σ := ⟨rfl, fun _ _ => rfl⟩
theorem Tch.set {i : Nat} {σ : L2.St} {v : Option V} : Tch [i] σ (σ.set i v) := ⟨List.length_set, fun j h => by rw [List.getElem?_set_ne (fun e => h (by simp [e]))]⟩
theorem Tch.trans {ts us : List Nat} {σ σ' σ2 : L2.St} (a : Tch ts σ σ') (b : Tch us σ' σ2) : Tch (ts ++ us) σ σ2 :=
  ⟨b.len.trans a.len, fun i h => by
    rw [List.mem_append, not_or] at h
    exact (b.eq i h.2).trans (a.eq i h.1)⟩
theorem Tch.lk {ts : List Nat} {lk : Lks} {σ σ' : L2.St} (a : Tch ts σ σ') (h : ∀ i ∈ ts, lk i = false) : Lk lk σ σ' := ⟨a.len, fun i hi => a.eq i fun m => by rw [h i m] at hi; cases hi⟩
section
variable (K : PySem.W.Frag) (mg : Md)
def Dg (t : TG) (ts : List Nat) (g : D → Ev → Option Ev) : Prop := ∀ (F H : Hp) (A O : List Addr) (σ : L2.St) (E E' : Ev) (v : V) (d : D), g d E = some E' → Own F H (A ++ O) → Rp K mg F H v d A → RpS K mg F H σ E O →
  ∀ Q : L2.St → Hp → Prop, (∀ σ' F' H' O', Tch ts σ σ' → Ext F H (A ++ O) F' H' O' → Own F' H' O' → RpS K mg F' H' σ' E' O' → Q σ' H') → t v σ H Q
def Dgs (t : TGs) (ts : List Nat) (g : List D → Ev → Option Ev) : Prop := ∀ (F H : Hp) (A O : List Addr) (σ : L2.St) (E E' : Ev) (vs : List V) (ds : List D), g ds E = some E' → Own F H (A ++ O) → RpL K mg F H vs ds A → RpS K mg F H σ E O →
  ∀ Q : L2.St → Hp → Prop, (∀ σ' F' H' O', Tch ts σ σ' → Ext F H (A ++ O) F' H' O' → Own F' H' O' → RpS K mg F' H' σ' E' O' → Q σ' H') → t vs σ H Q
end
def GD (Y : Fm) (e : Expr) (ts : List Nat) (g : D → Ev → Option Ev) : Prop := ∃ t, (∀ X, Y.Is X → PG X e t) ∧ Dg Y.K Y.mg t ts g
def GDs (Y : Fm) (es : List Expr) (ts : List Nat) (g : List D → Ev → Option Ev) : Prop := ∃ t, (∀ X, Y.Is X → PGs X es t) ∧ Dgs Y.K Y.mg t ts g
def gdName (i : Nat) : D → Ev → Option Ev := fun d E => some (E.set i (some d))
def gdNil : List D → Ev → Option Ev := fun ds E => match ds with | [] => some E | _ => none
def gdCons (g : D → Ev → Option Ev) (gs : List D → Ev → Option Ev) : List D → Ev → Option Ev := fun ds E => match ds with | d :: ds => (match g d E with | some E1 => gs ds E1 | none => none) | [] => none
def gdTup (n : Nat) (gs : List D → Ev → Option Ev) : D → Ev → Option Ev := fun d E => match d with | .tup ds => (if ds.length = n then gs ds E else none) | _ => none
section
variable {Y : Fm} {pos : Pos}
theorem gd_name {i : Nat} {x : Str} (hN : Y.N.Nodup) (hi : Y.N[i]? = some x) (hx : Loc Y.sc x) (hf : Y.fn x = true ∨ Y.sc.names.lookup x = some .local := by first | exact .inl rfl | exact .inr rfl | assumption) : GD Y (.Name x pos) [i] (gdName i) := by
  refine ⟨_, fun X h => pg_name (h.nd hN) (h.nm hi) (h.loc hx) (h.st hf), fun F H A O σ E E' v d e w r s Q h => ?_⟩
  cases e
  obtain ⟨O', s', w', m⟩ := s.assign (i := i) w r
  exact h _ F H O' Tch.set (Ext.refl.sub (fun b h => h) fun b h => .inr (m b h)) w' s'
theorem gds_nil : GDs Y [] [] gdNil := by
  refine ⟨_, fun _ _ => pgs_nil, fun F H A O σ E E' vs ds e w r s Q h => ?_⟩
  unfold gdNil at e
  split at e
  · cases e
    cases r
    exact ⟨rfl, h σ F H O Tch.refl Ext.refl w s⟩
  · cases e
theorem gds_cons {e : Expr} {es : List Expr} {ts us : List Nat} {g gs} (h1 : GD Y e ts g) (h2 : GDs Y es us gs)
    (hs : ∀ X : Cx, (assignEach (e :: es) X.env).map (·.2) = assign e X.env :: (assignEach es X.env).map (·.2) := by intro _; rfl) : GDs Y (e :: es) (ts ++ us) (gdCons g gs) := by
  obtain ⟨_, p1, q1⟩ := h1
  obtain ⟨_, p2, q2⟩ := h2
  refine ⟨_, fun X h => pgs_cons (p1 X h) (p2 X h) (hs X), fun F H A O σ E E' vs ds e w r s Q h => ?_⟩
  unfold gdCons at e
  split at e
  · rename_i d ds'
    split at e
    · rename_i E1 e1
      cases r with
      | @cons v vs _ _ A1 A2 r1 r2 =>
        refine ⟨v, vs, rfl, ?_⟩
        have pm : ((A1 ++ A2) ++ O).Perm (A2 ++ (A1 ++ O)) := by
          rw [List.append_assoc, ← List.append_assoc A2 A1 O]
          rw [← List.append_assoc]
          exact List.Perm.append_right O List.perm_append_comm
        have w2 := w.perm pm
        refine q1 F H A1 O σ E E1 v d e1 w2.right r1 s _ fun σ' F' H' O' c x w' s' => ?_
        refine q2 F' H' A2 O' σ' E1 E' vs ds' e (w2.frame x w') (r2.ext x w2.apart) s' Q fun σ2 F2 H2 O2 c2 x2 w3 s3 => ?_
        exact h σ2 F2 H2 O2 (c.trans c2) (((x.frame w2).trans x2).perm pm.symm (List.Perm.refl _)) w3 s3
    · cases e
  · cases e
theorem gd_tup {es : List Expr} {k : Nat} {n : Nat} {ts : List Nat} {gs} (h : GDs Y es ts gs) (hn : ∀ X : Cx, (assignEach es X.env).length = n := by intro _; rfl) (hst : ∀ X : Cx, (assignEach es X.env).findIdx? (·.1) = none := by intro _; rfl) : GD Y (.Tuple es k pos) ts (gdTup n gs) := by
  obtain ⟨_, p, q⟩ := h
  refine ⟨_, fun X h => h.K ▸ pg_tup h.calm (p X h) (hn X) (hst X), fun F H A O σ E E' v d e w r s Q h => ?_⟩
  unfold gdTup at e
  split at e
  · split at e
    · rename_i ds hl
      obtain ⟨a, vs, ev, e1, e2, z, rl⟩ := r.tup_inv w.le
      exact ⟨a, vs, ev, e2, by rw [rl.length]; exact hl, q F H A O σ E E' vs ds e w rl s Q h⟩
    · cases e
  · cases e
end

/-! ### assignments -/
def sAsg (lk : Lks) (ts : List Nat) (f : Ev → Option (D × Ev)) (g : D → Ev → Option Ev) : Ev → Option Out := fun E => if ts.all (fun i => !lk i) = true then (match f E with | some (d, E1) => (match g d E1 with | some E2 => some (.nx E2) | none => none) | none => none) else none
theorem all_lk {lk : Lks} {ts : List Nat} (h : ts.all (fun i => !lk i) = true) : ∀ i ∈ ts, lk i = false := fun i m => by
  have := List.all_eq_true.mp h i m
  simpa using this
section
variable {Y : Fm} {pos : Pos} {lk : Lks}
theorem ds_asg {K : PySem.W.Frag} {mg : Md} {te : TE} {tg : TG} {ts : List Nat} {f g} (q : De K mg te f) (q' : Dg K mg tg ts g) : Ds K mg (tAsg te tg) lk (sAsg lk ts f g) := by
  intro F H O σ E o e w s N h
  unfold sAsg at e
  split at e
  · rename_i hl
    split at e
    · rename_i d E1 ed
      split at e
      · rename_i E2 eg
        cases e
        refine q F H O σ E d E1 ed w s _ fun v F' H' A O' x w' r s' => q' F' H' A O' σ E1 E2 v d eg w' r s' _ fun σ2 F2 H2 O2 c x2 w2 s2 => ?_
        exact h σ2 F2 H2 O2 (c.lk (all_lk hl)) (x.trans x2) w2 s2
      · cases e
    · cases e
  · cases e
theorem sd_asg {tg e : Expr} {ts : List Nat} {f g} (he : PD Y e f) (hg : GD Y tg ts g) (hs : ∀ X, Y.Is X → swapsWithSole [tg] e pos.line X.env = pure false := by intro _ _; rfl) (hw : ∀ X, Y.Is X → swappedStores [tg] e X.env = pure none := by intro _ _; rfl)
    (h1 : ∀ X : Cx, (assignEach [tg] X.env).map (·.2) = [assign tg X.env] := by intro _; rfl) : SD Y (.Assign [tg] e pos) lk (sAsg lk ts f g) := by
  obtain ⟨_, p, q⟩ := he
  obtain ⟨_, p', q'⟩ := hg
  exact ⟨_, fun X h => ps_asg (p X h) (p' X h) (hs X h) (hw X h) (h1 X), ds_asg q q'⟩
theorem sd_set {i : Nat} {x : Str} {e : Expr} {pos' : Pos} {f} (hN : Y.N.Nodup) (hi : Y.N[i]? = some x) (hx : Loc Y.sc x) (he : PD Y e f) (hs : ∀ X, Y.Is X → swapsWith e (some (.Name x pos')) pos.line X.env = pure false := by intro _ _; rfl)
    (hf : Y.fn x = true ∨ Y.sc.names.lookup x = some .local := by first | exact .inl rfl | exact .inr rfl | assumption) : SD Y (.Assign [.Name x pos'] e pos) lk (sAsg lk [i] f (gdName i)) := by
  obtain ⟨_, p, q⟩ := he
  obtain ⟨_, p', q'⟩ := gd_name (Y := Y) (pos := pos') hN hi hx hf
  refine ⟨_, fun X h => ps_set (h.nd hN) (h.nm hi) (h.loc hx) (p X h) (hs X h) (h.st hf), ds_asg q ?_⟩
  intro F H A O σ E E' v d e w r s Q h
  cases e
  obtain ⟨O', s', w', m⟩ := s.assign (i := i) w r
  exact h _ F H O' Tch.set (Ext.refl.sub (fun b h => h) fun b h => .inr (m b h)) w' s'
/-- a, b = x, y (plain local names) -/
def sPar (lk : Lks) (i j : Nat) (f : Ev → Option (List D × Ev)) : Ev → Option Out := fun E => if (!lk i && !lk j) = true then (match f E with | some ([d1, d2], E1) => some (.nx ((E1.set i (some d1)).set j (some d2))) | _ => none) else none
theorem sd_par {i j : Nat} {x y : Str} {a b : Expr} {px py pt : Pos} {kt k2 pt2} {f} (hN : Y.N.Nodup) (hi : Y.N[i]? = some x) (hj : Y.N[j]? = some y) (hij : i ≠ j)
    (hx : Y.sc.names.lookup x = some .local) (hy : Y.sc.names.lookup y = some .local) (ha : PDa Y [a, b] f)
    (hw : ∀ X, Y.Is X → swappedStores [.Tuple [.Name x px, .Name y py] kt pt] (.Tuple [a, b] k2 pt2) X.env = pure (some [x, y]))
    (hs : ∀ X, Y.Is X → swapsWithSole [.Tuple [.Name x px, .Name y py] kt pt] (.Tuple [a, b] k2 pt2) pos.line X.env = pure false := by intro _ _; rfl) :
    SD Y (.Assign [.Tuple [.Name x px, .Name y py] kt pt] (.Tuple [a, b] k2 pt2) pos) lk (sPar lk i j f) := by
  obtain ⟨_, p, q⟩ := ha
  refine ⟨_, fun X h => ps_par h.calm (h.nd hN) (h.nm hi) (h.nm hj) hij (by rw [h.sc]; exact hx) (by rw [h.sc]; exact hy) (p X h) (hw X h) (hs X h), fun F H O σ E o e w s N h => ?_⟩
  unfold sPar at e
  split at e
  · rename_i hl
    simp only [Bool.and_eq_true, Bool.not_eq_true'] at hl
    split at e
    · rename_i d1 d2 E1 ed
      cases e
      refine q F H O σ E _ E1 ed w s _ fun vs F' H' A O' x w' r s' => ?_
      cases r with
      | @cons v1 vs1 _ _ A1 A2 r1 r2 =>
        obtain ⟨v2, e2, r3⟩ := r2.one_inv
        subst e2
        refine ⟨v1, v2, rfl, ?_⟩
        have pm : ((A1 ++ A2) ++ O').Perm (A2 ++ (A1 ++ O')) := by
          rw [← List.append_assoc A2 A1 O']
          exact List.Perm.append_right O' List.perm_append_comm
        have w2 := w'.perm pm
        obtain ⟨O1, s1, w1, m1⟩ := s'.assign (i := i) w2.right r1
        have w3 : Own F' H' (A2 ++ O1) := w2.frame (Ext.refl.sub (fun b h => h) fun b h => .inr (m1 b h)) w1
        obtain ⟨O2, s2, w4, m2⟩ := s1.assign (i := j) w3 r3
        refine h _ F' H' O2 ⟨by rw [List.length_set, List.length_set], fun k hk => ?_⟩ (x.sub (fun _ m => m) fun b m => ?_) w4 s2
        · have n1 : i ≠ k := fun z => by rw [z, hk] at hl; cases hl.1
          have n2 : j ≠ k := fun z => by rw [z, hk] at hl; cases hl.2
          rw [List.getElem?_set_ne n2, List.getElem?_set_ne n1]
        · refine .inl ?_
          rcases List.mem_append.mp (m2 b m) with m | m
          · exact List.mem_append_left _ (List.mem_append_right _ m)
          · rcases List.mem_append.mp (m1 b m) with m | m
            · exact List.mem_append_left _ (List.mem_append_left _ m)
            · exact List.mem_append_right _ m
    · cases e
  · cases e
end
end Dm

namespace Dm
open PySem PySem.Spec L2
open PyProof.Rows hiding St
/-! ### a slot's object changed -/
section
variable {K : PySem.W.Frag} {mg : Md} {F H F' H' : Hp} {O O' A B C : List Addr} {σ : L2.St} {E : Ev} {i : Nat} {d : D} {v : V} {vs : List V} {ds : List D}
/-- a slot's object is changed, by what B owns besides; C is what comes of it -/
theorem RpS.changeB (w : Own F H (B ++ O)) (h : RpS K mg F H σ E O) (e : E[i]? = some (some d)) : ∃ v A, σ[i]? = some (some v) ∧ Rp K mg F H v d A ∧ Own F H (A ++ B) ∧
    ∀ (F' H' : Hp) (d' : D) (A' C : List Addr), Ext F H (A ++ B) F' H' (A' ++ C) → Own F' H' (A' ++ C) → Rp K mg F' H' v d' A' →
      ∃ O', RpS K mg F' H' σ (E.set i (some d')) O' ∧ Own F' H' (C ++ O') ∧ Ext F H (B ++ O) F' H' (C ++ O') := by
  obtain ⟨v, O1, A, O2, eq, es, r, go⟩ := h.focus e
  subst eq
  have p : (B ++ (O1 ++ (A ++ O2))).Perm ((O1 ++ O2) ++ (A ++ B)) := by
    have p1 : (O1 ++ (A ++ O2)).Perm ((O1 ++ O2) ++ A) := by
      refine (List.Perm.append_left O1 List.perm_append_comm).trans ?_
      rw [List.append_assoc]
    refine (List.Perm.append_left B p1).trans ?_
    refine List.perm_append_comm.trans ?_
    rw [List.append_assoc]
  have w1 := w.perm p
  refine ⟨v, A, es, r, w1.right, fun F' H' d' A' C x w' r' => ?_⟩
  have q := go F' H' v d' A' (fun k m => k.ext x fun b hb => w1.apart b (m b hb)) r'
  rw [set_same es] at q
  have p' : ((O1 ++ O2) ++ (A' ++ C)).Perm (C ++ (O1 ++ (A' ++ O2))) := by
    have p1 : (O1 ++ (A' ++ O2)).Perm ((O1 ++ O2) ++ A') := by
      refine (List.Perm.append_left O1 List.perm_append_comm).trans ?_
      rw [List.append_assoc]
    refine List.Perm.trans ?_ (List.Perm.append_left C p1.symm)
    refine List.Perm.trans ?_ List.perm_append_comm
    rw [List.append_assoc (O1 ++ O2) A' C]
  exact ⟨_, q, (w1.frame x w').perm p', (x.frame w1).perm p.symm p'⟩
theorem RpL.set : ∀ {ds : List D} {vs : List V} {A : List Addr} {j : Nat} {v : V} {d : D}, RpL K mg F H vs ds A → Rp K mg F H v d B → j < ds.length → (∀ a ∈ A, a ∉ B) → A.Nodup → B.Nodup →
    ∃ A', RpL K mg F H (vs.set j v) (ds.set j d) A' ∧ A'.Nodup ∧ ∀ a ∈ A', a ∈ A ∨ a ∈ B
  | [], _, _, _, _, _, _, _, h, _, _, _ => by simp at h
  | d0 :: ds, _, _, 0, v, d, .cons (O1 := P1) (O2 := P2) h1 h2, r, _, n, nA, nB => by
    have nd := List.nodup_append.mp nA
    refine ⟨B ++ P2, .cons r h2, List.nodup_append.mpr ⟨nB, nd.2.1, fun a x b y e => n b (List.mem_append_right _ y) (e ▸ x)⟩, fun a m => ?_⟩
    rcases List.mem_append.mp m with m | m
    · exact .inr m
    · exact .inl (List.mem_append_right _ m)
  | d0 :: ds, _, _, j + 1, v, d, .cons (O1 := P1) (O2 := P2) h1 h2, r, h, n, nA, nB => by
    have nd := List.nodup_append.mp nA
    obtain ⟨A', k, nd', m'⟩ := RpL.set (j := j) h2 r (by simpa using h) (fun a m => n a (List.mem_append_right _ m)) nd.2.1 nB
    refine ⟨P1 ++ A', .cons h1 k, List.nodup_append.mpr ⟨nd.1, nd', fun a x b y e => ?_⟩, fun a m => ?_⟩
    · subst e
      rcases m' a y with z | z
      · exact nd.2.2 a x a z rfl
      · exact n a (List.mem_append_left _ x) z
    · rcases List.mem_append.mp m with m | m
      · exact .inl (List.mem_append_left _ m)
      · rcases m' a m with z | z
        · exact .inl (List.mem_append_right _ z)
        · exact .inr z
/-- the list at a is written -/
theorem wr_ext {a : Addr} {vs us : List V} {As Bs Cs : List Addr} (w : Own F H ((a :: As) ++ Bs)) (e : H a = some (.lst vs)) (hs : ∀ b ∈ Cs, b ∈ (a :: As) ++ Bs) : Ext F H ((a :: As) ++ Bs) F (upd H a (.lst us)) Cs where
  fle := fun _ _ e => e
  hle := fun b o e n => by
    rw [upd_ne (fun z => n (by rw [z]; exact List.mem_append_left _ List.mem_cons_self))]; exact e
  dom := fun b e => by
    by_cases hb : b = a
    · subst hb; rw [upd_same]; simp
    · rw [upd_ne hb]; exact e
  fdom := fun _ e => .inl e
  odom := fun b m => .inl (hs b m)
theorem wr_own {a : Addr} {vs us : List V} {As Bs Cs : List Addr} (w : Own F H ((a :: As) ++ Bs)) (e : H a = some (.lst vs)) (nd : Cs.Nodup) (hs : ∀ b ∈ Cs, b ∈ (a :: As) ++ Bs) : Own F (upd H a (.lst us)) Cs where
  le := fun b o e => by
    have n : b ≠ a := fun z => by
      rw [z, w.out a (List.mem_append_left _ List.mem_cons_self)] at e
      cases e
    rw [upd_ne n]
    exact w.le b o e
  nd := nd
  out := fun b m => w.out b (hs b m)
  alive := fun b m => by
    by_cases hb : b = a
    · subst hb; rw [upd_same]; simp
    · rw [upd_ne hb]; exact w.alive b (hs b m)
/-- what does not rest on the list that is written -/
theorem wr_rpl {a : Addr} {vs us : List V} (n : a ∉ A) (hF : F a = none) (r : RpL K mg F H ws ds A) (e : H a = some (.lst vs)) : RpL K mg F (upd H a (.lst us)) ws ds A := by
  have x : Ext F H [a] F (upd H a (.lst us)) [a] := ⟨fun _ _ e => e, fun b o e n => by rw [upd_ne (fun z => n (by simp [z]))]; exact e, fun b e => by
    by_cases hb : b = a
    · subst hb; rw [upd_same]; simp
    · rw [upd_ne hb]; exact e, fun _ e => .inl e, fun _ m => .inl m⟩
  exact r.ext x fun b m q => by
    simp at q
    subst q
    exact n m
theorem wr_rp {a : Addr} {vs us : List V} (n : a ∉ A) (hF : F a = none) (r : Rp K mg F H v d A) (e : H a = some (.lst vs)) : Rp K mg F (upd H a (.lst us)) v d A := by
  have x : Ext F H [a] F (upd H a (.lst us)) [a] := ⟨fun _ _ e => e, fun b o e n => by rw [upd_ne (fun z => n (by simp [z]))]; exact e, fun b e => by
    by_cases hb : b = a
    · subst hb; rw [upd_same]; simp
    · rw [upd_ne hb]; exact e, fun _ e => .inl e, fun _ m => .inl m⟩
  exact r.ext x fun b m q => by
    simp at q
    subst q
    exact n m
end
/-! ### methods of an owned list that stands in a slot -/
section
variable (K : PySem.W.Frag) (mg : Md)
/-- r: the method by values; op: the items and the arguments to the answer and the items behind it -/
def RMok (r : V → List V → Hp → VK → Prop) (op : List D → List D → Option (D × List D)) : Prop := ∀ (F H : Hp) (a : Addr) (us : List V) (xs : List D) (vs : List V) (ds : List D) (d : D) (xs' : List D) (As Bs : List Addr),
  op xs ds = some (d, xs') → Own F H ((a :: As) ++ Bs) → H a = some (.lst us) → us.length ≤ sizeLine → RpL K mg F H us xs As → RpL K mg F H vs ds Bs →
    ∀ Q : VK, (∀ v us' As' C, us'.length ≤ sizeLine → (As' ++ C).Nodup → (∀ b ∈ As' ++ C, b ∈ As ∨ b ∈ Bs) → RpL K mg F H us' xs' As' → Rp K mg F H v d C → Q v (upd H a (.lst us'))) → r (.ref a) vs H Q
end
def eMt (i : Nat) (op : List D → List D → Option (D × List D)) (g : Ev → Option (List D × Ev)) : Ev → Option (D × Ev) := fun E => match E[i]? with
  | some (some (.lst true _)) => (match g E with
    | some (ds, E1) => (match E1[i]? with
      | some (some (.lst true xs)) => (match op xs ds with | some (d, xs') => some (d, E1.set i (some (.lst true xs'))) | none => none)
      | _ => none)
    | none => none)
  | _ => none
theorem Rp.lstO_inv {K : PySem.W.Frag} {mg : Md} {F H : Hp} {v : V} {ds : List D} {A : List Addr} (r : Rp K mg F H v (.lst true ds) A) : ∃ a vs As, v = .ref a ∧ A = a :: As ∧ H a = some (.lst vs) ∧ vs.length ≤ sizeLine ∧ RpL K mg F H vs ds As := by
  cases r with
  | lstO e _ z h => exact ⟨_, _, _, rfl, rfl, e, z, h⟩
section
variable {Y : Fm} {pos : Pos} {K : PySem.W.Frag} {mg : Md}
theorem de_mt {i : Nat} {t : TA} {g} {r : V → List V → Hp → VK → Prop} {op} (hr : RMok K mg r op) (q : Da K mg t g) : De K mg (tBM K "list" r (tVar i) t) (eMt i op g) := by
  intro F H O σ E d E' e w s Q hQ
  unfold eMt at e
  split at e
  · rename_i xs0 e0
    split at e
    · rename_i ds E1 eg
      split at e
      · rename_i xs e1
        split at e
        · rename_i d' xs' eo
          cases e
          obtain ⟨v0, A0, es0, r0⟩ := s.get w e0
          obtain ⟨a0, us0, As0, ev0, _, h0, _, _⟩ := r0.lstO_inv
          refine ⟨v0, es0, by rw [ev0]; exact .inl ⟨rfl, _, SqL.of h0⟩, q F H O σ E ds _ eg w s _ fun vs F1 H1 B O1 x1 w1 r1 s1 => ?_⟩
          obtain ⟨v1, A1, es1, rv, wA, go⟩ := s1.changeB w1 e1
          have ev : v0 = v1 := by
            rw [es0] at es1
            exact Option.some.inj (Option.some.inj es1)
          subst ev
          obtain ⟨a, us, As, eva, eA, h1, z1, rl⟩ := rv.lstO_inv
          subst eA
          rw [eva]
          have hF := wA.out a (List.mem_append_left _ List.mem_cons_self)
          have ndA := List.nodup_append.mp wA.nd
          refine hr F1 H1 a us xs vs ds d xs' As B eo wA h1 z1 rl r1 Q fun u us' As' C z2 nd hs rl' ru => ?_
          have nA : a ∉ As' ++ C := fun m => by
            rcases hs a m with m | m
            · exact (List.nodup_cons.mp ndA.1).1 m
            · exact ndA.2.2 a List.mem_cons_self a m rfl
          have hs' : ∀ b ∈ (a :: As') ++ C, b ∈ (a :: As) ++ B := fun b m => by
            rw [List.cons_append] at m
            rcases List.mem_cons.mp m with z | m
            · rw [z]; exact List.mem_append_left _ List.mem_cons_self
            · rcases hs b m with m | m
              · exact List.mem_append_left _ (List.mem_cons_of_mem _ m)
              · exact List.mem_append_right _ m
          have nd' : ((a :: As') ++ C).Nodup := by rw [List.cons_append]; exact List.nodup_cons.mpr ⟨nA, nd⟩
          have xw := wr_ext (us := us') wA h1 hs'
          have ww := wr_own (us := us') wA h1 nd' hs'
          have rn := wr_rpl (us := us') (fun m => nA (List.mem_append_left _ m)) hF rl' h1
          have ru' := wr_rp (us := us') (fun m => nA (List.mem_append_right _ m)) hF ru h1
          obtain ⟨O', s', w', x'⟩ := go F1 _ (.lst true xs') (a :: As') C xw ww (by rw [eva]; exact .lstO upd_same hF z2 rn)
          exact hQ u F1 _ C O' (x1.trans x') w' ru' s'
        · cases e
      · cases e
    · cases e
  · cases e
theorem pd_bm {i : Nat} {c : Expr} {es : List Expr} {g} {r : V → List V → Hp → VK → Prop} {op} (hr : RMok Y.K Y.mg r op) (ha : PDa Y es g) (mk : ∀ t X, Y.Is X → PA X es t → PE X c (tBM Y.K "list" r (tVar i) t)) : PD Y c (eMt i op g) := by
  obtain ⟨t, p, q⟩ := ha
  exact ⟨_, fun X h => mk t X h (p X h), de_mt hr q⟩
/-! append, extend, insert, pop -/
def mAppend : List D → List D → Option (D × List D) := fun xs ds => match ds with | [y] => (if xs.length < sizeLine then some (.non, xs ++ [y]) else none) | _ => none
theorem ok_append : RMok K mg rAppend mAppend := by
  intro F H a us xs vs ds d xs' As Bs e w h z r rd Q hQ
  unfold mAppend at e
  split at e
  · split at e
    · cases e
      rename_i hl
      obtain ⟨v, ev, rv⟩ := rd.one_inv
      subst ev
      have l1 := r.length
      refine ⟨a, us, v, rfl, rfl, h, by omega, hQ .non (us ++ [v]) (As ++ Bs) [] (by rw [List.length_append]; simp; omega) ?_ (fun b m => ?_) ?_ .non⟩
      · rw [List.append_nil]
        have q := w.nd
        rw [List.cons_append] at q
        exact (List.nodup_cons.mp q).2
      · rw [List.append_nil] at m
        exact List.mem_append.mp m
      · have q : RpL K mg F H [v] [_] (Bs ++ []) := .cons rv .nil
        rw [List.append_nil] at q
        exact r.append q
    · cases e
  · cases e
def mExtend : List D → List D → Option (D × List D) := fun xs ds => match ds with | [.lst _ ys] => (if xs.length + ys.length ≤ sizeLine ∧ isFzL ys = true then some (.non, xs ++ ys) else none) | _ => none
theorem ok_extend : RMok K mg rExtend mExtend := by
  intro F H a us xs vs ds d xs' As Bs e w h z r rd Q hQ
  unfold mExtend at e
  split at e
  · split at e
    · cases e
      rename_i hl
      obtain ⟨v, ev, rv⟩ := rd.one_inv
      obtain ⟨b, ws, _, eb, h2, z2, r2, _⟩ := rv.lst_inv w.le
      subst ev
      have l1 := r.length
      have l2 := r2.length
      have hn := r2.nilOf hl.2
      refine ⟨a, b, us, ws, rfl, by rw [eb], h, h2, by omega, hQ .non (us ++ ws) As [] (by rw [List.length_append]; omega) ?_ (fun b m => ?_) ?_ .non⟩
      · rw [List.append_nil]
        exact (List.nodup_cons.mp (List.nodup_append.mp w.nd).1).2
      · rw [List.append_nil] at m
        exact .inl m
      · have q := r.append hn
        rw [List.append_nil] at q
        exact q
    · cases e
  · cases e
def mPopAt : List D → List D → Option (D × List D) := fun xs ds => match ds with
  | [.int i] => if -(2 ^ 63) ≤ i ∧ i < 2 ^ 63 then (match seqIndex? i xs.length with
    | some k => (match xs[k]? with | some d => (if isFzL xs = true then some (d, xs.eraseIdx k) else none) | none => none)
    | none => none) else none
  | _ => none
theorem RpL.eraseIdx {F H : Hp} : ∀ (k : Nat) {ds : List D} {vs : List V}, RpL K mg F H vs ds [] → RpL K mg F H (vs.eraseIdx k) (ds.eraseIdx k) []
  | _, [], [], h => h
  | 0, d :: ds, v :: vs, h => h.split.2
  | k + 1, d :: ds, v :: vs, h => .cons_nil h.split.1 (RpL.eraseIdx k h.split.2)
  | _, [], _ :: _, h => by have := h.length; simp at this
  | _, _ :: _, [], h => by have := h.length; simp at this
theorem ok_popAt : RMok K mg rPopAt mPopAt := by
  intro F H a us xs vs ds d xs' As Bs e w h z r rd Q hQ
  unfold mPopAt at e
  split at e
  · rename_i i
    split at e
    · rename_i hi
      split at e
      · rename_i k ek
        split at e
        · rename_i d' ed
          split at e
          · rename_i hz
            cases e
            obtain ⟨v, ev, rv⟩ := rd.one_inv
            subst ev
            have hn := r.nilOf hz
            obtain ⟨u, B, eu, ru, mB⟩ := hn.get ed
            have eB : B = [] := List.eq_nil_iff_forall_not_mem.mpr fun b m => by have := mB b m; cases this
            subst eB
            have l1 := r.length
            refine ⟨a, us, i, k, u, rfl, by rw [rv.int_inv], h, hi.1, hi.2, by rw [l1]; exact ek, eu, hQ u (us.eraseIdx k) [] [] ?_ (by simp) (fun b m => by cases m) (hn.eraseIdx k) ru⟩
            exact Nat.le_trans (len_erase us k) z
          · cases e
        · cases e
      · cases e
    · cases e
  · cases e
theorem RpL.rev {F H : Hp} {vs : List V} {ds : List D} (r : RpL K mg F H vs ds []) : RpL K mg F H vs.reverse ds.reverse [] := by
  have go : ∀ {ds : List D} {vs : List V}, RpL K mg F H vs ds [] → ∀ {es : List D} {ws : List V}, RpL K mg F H ws es [] → RpL K mg F H (vs.reverseAux ws) (ds.reverseAux es) [] := by
    intro ds
    induction ds with
    | nil =>
      intro vs h es ws k
      cases vs with
      | nil => exact k
      | cons v vs => have := h.length; simp at this
    | cons d ds ih =>
      intro vs h es ws k
      cases vs with
      | nil => have := h.length; simp at this
      | cons v vs => exact ih h.split.2 (.cons_nil h.split.1 k)
  exact go r .nil
def mPop : List D → List D → Option (D × List D) := fun xs ds => match ds with
  | [] => (match xs[xs.length - 1]? with | some d => (if isFzL xs = true then some (d, xs.dropLast) else none) | none => none)
  | _ => none
theorem RpL.dropLast {F H : Hp} {ds : List D} {vs : List V} (r : RpL K mg F H vs ds []) : RpL K mg F H vs.dropLast ds.dropLast [] := by
  rw [List.dropLast_eq_take, List.dropLast_eq_take, r.length]
  exact r.take _
theorem ok_pop : RMok K mg rPop mPop := by
  intro F H a us xs vs ds d xs' As Bs e w h z r rd Q hQ
  unfold mPop at e
  split at e
  · split at e
    · rename_i d' ed
      split at e
      · rename_i hz
        cases e
        cases rd
        have hn := r.nilOf hz
        obtain ⟨u, B, eu, ru, mB⟩ := hn.get ed
        have eB : B = [] := List.eq_nil_iff_forall_not_mem.mpr fun b m => by have := mB b m; cases this
        subst eB
        have l1 := r.length
        refine ⟨a, us, u, rfl, rfl, h, by rw [l1]; exact eu, hQ u us.dropLast [] [] ?_ (by simp) (fun b m => by cases m) hn.dropLast ru⟩
        rw [List.length_dropLast]; omega
      · cases e
    · cases e
  · cases e
def mReverse : List D → List D → Option (D × List D) := fun xs ds => match ds with | [] => (if isFzL xs = true then some (.non, xs.reverse) else none) | _ => none
theorem ok_reverse : RMok K mg rReverse mReverse := by
  intro F H a us xs vs ds d xs' As Bs e w h z r rd Q hQ
  unfold mReverse at e
  split at e
  · split at e
    · rename_i hz
      cases e
      cases rd
      exact ⟨a, us, rfl, rfl, h, hQ .non us.reverse [] [] (by rw [List.length_reverse]; exact z) (by simp) (fun b m => by cases m) (r.nilOf hz).rev .non⟩
    · cases e
  · cases e
end
end Dm

namespace Dm
open PySem PySem.Spec L2
open PyProof.Rows hiding St
/-! ### x op= e -/
def sAug (lk : Lks) (i : Nat) (op : D → D → Option D) (f : Ev → Option (D × Ev)) : Ev → Option Out := fun E => if (!lk i) = true then (match E[i]? with
  | some (some d0) => (if isFz d0 = true then (match f E with | some (d1, E1) => (match op d0 d1 with | some d => some (.nx (E1.set i (some d))) | none => none) | none => none) else none)
  | _ => none) else none
section
variable {Y : Fm} {pos : Pos} {lk : Lks} {K : PySem.W.Frag} {mg : Md}
theorem sd_aug {i : Nat} {x : Str} {e : Expr} {op : Operator} {r : R2} {f} {fo : D → D → Option D} {pos' : Pos} (ho : OpY Y (inplaceOp op) r) (hr : R2ok Y.K Y.mg r fo) (hN : Y.N.Nodup) (hi : Y.N[i]? = some x) (hx : Loc Y.sc x) (he : PD Y e f)
    (hf : Y.fn x = true ∨ Y.sc.names.lookup x = some .local := by first | exact .inl rfl | exact .inr rfl | assumption) : SD Y (.AugAssign (.Name x pos') op e pos) lk (sAug lk i fo f) := by
  obtain ⟨_, p, q⟩ := he
  refine ⟨_, fun X h => ps_aug (h.nd hN) (h.nm hi) (h.loc hx) (p X h) (ti := r) (fun pins s σ H x y v u Q I rx ry k => ho X h pins s σ H x y v u Q I rx ry k) (h.st hf), fun F H O σ E o e w s N h => ?_⟩
  unfold sAug at e
  split at e
  · rename_i hl
    split at e
    · rename_i d0 e0
      split at e
      · rename_i z0
        split at e
        · rename_i d1 E1 e1
          split at e
          · rename_i d eo
            cases e
            obtain ⟨v0, A0, es0, r0⟩ := s.get w e0
            have zA := r0.fz z0
            subst zA
            refine ⟨v0, es0, q F H O σ E d1 E1 e1 w s _ fun v F1 H1 A O1 x1 w1 r1 s1 => ?_⟩
            refine hr F1 H1 v0 v d0 d1 d [] A eo w1.le (r0.ext x1 fun b m => by cases m) r1 _ fun u F2 H2 C x2 nd hf r2 => ?_
            have wO := w1.right
            have w2 := wO.fresh x2 nd hf r2.alive
            obtain ⟨O', s3, w3, m3⟩ := (x2.rps s1).assign (i := i) w2 r2
            refine h _ F2 H2 O' ⟨List.length_set, fun k hk => ?_⟩ ?_ w3 s3
            · have n1 : i ≠ k := fun z => by
                subst z
                rw [hk] at hl
                cases hl
              rw [List.getElem?_set_ne n1]
            · refine (x1.sub (fun _ m => m) fun b m => .inl (List.mem_append_right A m)).trans ?_
              exact (Ext.fresh (O := O1) x2 hf).sub (fun _ m => m) fun b m => .inl (m3 b m)
          · cases e
        · cases e
      · cases e
    · cases e
  · cases e
abbrev rIAddX : R2 := fun x y H Q => (rI0 fun i j => V.int (i + j)) x y H Q ∨ ∃ i j : Str, x = .str i ∧ y = .str j ∧ i.length + j.length ≤ sizeLine ∧ Q (.str (i ++ j)) H
theorem op_iaddX {X : Cx} : OpR X (inplaceOp .Add) rIAddX := iop_add.or iop_add_str
def opIAdd : D → D → Option D
  | .int i, .int j => some (.int (i + j))
  | .str x, .str y => if x.length + y.length ≤ sizeLine then some (.str (x ++ y)) else none
  | _, _ => none
theorem ok_iadd : R2ok K mg rIAddX opIAdd := by
  intro F H x y dx dy d A B e f rx ry Q hQ
  cases dx <;> cases dy <;> simp only [opIAdd] at e <;> try (cases e; done)
  · cases e
    exact .inl ⟨_, _, rx.int_inv, ry.int_inv, give f (.int _) hQ⟩
  · split at e
    · cases e
      rename_i z
      exact .inr ⟨_, _, rx.str_inv, ry.str_inv, z, give f (.str _) hQ⟩
    · cases e
/-! ### x[i] = e, x[i] op= e -/
def setAt (xs : List D) (k d : D) : Option (List D) := match k with | .int k => (match ixN xs.length k with | some j => some (xs.set j d) | none => none) | _ => none
def gdSub (i : Nat) (fi : Ev → Option D) : D → Ev → Option Ev := fun d E => match E[i]? with
  | some (some (.lst true xs)) => (match fi E with | some k => (match setAt xs k d with | some ys => some (E.set i (some (.lst true ys))) | none => none) | none => none)
  | _ => none
theorem setAt_some {xs ys : List D} {k d : D} (e : setAt xs k d = some ys) : ∃ n j, k = .int n ∧ ixN xs.length n = some j ∧ ys = xs.set j d := by
  unfold setAt at e
  split at e
  · split at e
    · rename_i j ej
      cases e
      exact ⟨_, j, rfl, ej, rfl⟩
    · cases e
  · cases e
/-- the write itself -/
theorem set_core {F H : Hp} {B O : List Addr} {σ : L2.St} {E : Ev} {i : Nat} {xs : List D} {n : Int} {j : Nat} {d : D} {v : V} (w : Own F H (B ++ O)) (s : RpS K mg F H σ E O) (e : E[i]? = some (some (.lst true xs))) (ej : ixN xs.length n = some j) (r : Rp K mg F H v d B)
    {o : V} (eo : σ[i]? = some (some o)) {Q : Hp → Prop} (h : ∀ H' O', Ext F H (B ++ O) F H' O' → Own F H' O' → RpS K mg F H' σ (E.set i (some (.lst true (xs.set j d)))) O' → Q H') : rSetL o (.int n) v H Q := by
  obtain ⟨v1, A1, es1, rv, wA, go⟩ := s.changeB w e
  have ev : o = v1 := by
    rw [eo] at es1
    exact Option.some.inj (Option.some.inj es1)
  subst ev
  obtain ⟨a, us, As, eva, eA, h1, z1, rl⟩ := rv.lstO_inv
  subst eA
  have hF := wA.out a (List.mem_append_left _ List.mem_cons_self)
  have ndA := List.nodup_append.mp wA.nd
  have ndc := List.nodup_cons.mp ndA.1
  have hj := ixN_some ej
  obtain ⟨As', rl', nd', m'⟩ := rl.set r hj (fun b m => fun q => ndA.2.2 b (List.mem_cons_of_mem _ m) b q rfl) ndc.2 ndA.2.1
  refine ⟨a, us, n, j, eva, rfl, h1, by rw [rl.length]; exact ej, ?_⟩
  have nA : a ∉ As' := fun m => by
    rcases m' a m with m | m
    · exact ndc.1 m
    · exact ndA.2.2 a List.mem_cons_self a m rfl
  have hs' : ∀ b ∈ (a :: As') ++ [], b ∈ (a :: As) ++ B := fun b m => by
    rw [List.append_nil] at m
    rcases List.mem_cons.mp m with z | m
    · rw [z]; exact List.mem_append_left _ List.mem_cons_self
    · rcases m' b m with m | m
      · exact List.mem_append_left _ (List.mem_cons_of_mem _ m)
      · exact List.mem_append_right _ m
  have nd2 : ((a :: As') ++ []).Nodup := by rw [List.append_nil]; exact List.nodup_cons.mpr ⟨nA, nd'⟩
  have xw := wr_ext (us := us.set j v) wA h1 hs'
  have ww := wr_own (us := us.set j v) wA h1 nd2 hs'
  obtain ⟨O', s', w', x'⟩ := go F _ (.lst true (xs.set j d)) (a :: As') [] xw ww (by rw [eva]; exact .lstO upd_same hF (by rw [List.length_set]; exact z1) (wr_rpl nA hF rl' h1))
  exact h _ O' x' w' s'
theorem gd_sub {i : Nat} {x : Str} {px : Pos} {ix : Expr} {fi} (hN : Y.N[i]? = some x) (hv : Vis Y.sc x) (hi : PQ Y ix fi)
    (ha : ∀ X : Cx, ∀ v, assign (.Subscript (.Name x px) ix pos) X.env v = (do
      let ov ← holding [v] (eval (.Name x px) X.env)
      let iv ← holding [v, ov] (eval ix X.env)
      standAt pos
      holding [v, ov, iv] (setItem ov iv v)
      release [v, ov, iv] []) := by intro _ _; rfl)
    (hd : (x == ("__debug__" : Str)) = false := by decide) (hcd : (x == ("__classdict__" : Str)) = false := by decide) : GD Y (.Subscript (.Name x px) ix pos) [] (gdSub i fi) := by
  obtain ⟨_, p, q⟩ := hi
  refine ⟨_, fun X h => pg_sub (pe_var (h.nm hN) (h.vis hv) hd hcd) (p X h) set_list (ha X), fun F H A O σ E E' v d e w r s Q h => ?_⟩
  unfold gdSub at e
  split at e
  · rename_i xs e0
    split at e
    · rename_i k ek
      split at e
      · rename_i ys ey
        cases e
        obtain ⟨n, j, en, ej, eys⟩ := setAt_some ey
        subst en eys
        obtain ⟨v0, A0, es0, _⟩ := s.get w.right e0
        refine ⟨v0, es0, q F H O σ E _ ek w.right s _ fun kv F1 H1 A1 x1 r1 => ?_⟩
        rw [r1.int_inv]
        refine set_core (x1.own w) (x1.rps s) e0 ej (x1.rp r) es0 fun H' O' x' w' s' => ?_
        exact h σ F1 H' O' Tch.refl (x1.extO.trans x') w' s'
      · cases e
    · cases e
  · cases e
def rGetL (K : PySem.W.Frag) : V → V → Hp → VK → Prop := rIxL K
theorem get_list {X : Cx} : PGet X (rGetL X.K) := by
  intro pins s σ H o i ov iv Q I ro ri h
  obtain ⟨p, xs, k, z, rfl, rfl, hq, he, q⟩ := h
  cases ro
  obtain ⟨t, rfl⟩ := ri
  obtain ⟨its, r, pl, hz⟩ := I.list hq
  obtain ⟨j, h1, h2, h3, h4, h5⟩ := atI_get he
  obtain ⟨w, ew, rw'⟩ := r.get h2
  have hl := r.length
  have hn := line63
  have fin : EP X pins σ Q w s := ⟨z, H, I, rw', q⟩
  by_cases h0 : 0 ≤ k
  · have hj : k.toNat = j := by
      rw [seqIndex_of h0 h5] at h1
      exact Option.some.inj h1
    exact wpAny_getItem_list pl.isList h0 (by omega) (by rw [hj]; simpa using ew) fin
  · have hj : (k + (its.toArray.size : Int)).toNat = j := by
      rw [seqIndex_neg (by omega) h4] at h1
      rw [List.size_toArray, ← hl]
      exact Option.some.inj h1
    exact wpAny_getItem_list_neg pl.isList (by omega) (by rw [List.size_toArray] <;> omega) (by omega) (by rw [hj]; simpa using ew) fin
/-- slot[k] op= e, k and e quiet -/
def sAugIx (i : Nat) (op : D → D → Option D) (fi fe : Ev → Option D) : Ev → Option Out := fun E => match E[i]? with
  | some (some (.lst true xs)) => (match fi E with
    | some k => (match opIxF (.lst true xs) k with
      | some old => (match fe E with
        | some y => (match op old y with | some d => (if isFz d = true then (match setAt xs k d with | some ys => some (.nx (E.set i (some (.lst true ys)))) | none => none) else none) | none => none)
        | none => none)
      | none => none)
    | none => none)
  | _ => none
theorem sd_augIx {i : Nat} {x : Str} {px tpos : Pos} {ix e : Expr} {op : Operator} {r : R2} {fi fe} {fo : D → D → Option D} (ho : OpY Y (inplaceOp op) r) (hr : R2ok Y.K Y.mg r fo) (hN : Y.N[i]? = some x) (hv : Vis Y.sc x) (hi : PQ Y ix fi) (he : PQ Y e fe)
    (ha : ∀ ov iv new, augStore ix ov iv new = (do holding [new, ov, iv] (setItem ov iv new); release [new, ov, iv] []; pure .next) := by intros; rfl)
    (hd : (x == ("__debug__" : Str)) = false := by decide) (hcd : (x == ("__classdict__" : Str)) = false := by decide) : SD Y (.AugAssign (.Subscript (.Name x px) ix tpos) op e pos) lk (sAugIx i fo fi fe) := by
  obtain ⟨_, p, q⟩ := hi
  obtain ⟨_, p', q'⟩ := he
  refine ⟨_, fun X h => ps_augS (pe_var (h.nm hN) (h.vis hv) hd hcd) (p X h) (h.K ▸ get_list) (p' X h) (tip := r) (fun pins s σ H x y v u Q I rx ry k => ho X h pins s σ H x y v u Q I rx ry k) set_list ha, fun F H O σ E o e w s N h => ?_⟩
  unfold sAugIx at e
  split at e
  · rename_i xs e0
    split at e
    · rename_i k ek
      split at e
      · rename_i old eold
        split at e
        · rename_i y ey
          split at e
          · rename_i d ed
            split at e
            · rename_i hz
              split at e
              · rename_i ys eys
                cases e
                obtain ⟨n, j, en, ej, eys'⟩ := setAt_some eys
                subst en eys'
                obtain ⟨v0, A0, es0, r0⟩ := s.get w e0
                obtain ⟨a0, us0, As0, ev0, _, h0, z0, rl0⟩ := r0.lstO_inv
                refine ⟨v0, es0, q F H O σ E _ ek w s _ fun kv F1 H1 A1 x1 r1 => ?_⟩
                rw [r1.int_inv]
                obtain ⟨eo1, z1⟩ := fzOnly_some eold
                obtain ⟨ov, C, e3, r3, _⟩ := atI_rp (x1.rpl rl0) (show atI xs n = some old from eo1)
                have zC := r3.fz z1
                subst zC
                refine ⟨a0, us0, n, ov, ev0, rfl, SqL.of (x1.hle _ _ h0), e3, ?_⟩
                refine q' F1 H1 O σ E y ey (x1.own w) (x1.rps s) _ fun yv F2 H2 A2 x2 r2 => ?_
                refine hr F2 H2 ov yv old y d [] A2 ed x2.le (x2.rp r3) r2 _ fun u F3 H3 C3 x3 nd3 hf3 r4 => ?_
                have zC3 := r4.fz hz
                subst zC3
                have x := x1.trans (x2.trans x3)
                refine set_core (B := []) (x.own w) (x.rps s) e0 ej r4 es0 fun H' O' x' w' s' => ?_
                exact h σ F3 H' O' .refl (x.extO.trans x') w' s'
              · cases e
            · cases e
          · cases e
        · cases e
      · cases e
    · cases e
  · cases e
end
end Dm

namespace Dm
open PySem PySem.Spec L2
open PyProof.Rows hiding St
/-! ### what is walked -/
section
variable (K : PySem.W.Frag) (mg : Md)
structure ItOk (J : It) (F0 : Hp) (xs : List D) : Prop where
  go : ∀ (F H : Hp) (i : Nat) (x : D), (∀ a o, F0 a = some o → F a = some o) → (∀ a o, F a = some o → H a = some o) → xs[i]? = some x → J.go i H ∧ ∀ v H', J.yld i H v H' → ∃ F', Qx F H F' H' ∧ Rp K mg F' H' v x []
  stop : ∀ (F H : Hp) (i : Nat), (∀ a o, F0 a = some o → F a = some o) → (∀ a o, F a = some o → H a = some o) → xs.length = i → J.stop i H
def Di (wi : TI) (f : Ev → Option (List D × Ev)) : Prop := ∀ (F H : Hp) (O : List Addr) (σ : L2.St) (E : Ev) (xs : List D) (E' : Ev), f E = some (xs, E') → Own F H O → RpS K mg F H σ E O →
  ∀ R : It → Hp → Prop, (∀ J F' H' O', Ext F H O F' H' O' → Own F' H' O' → RpS K mg F' H' σ E' O' → ItOk K mg J F' xs → R J H') → wi σ H R
end
def ID (Y : Fm) (tg iter : Expr) (f : Ev → Option (List D × Ev)) : Prop := ∃ wi, (∀ X, Y.Is X → PI X tg iter wi) ∧ Di Y.K Y.mg wi f
def iSeq (f : Ev → Option (D × Ev)) : Ev → Option (List D × Ev) := fun E => match f E with
  | some (.lst _ xs, E1) => some (frozL xs, E1)
  | some (.scr xs, E1) => some (xs, E1)
  | some (.tup xs, E1) => if isFzL xs = true then some (xs, E1) else none
  | some (.str z, E1) => some (z.cps.toList.map fun c => .str ⟨#[c]⟩, E1)
  | _ => none
section
variable {K : PySem.W.Frag} {mg : Md} {F H F' H' : Hp} {O O' A B C : List Addr} {σ : L2.St} {E : Ev} {v : V} {d : D} {vs : List V} {ds : List D}
theorem pi_or {XX : Cx} {tg e : Expr} {w1 w2 : TI} (h1 : PI XX tg e w1) (h2 : PI XX tg e w2) : PI XX tg e (fun σ H R => w1 σ H R ∨ w2 σ H R) :=
  ⟨fun pins s σ H R I h => h.elim (h1.run pins s σ H R I) (h2.run pins s σ H R I)⟩
theorem itl_ok {a : Addr} {F0 : Hp} (e : SqL K F0 a vs) (r : RpL K mg F0 H vs ds []) : ItOk K mg (Itl K a) F0 ds where
  go := fun F H2 i x f g hx => by
    obtain ⟨u, B, hu, ru, mB⟩ := r.get hx
    have eB : B = [] := List.eq_nil_iff_forall_not_mem.mpr fun b m => by have := mB b m; cases this
    subst eB
    have es : SqL K H2 a vs := SqL.up (fun b o q => g b o (f b o q)) e
    refine ⟨⟨vs, u, es, hu⟩, fun v H' y => ?_⟩
    obtain ⟨y1, y2⟩ := y
    subst y1
    have := (y2 vs es).symm.trans hu
    cases this
    exact ⟨F, Qx.refl g, ru.up f⟩
  stop := fun F H2 i f g hi => ⟨vs, SqL.up (fun b o q => g b o (f b o q)) e, by rw [r.length]; exact Nat.le_of_eq hi⟩
theorem itt_ok {a : Addr} {F0 : Hp} (e : SqT K F0 a vs) (r : RpL K mg F0 H vs ds []) : ItOk K mg (Itt K a) F0 ds where
  go := fun F H2 i x f g hx => by
    obtain ⟨u, B, hu, ru, mB⟩ := r.get hx
    have eB : B = [] := List.eq_nil_iff_forall_not_mem.mpr fun b m => by have := mB b m; cases this
    subst eB
    have es : SqT K H2 a vs := SqT.up (fun b o q => g b o (f b o q)) e
    refine ⟨⟨vs, u, es, hu⟩, fun v H' y => ?_⟩
    obtain ⟨y1, y2⟩ := y
    subst y1
    have := (y2 vs es).symm.trans hu
    cases this
    exact ⟨F, Qx.refl g, ru.up f⟩
  stop := fun F H2 i f g hi => ⟨vs, SqT.up (fun b o q => g b o (f b o q)) e, by rw [r.length]; exact Nat.le_of_eq hi⟩
theorem its_ok {F0 : Hp} (z : Str) : ItOk K mg (Its z) F0 (z.cps.toList.map fun c => .str ⟨#[c]⟩) where
  go := fun F H2 i x f g hx => by
    rw [List.getElem?_map] at hx
    obtain ⟨c, hc, ex⟩ := Option.map_eq_some_iff.mp hx
    subst ex
    have hi : z.cps[i]? = some c := by simpa using hc
    have hl : i < z.cps.size := (Array.getElem?_eq_some_iff.mp hi).1
    refine ⟨hl, fun v H' y => ?_⟩
    obtain ⟨y1, c', y2, y3⟩ := y
    subst y1
    rw [hi] at y2
    cases y2
    subst y3
    exact ⟨F, Qx.refl g, .str _⟩
  stop := fun F H2 i f g hi => by
    show z.cps.size ≤ i
    exact Nat.le_of_eq (by simpa using hi)
theorem itr_ok {F0 : Hp} (lo : Int) (n : Nat) : ItOk K mg (Itr lo n) F0 ((List.range n).map fun (i : Nat) => .int (lo + (i : Nat))) where
  go := fun F H2 i x f g hx => by
    rw [List.getElem?_map] at hx
    obtain ⟨c, hc, ex⟩ := Option.map_eq_some_iff.mp hx
    subst ex
    obtain ⟨h1, h2⟩ := List.getElem?_eq_some_iff.mp hc
    rw [List.getElem_range] at h2
    subst h2
    rw [List.length_range] at h1
    refine ⟨h1, fun v H' y => ?_⟩
    obtain ⟨y1, y2⟩ := y
    subst y1 y2
    exact ⟨F, Qx.refl g, .int _⟩
  stop := fun F H2 i f g hi => by
    show n ≤ i
    exact Nat.le_of_eq (by simpa using hi)
theorem id_seq {Y : Fm} {tg e : Expr} {f} (h : PD Y e f) : ID Y tg e (iSeq f) := by
  obtain ⟨t, p, q⟩ := h
  refine ⟨_, fun X h => pi_or (h.K ▸ pi_list (p X h)) (pi_or (h.K ▸ pi_tup (p X h)) (pi_str (p X h))), fun F H O σ E xs E' e w s R hR => ?_⟩
  unfold iSeq at e
  split at e
  · rename_i b ys E1 ed
    cases e
    refine .inl (q F H O σ E _ _ ed w s _ fun v F1 H1 A O1 x1 w1 r1 s1 => ?_)
    have wA := w1.left
    have x2 := frz_ext wA
    have r2 := r1.freeze wA
    have w2 : Own (frz F1 H1 A) H1 (O1 ++ []) := w1.swap.frame x2 (Own.nil (frz_le wA))
    rw [List.append_nil] at w2
    have x3 : Ext F1 H1 (A ++ O1) (frz F1 H1 A) H1 O1 := x2.sub (fun b m => List.mem_append_left _ m) fun b m => .inr (List.mem_append_right _ m)
    have s2 := s1.ext x2 w1.swap.apart
    cases r2 with
    | lstF ea z rl => exact ⟨_, rfl, ⟨_, SqL.of (frz_le wA _ _ ea)⟩, hR _ _ _ O1 (x1.trans x3) w2 s2 (itl_ok (SqL.of ea) rl)⟩
  · rename_i ys E1 ed
    cases e
    refine .inl (q F H O σ E _ _ ed w s _ fun v F1 H1 A O1 x1 w1 r1 s1 => ?_)
    cases r1 with
    | scr ea z rl => exact ⟨_, rfl, ⟨_, SqL.up w1.le ea⟩, hR _ _ _ O1 x1 w1 s1 (itl_ok ea rl)⟩
  · rename_i ys E1 ed
    split at e
    · rename_i hz
      cases e
      refine .inr (.inl (q F H O σ E _ _ ed w s _ fun v F1 H1 A O1 x1 w1 r1 s1 => ?_))
      cases r1 with
      | tup ea z rl => exact ⟨_, rfl, ⟨_, SqT.up w1.le ea⟩, hR _ _ _ O1 (x1.sub (fun _ m => m) fun b m => .inl (List.mem_append_right _ m)) w1.right s1 (itt_ok ea (rl.nilOf hz))⟩
    · cases e
  · rename_i z E1 ed
    cases e
    refine .inr (.inr (q F H O σ E _ _ ed w s _ fun v F1 H1 A O1 x1 w1 r1 s1 => ?_))
    exact ⟨z, r1.str_inv, hR _ _ _ O1 (x1.sub (fun _ m => m) fun b m => .inl (List.mem_append_right _ m)) w1.right s1 (its_ok z)⟩
  · cases e
def rangeD (lo : Int) (n : Nat) : List D := (List.range n).map fun i => .int (lo + (i : Nat))
def big62 (i : Int) : Bool := decide (-(2 ^ 62) ≤ i ∧ i < 2 ^ 62)
def iRange (g : Ev → Option (List D × Ev)) : Ev → Option (List D × Ev) := fun E => match g E with
  | some ([.int j], E1) => if big62 j = true then some (rangeD 0 j.toNat, E1) else none
  | some ([.int i, .int j], E1) => if big62 i = true ∧ big62 j = true then some (rangeD i (j - i).toNat, E1) else none
  | _ => none
theorem big62_iff {i : Int} : big62 i = true ↔ -(2 ^ 62) ≤ i ∧ i < 2 ^ 62 := by unfold big62; exact decide_eq_true_iff
theorem id_range1 {Y : Fm} {tg a : Expr} {p pos : Pos} {g} (hg : GlY Y "range") (hm : Y.mg "range" = none) (ha : PDa Y [a] g) (hl : ∀ E ds E1, g E = some (ds, E1) → ds.length = 1) (hs : ∀ X : Cx, starEach [a] X.env = [(false, eval a X.env)] := by intro _; rfl) : ID Y tg (.Call (.Name "range" p) [a] [] pos) (iRange g) := by
  obtain ⟨t, p, q⟩ := ha
  refine ⟨_, fun X h => pi_range1 (h.gl hg) (h.mgN hm) (p X h) (hs X), fun F H O σ E xs E' e w s R hR => ?_⟩
  unfold iRange at e
  split at e
  · rename_i j E1 ed
    split at e
    · rename_i hj
      cases e
      obtain ⟨h1, h2⟩ := big62_iff.mp hj
      refine q F H O σ E _ _ ed w s _ fun vs F1 H1 A O1 x1 w1 r1 s1 => ?_
      obtain ⟨v, ev, rv⟩ := r1.one_inv
      subst ev
      exact ⟨j, by rw [rv.int_inv], h1, h2, hR _ _ _ O1 (x1.sub (fun _ m => m) fun b m => .inl (List.mem_append_right _ m)) w1.right s1 (itr_ok 0 _)⟩
    · cases e
  · rename_i ed
    have := hl _ _ _ ed
    simp at this
  · cases e
theorem id_range2 {Y : Fm} {tg a b : Expr} {p pos : Pos} {g} (hg : GlY Y "range") (hm : Y.mg "range" = none) (ha : PDa Y [a, b] g) (hl : ∀ E ds E1, g E = some (ds, E1) → ds.length = 2) (hs : ∀ X : Cx, starEach [a, b] X.env = [(false, eval a X.env), (false, eval b X.env)] := by intro _; rfl)
    (hs2 : ∀ X : Cx, starEach [b] X.env = [(false, eval b X.env)] := by intro _; rfl) : ID Y tg (.Call (.Name "range" p) [a, b] [] pos) (iRange g) := by
  obtain ⟨t, p, q⟩ := ha
  refine ⟨_, fun X h => pi_range2 (h.gl hg) (h.mgN hm) (p X h) (hs X) (hs2 X), fun F H O σ E xs E' e w s R hR => ?_⟩
  unfold iRange at e
  split at e
  · rename_i ed
    have := hl _ _ _ ed
    simp at this
  · rename_i i j E1 ed
    split at e
    · rename_i hj
      cases e
      obtain ⟨h1, h2⟩ := big62_iff.mp hj.1
      obtain ⟨h3, h4⟩ := big62_iff.mp hj.2
      refine q F H O σ E _ _ ed w s _ fun vs F1 H1 A O1 x1 w1 r1 s1 => ?_
      obtain ⟨v, u, A1, A2, ev, rv, ru⟩ := r1.two_inv
      subst ev
      exact ⟨i, j, by rw [rv.int_inv, ru.int_inv], ⟨h1, h2, h3, h4⟩, hR _ _ _ O1 (x1.sub (fun _ m => m) fun b m => .inl (List.mem_append_right _ m)) w1.right s1 (itr_ok i _)⟩
    · cases e
  · cases e
theorem len_eNil : ∀ (E : Ev) (ds : List D) (E1 : Ev), eNil E = some (ds, E1) → ds.length = 0 := fun E ds E1 e => by cases e; rfl
theorem len_eCons {f g} {n : Nat} (h : ∀ (E : Ev) (ds : List D) (E1 : Ev), g E = some (ds, E1) → ds.length = n) : ∀ (E : Ev) (ds : List D) (E1 : Ev), eCons f g E = some (ds, E1) → ds.length = n + 1 := fun E ds E1 e => by
  unfold eCons at e
  split at e
  · split at e
    · rename_i eg
      cases e
      rw [List.length_cons, h _ _ _ eg]
    · cases e
  · cases e
end

/-! ### for -/
def forL (g : D → Ev → Option Ev) (body : Ev → Option Out) : List D → Ev → Option Out
  | [], E => some (.nx E)
  | x :: xs, E => match g x E with
    | some E1 => (match body E1 with
      | some (.nx E2) => forL g body xs E2
      | some (.ct E2) => forL g body xs E2
      | some (.bk E2) => some (.nx E2)
      | some (.ret d E2) => some (.ret d E2)
      | none => none)
    | none => none
def sFor (lk : Lks) (ts : List Nat) (fi : Ev → Option (List D × Ev)) (g : D → Ev → Option Ev) (body : Ev → Option Out) : Ev → Option Out := fun E => if ts.all (fun i => !lk i) = true then (match fi E with | some (xs, E1) => forL g body xs E1 | none => none) else none
def whileN (c : Ev → Option (Bool × Ev)) (body : Ev → Option Out) : Nat → Ev → Option Out
  | 0, _ => none
  | n + 1, E => match c E with
    | some (false, E1) => some (.nx E1)
    | some (true, E1) => (match body E1 with
      | some (.nx E2) => whileN c body n E2
      | some (.ct E2) => whileN c body n E2
      | some (.bk E2) => some (.nx E2)
      | some (.ret d E2) => some (.ret d E2)
      | none => none)
    | none => none
def whileFuel : Nat := 1000000
def sWhile (c : Ev → Option (Bool × Ev)) (body : Ev → Option Out) : Ev → Option Out := whileN c body whileFuel
section
variable {Y : Fm} {lk : Lks} {pos : Pos}
theorem sd_for {tg iter : Expr} {body : List Stmt} {ts : List Nat} {fi g gb} (hi : ID Y tg iter fi) (hg : GD Y tg ts g) (hb : SDs Y body lk gb)
    (hs : ∀ X : Cx, ∀ x, foldedSetIterable iter X.env x = pure x := by intro _ _; rfl) : SD Y (.For tg iter body [] pos) lk (sFor lk ts fi g gb) := by
  obtain ⟨_, pi, qi⟩ := hi
  obtain ⟨_, pg, qg⟩ := hg
  obtain ⟨_, pb, qb⟩ := hb
  refine ⟨_, fun X h => ps_for h.own h.calm (pi X h) (pg X h) (pb X h) (hs X), fun F H O σ E o e w s N h => ?_⟩
  unfold sFor at e
  split at e
  · rename_i hl
    split at e
    · rename_i xs E1 ei
      refine qi F H O σ E xs E1 ei w s _ fun J F1 H1 O1 x1 w1 s1 ok => ?_
      refine ⟨fun i m σ2 H2 => m = xs.length - i ∧ i ≤ xs.length ∧ ∃ F2 O2 E2, (∀ a u, F1 a = some u → F2 a = some u) ∧ Own F2 H2 O2 ∧ RpS Y.K Y.mg F2 H2 σ2 E2 O2 ∧ forL g gb (xs.drop i) E2 = some o ∧ EndP Y.K Y.mg F2 H2 O2 σ2 lk o N,
        ⟨xs.length, rfl, Nat.zero_le _, F1, O1, E1, fun _ _ e => e, w1, s1, e, h.from .refl x1⟩, ?_⟩
      rintro i m σ2 H2 ⟨rfl, hi, F2, O2, E2, f2, w2, s2, e2, h2⟩
      by_cases hlt : i < xs.length
      · have hx : xs[i]? = some xs[i] := List.getElem?_eq_getElem hlt
        obtain ⟨go, yl⟩ := ok.go F2 H2 i _ f2 w2.le hx
        rw [List.drop_eq_getElem_cons hlt] at e2
        refine .inr ⟨go, fun σ3 H3 => xs.length - (i + 1) < xs.length - i ∧ i + 1 ≤ xs.length ∧ ∃ F3 O3 E3, (∀ a u, F1 a = some u → F3 a = some u) ∧ Own F3 H3 O3 ∧ RpS Y.K Y.mg F3 H3 σ3 E3 O3 ∧ forL g gb (xs.drop (i + 1)) E3 = some o ∧ EndP Y.K Y.mg F3 H3 O3 σ3 lk o N,
          fun σ3 H3 ⟨a1, a2, a3⟩ => ⟨_, a1, rfl, a2, a3⟩, fun v H3 y => ?_⟩
        obtain ⟨F3, q3, r3⟩ := yl v H3 y
        unfold forL at e2
        split at e2
        · rename_i E3 eg
          refine qg F3 H3 [] O2 σ2 E2 E3 v _ eg (q3.own w2) r3 (q3.rps s2) _ fun σ4 F4 H4 O4 c4 x4 w4 s4 => ?_
          have x24 : Ext F2 H2 O2 F4 H4 O4 := (q3.extO (O := O2)).trans x4
          have l24 : Lk lk σ2 σ4 := c4.lk (all_lk hl)
          have h4 := h2.from l24 x24
          have f4 : ∀ a u, F1 a = some u → F4 a = some u := fun a u z => x24.fle a u (f2 a u z)
          split at e2
          · rename_i E5 eb
            refine qb F4 H4 O4 σ4 E3 _ eb w4 s4 _ fun σ5 F5 H5 O5 l5 x5 w5 s5 => ?_
            exact ⟨by omega, hlt, F5, O5, E5, fun a u z => x5.fle a u (f4 a u z), w5, s5, e2, h4.from l5 x5⟩
          · rename_i E5 eb
            refine qb F4 H4 O4 σ4 E3 _ eb w4 s4 _ fun σ5 F5 H5 O5 l5 x5 w5 s5 => ?_
            exact ⟨by omega, hlt, F5, O5, E5, fun a u z => x5.fle a u (f4 a u z), w5, s5, e2, h4.from l5 x5⟩
          · rename_i E5 eb
            cases e2
            exact qb F4 H4 O4 σ4 E3 _ eb w4 s4 _ h4
          · rename_i d E5 eb
            cases e2
            exact qb F4 H4 O4 σ4 E3 _ eb w4 s4 _ h4
          · cases e2
        · cases e2
      · have e' : i = xs.length := by omega
        subst e'
        rw [List.drop_length] at e2
        cases e2
        exact .inl ⟨ok.stop F2 H2 _ f2 w2.le rfl, h2 σ2 F2 H2 O2 .refl Ext.refl w2 s2⟩
    · cases e
  · cases e
theorem sd_while {c : Expr} {body : List Stmt} {f gb} (hc : TD Y c f) (hb : SDs Y body lk gb) : SD Y (.While c body [] pos) lk (sWhile f gb) := by
  obtain ⟨_, pc, qc⟩ := hc
  obtain ⟨_, pb, qb⟩ := hb
  refine ⟨_, fun X h => ps_while h.own (pc X h) (pb X h), fun F H O σ E o e w s N h => ?_⟩
  unfold sWhile at e
  refine ⟨fun m σ2 H2 => ∃ F2 O2 E2, Own F2 H2 O2 ∧ RpS Y.K Y.mg F2 H2 σ2 E2 O2 ∧ whileN f gb m E2 = some o ∧ EndP Y.K Y.mg F2 H2 O2 σ2 lk o N, ⟨whileFuel, F, O, E, w, s, e, h⟩, ?_⟩
  rintro m σ2 H2 ⟨F2, O2, E2, w2, s2, e2, h2⟩
  cases m with
  | zero => cases e2
  | succ m =>
    unfold whileN at e2
    split at e2
    · rename_i E3 ec
      cases e2
      refine qc F2 H2 O2 σ2 E2 false E3 ec w2 s2 _ fun F3 H3 O3 x3 w3 s3 => ?_
      rw [if_neg Bool.false_ne_true]
      exact h2 σ2 F3 H3 O3 .refl x3 w3 s3
    · rename_i E3 ec
      refine qc F2 H2 O2 σ2 E2 true E3 ec w2 s2 _ fun F3 H3 O3 x3 w3 s3 => ?_
      rw [if_pos rfl]
      refine ⟨fun σ4 H4 => ∃ F4 O4 E4, Own F4 H4 O4 ∧ RpS Y.K Y.mg F4 H4 σ4 E4 O4 ∧ whileN f gb m E4 = some o ∧ EndP Y.K Y.mg F4 H4 O4 σ4 lk o N, fun σ4 H4 z => ⟨m, Nat.lt_succ_self m, z⟩, ?_⟩
      have h3 := h2.from .refl x3
      split at e2
      · rename_i E5 eb
        refine qb F3 H3 O3 σ2 E3 _ eb w3 s3 _ fun σ5 F5 H5 O5 l5 x5 w5 s5 => ?_
        exact ⟨F5, O5, E5, w5, s5, e2, h3.from l5 x5⟩
      · rename_i E5 eb
        refine qb F3 H3 O3 σ2 E3 _ eb w3 s3 _ fun σ5 F5 H5 O5 l5 x5 w5 s5 => ?_
        exact ⟨F5, O5, E5, w5, s5, e2, h3.from l5 x5⟩
      · rename_i E5 eb
        cases e2
        exact qb F3 H3 O3 σ2 E3 _ eb w3 s3 _ h3
      · rename_i d E5 eb
        cases e2
        exact qb F3 H3 O3 σ2 E3 _ eb w3 s3 _ h3
      · cases e2
    · cases e2
end
end Dm

namespace Dm
open PySem PySem.Spec L2
open PyProof.Rows hiding St
/-! ### list comprehensions -/
def wipeE : Ev → List Nat → Ev
  | E, [] => E
  | E, v :: vs => (wipeE E vs).set v none
def backE (E1 : Ev) : Ev → List Nat → Ev
  | E, [] => E
  | E, v :: vs => backE E1 (E.set v (E1[v]?.join)) vs
def ownFz (E : Ev) (vs : List Nat) : Bool := vs.all fun v => match E[v]? with | some (some d) => isFz d | _ => true
def compL (own : List Nat) (g : D → Ev → Option Ev) (tt : Ev → Option (Bool × Ev)) (el : Ev → Option (D × Ev)) : List D → Ev → Option (List D × Ev)
  | [], E => some ([], E)
  | x :: xs, E => match g x E with
    | some E1 => (match tt E1 with
      | some (false, E2) => compL own g tt el xs (wipeE E2 own)
      | some (true, E2) => (match el E2 with
        | some (d, E3) => (match compL own g tt el xs (wipeE E3 own) with
          | some (ds, E4) => some (d :: ds, E4)
          | none => none)
        | none => none)
      | none => none)
    | none => none
def eComp (own : List Nat) (fi : Ev → Option (List D × Ev)) (g : D → Ev → Option Ev) (tt : Ev → Option (Bool × Ev)) (el : Ev → Option (D × Ev)) : Ev → Option (D × Ev) := fun E => match fi E with
  | some (xs, E1) => (if ownFz E1 own = true then (match compL own g tt el xs (wipeE E1 own) with
    | some (ds, E2) => (if ds.length ≤ sizeLine then some (.lst true ds, backE E1 E2 own) else none)
    | none => none) else none)
  | none => none
def dYes : Ev → Option (Bool × Ev) := fun E => some (true, E)
def TsD (Y : Fm) (ifs : List Expr) (f : Ev → Option (Bool × Ev)) : Prop := ∃ t, (∀ X, Y.Is X → PTs X ifs t) ∧ Td Y.K Y.mg t f
theorem ts_nil {Y : Fm} : TsD Y [] dYes := ⟨_, fun _ _ => pts_nil, fun F H O σ E b E' e w s Q h => by cases e; exact h F H O Ext.refl w s⟩
theorem ts_one {Y : Fm} {c : Expr} {f} (h : TD Y c f) : TsD Y [c] f := let ⟨_, p, q⟩ := h; ⟨_, fun X h => pts_one (p X h), q⟩
section
variable {K : PySem.W.Frag} {mg : Md} {F H F' H' : Hp} {O O' A B C : List Addr} {σ : L2.St} {E E1 : Ev} {v : V} {d : D} {vs us : List V} {ds : List D} {a : Addr}
theorem RpS.drop1 (w : Own F H O) (h : RpS K mg F H σ E O) (i : Nat) (x : Option V) : ∃ O', RpS K mg F H (σ.set i x) (E.set i none) O' ∧ Own F H O' ∧ ∀ a ∈ O', a ∈ O := by
  obtain ⟨O1, A, O2, eq, go⟩ := h.put (i := i) (RpO.none (x := x))
  subst eq
  have nd := List.nodup_append.mp w.nd
  have nd2 := List.nodup_append.mp nd.2.1
  have hs : ∀ b ∈ O1 ++ O2, b ∈ O1 ++ (A ++ O2) := fun b m => by
    rcases List.mem_append.mp m with m | m
    · exact List.mem_append_left _ m
    · exact List.mem_append_right _ (List.mem_append_right _ m)
  have hn : (O1 ++ O2).Nodup := List.nodup_append.mpr ⟨nd.1, nd2.2.1, fun a x b y e => nd.2.2 a x b (List.mem_append_right _ y) e⟩
  rcases go with ⟨g, _⟩ | ⟨_, g⟩
  · rw [List.nil_append] at g
    exact ⟨_, g, w.sub hn hs, hs⟩
  · exact ⟨_, g, w.sub hn hs, hs⟩
theorem RpS.wipe (w : Own F H O) (h : RpS K mg F H σ E O) : ∀ own : List Nat, ∃ O', RpS K mg F H (L2.wipe σ own) (wipeE E own) O' ∧ Own F H O' ∧ ∀ a ∈ O', a ∈ O
  | [] => ⟨O, h, w, fun _ m => m⟩
  | i :: own => by
    obtain ⟨O1, h1, w1, m1⟩ := RpS.wipe w h own
    obtain ⟨O2, h2, w2, m2⟩ := h1.drop1 w1 i none
    exact ⟨O2, h2, w2, fun a m => m1 a (m2 a m)⟩
theorem wipe_get {σ : L2.St} {i : Nat} : ∀ {own : List Nat}, i ∉ own → (L2.wipe σ own)[i]? = σ[i]?
  | [], _ => rfl
  | j :: own, h => by
    rw [List.mem_cons, not_or] at h
    unfold L2.wipe
    rw [List.getElem?_set_ne (fun e => h.1 e.symm)]
    exact wipe_get h.2
theorem RpS.back : ∀ {own : List Nat} {σ : L2.St} {E : Ev} {O : List Addr}, own.Nodup → Own F H O → RpS K mg F H (L2.wipe σ own) E O → (∀ i ∈ own, RpO K mg F H (σ[i]?.join) (E1[i]?.join) []) →
    ∃ O', RpS K mg F H σ (backE E1 E own) O' ∧ Own F H O' ∧ ∀ a ∈ O', a ∈ O
  | [], σ, E, O, _, w, h, _ => ⟨O, h, w, fun _ m => m⟩
  | i :: own, σ, E, O, nd, w, h, hr => by
    obtain ⟨n1, n2⟩ := List.nodup_cons.mp nd
    have h' : RpS K mg F H ((L2.wipe σ own).set i none) E O := h
    obtain ⟨O1, A, O2, eq, go⟩ := h'.put (i := i) (hr i List.mem_cons_self)
    subst eq
    have e : ((L2.wipe σ own).set i none).set i (σ[i]?.join) = L2.wipe σ own := by
      rw [List.set_set]
      by_cases hl : i < (L2.wipe σ own).length
      · refine set_same ?_
        rw [wipe_get n1]
        have hl' : i < σ.length := by rw [wipe_length] at hl; exact hl
        rw [List.getElem?_eq_getElem hl']; rfl
      · exact List.set_eq_of_length_le (by omega)
    have nd1 := List.nodup_append.mp w.nd
    have nd2 := List.nodup_append.mp nd1.2.1
    have hs : ∀ b ∈ O1 ++ O2, b ∈ O1 ++ (A ++ O2) := fun b m => by
      rcases List.mem_append.mp m with m | m
      · exact List.mem_append_left _ m
      · exact List.mem_append_right _ (List.mem_append_right _ m)
    have hn : (O1 ++ O2).Nodup := List.nodup_append.mpr ⟨nd1.1, nd2.2.1, fun a x b y e => nd1.2.2 a x b (List.mem_append_right _ y) e⟩
    have g : RpS K mg F H (L2.wipe σ own) (E.set i (E1[i]?.join)) (O1 ++ O2) := by
      rcases go with ⟨g, _⟩ | ⟨_, g⟩
      · rw [List.nil_append, e] at g; exact g
      · rw [e] at g; exact g
    obtain ⟨O', k1, k2, k3⟩ := RpS.back n2 (w.sub hn hs) g fun j m => hr j (List.mem_cons_of_mem _ m)
    exact ⟨O', k1, k2, fun a m => hs a (k3 a m)⟩
theorem RpS.getO : ∀ {E : Ev} {σ : L2.St} {O : List Addr} (i : Nat), RpS K mg F H σ E O → ∃ A, RpO K mg F H (σ[i]?.join) (E[i]?.join) A
  | _, _, _, i, .nil => ⟨[], by simp; exact .none⟩
  | _, _, _, 0, .cons h1 _ => ⟨_, by simpa using h1⟩
  | _, _, _, i + 1, .cons _ h2 => by
    obtain ⟨A, r⟩ := RpS.getO i h2
    exact ⟨A, by simpa using r⟩
theorem wipe_tch {own ts : List Nat} {σ σ' : L2.St} (c : Tch ts σ σ') (h : ∀ i ∈ ts, i ∈ own) : L2.wipe σ' own = L2.wipe σ own := by
  refine List.ext_getElem? fun i => ?_
  by_cases hi : i ∈ own
  · have w : ∀ (τ : L2.St), (L2.wipe τ own)[i]? = if i < τ.length then some none else none := by
      intro τ
      clear c h
      induction own with
      | nil => cases hi
      | cons j own ih =>
        unfold L2.wipe
        by_cases hj : j = i
        · subst hj
          by_cases hl : j < τ.length
          · rw [List.getElem?_set_self (by rw [wipe_length]; exact hl), if_pos hl]
          · rw [List.getElem?_eq_none (by rw [List.length_set, wipe_length]; omega), if_neg hl]
        · rw [List.getElem?_set_ne hj]
          exact ih ((List.mem_cons.mp hi).resolve_left fun e => hj e.symm)
    rw [w, w, c.len]
  · rw [wipe_get hi, wipe_get hi]
    exact c.eq i fun m => hi (h i m)
/-- one list written -/
theorem wr1_ext (hF : F a = none) (e : H a = some (.lst vs)) : Ext F H [a] F (upd H a (.lst us)) [a] :=
  ⟨fun _ _ e => e, fun b o e n => by rw [upd_ne (fun z => n (by simp [z]))]; exact e, fun b e => by
    by_cases hb : b = a
    · subst hb; rw [upd_same]; simp
    · rw [upd_ne hb]; exact e, fun _ e => .inl e, fun _ m => .inl m⟩
theorem wr1_own (w : Own F H A) (hF : F a = none) : Own F (upd H a (.lst us)) A where
  le := fun b o e => by
    have n : b ≠ a := fun z => by rw [z, hF] at e; cases e
    rw [upd_ne n]
    exact w.le b o e
  nd := w.nd
  out := w.out
  alive := fun b m => by
    by_cases hb : b = a
    · subst hb; rw [upd_same]; simp
    · rw [upd_ne hb]; exact w.alive b m
end
section
variable {X : Cx}
theorem comp_core {K : PySem.W.Frag} {mg : Md} {wi : TI} {tg : TG} {tt : TT} {te : TE} {own ts : List Nat} {fi g ft fe} (qi : Di K mg wi fi) (qg : Dg K mg tg ts g) (qt : Td K mg tt ft) (qe : De K mg te fe) (hts : ∀ i ∈ ts, i ∈ own) (hnd : own.Nodup) :
    De K mg (tLc wi tg tt te own) (eComp own fi g ft fe) := by
  intro F H O σ E d E' e w s Q hQ
  unfold eComp at e
  split at e
  · rename_i xs E1 ei
    split at e
    · rename_i hz
      split at e
      · rename_i ds E2 ec
        split at e
        · rename_i hlen
          cases e
          refine qi F H O σ E xs E1 ei w s _ fun J F1 H1 O1 x1 w1 s1 ok => ?_
          intro Dn hD
          obtain ⟨Ow, sw, ww, mw⟩ := s1.wipe w1 own
          have hF1 : F1 Dn = none := none_of_le w1.le hD
          have y1 : Qx F1 H1 F1 (upd H1 Dn (.lst [])) := Qx.new w1.le hD
          have ww0 : Own F1 (upd H1 Dn (.lst [])) ((Dn :: []) ++ Ow) := own_new (A := []) ww hD
          refine ⟨fun i m H2 => m = xs.length - i ∧ i ≤ xs.length ∧ ∃ F2 O2 Ec vs dsf A rest, (∀ a u, F1 a = some u → F2 a = some u) ∧ Own F2 H2 ((Dn :: A) ++ O2) ∧ RpS K mg F2 H2 (L2.wipe σ own) Ec O2 ∧ H2 Dn = some (.lst vs) ∧ RpL K mg F2 H2 vs dsf A ∧
              compL own g ft fe (xs.drop i) Ec = some (rest, E2) ∧ dsf ++ rest = ds ∧ Ext F1 H1 Ow F2 H2 ((Dn :: A) ++ O2),
            ⟨xs.length, rfl, Nat.zero_le _, F1, Ow, wipeE E1 own, [], [], [], ds, fun _ _ e => e, ww0, y1.rps sw, upd_same, .nil, ec, rfl, Ext.fresh (C := [Dn]) y1 fun c m => by simp at m; subst m; exact hD⟩, ?_⟩
          rintro i m H2 ⟨rfl, hi, F2, O2, Ec, vs, dsf, A, rest, f2, w2, s2, h2, rl, e2, eds, x2⟩
          have hlv := rl.length
          have wO2 := w2.right
          by_cases hlt : i < xs.length
          · have hx : xs[i]? = some xs[i] := List.getElem?_eq_getElem hlt
            obtain ⟨go, yl⟩ := ok.go F2 H2 i _ f2 w2.le hx
            rw [List.drop_eq_getElem_cons hlt] at e2
            refine .inr ⟨go, fun H3 => xs.length - (i + 1) < xs.length - i ∧ i + 1 ≤ xs.length ∧ ∃ F3 O3 Ec vs dsf A rest, (∀ a u, F1 a = some u → F3 a = some u) ∧ Own F3 H3 ((Dn :: A) ++ O3) ∧ RpS K mg F3 H3 (L2.wipe σ own) Ec O3 ∧ H3 Dn = some (.lst vs) ∧ RpL K mg F3 H3 vs dsf A ∧
                compL own g ft fe (xs.drop (i + 1)) Ec = some (rest, E2) ∧ dsf ++ rest = ds ∧ Ext F1 H1 Ow F3 H3 ((Dn :: A) ++ O3),
              fun H3 ⟨a1, a2, a3⟩ => ⟨_, a1, rfl, a2, a3⟩, fun v H3 y => ?_⟩
            obtain ⟨F3, q3, r3⟩ := yl v H3 y
            unfold compL at e2
            split at e2
            · rename_i E4 eg
              refine qg F3 H3 [] O2 (L2.wipe σ own) Ec E4 v _ eg (q3.own wO2) r3 (q3.rps s2) _ fun σ4 F4 H4 O4 c4 x4 w4 s4 => ?_
              have x24 : Ext F2 H2 O2 F4 H4 O4 := (q3.extO (O := O2)).trans x4
              have wt : L2.wipe σ4 own = L2.wipe σ own := (wipe_tch c4 hts).trans (by
                have : ∀ (τ : L2.St) (vs : List Nat), L2.wipe (L2.wipe τ vs) vs = L2.wipe τ vs := fun τ vs => by
                  have c : Tch vs τ (L2.wipe τ vs) := ⟨wipe_length τ vs, fun i h => wipe_get h⟩
                  exact wipe_tch c fun _ m => m
                exact this σ own)
              refine ⟨wt, ?_⟩
              have w24 : Own F4 H4 ((Dn :: A) ++ O4) := w2.frame x24 w4
              have h4 : H4 Dn = some (.lst vs) := x24.hle _ _ h2 (w2.apart Dn List.mem_cons_self)
              have rl4 := rl.ext x24 fun b m => w2.apart b (List.mem_cons_of_mem _ m)
              have xx4 : Ext F1 H1 Ow F4 H4 ((Dn :: A) ++ O4) := x2.trans (x24.frame w2)
              have f4 : ∀ a u, F1 a = some u → F4 a = some u := fun a u z => x24.fle a u (f2 a u z)
              split at e2
              · rename_i E5 et
                refine qt F4 H4 O4 σ4 E4 false E5 et w4 s4 _ fun F5 H5 O5 x5 w5 s5 => ?_
                rw [if_neg Bool.false_ne_true]
                have w25 := w24.frame x5 w5
                obtain ⟨O6, s6, w6, m6⟩ := s5.wipe w5 own
                rw [wt] at s6
                have x6 : Ext F4 H4 O4 F5 H5 O6 := x5.sub (fun _ m => m) fun b m => .inl (m6 b m)
                refine ⟨by omega, hlt, F5, O6, wipeE E5 own, vs, dsf, A, rest, fun a u z => x5.fle a u (f4 a u z), w24.frame x6 w6, s6, x5.hle _ _ h4 (w24.apart Dn List.mem_cons_self), rl4.ext x5 fun b m => w24.apart b (List.mem_cons_of_mem _ m), e2, eds, xx4.trans (x6.frame w24)⟩
              · rename_i E5 et
                split at e2
                · rename_i dy E6 ey
                  split at e2
                  · rename_i ds' E7 er
                    cases e2
                    refine qt F4 H4 O4 σ4 E4 true E5 et w4 s4 _ fun F5 H5 O5 x5 w5 s5 => ?_
                    rw [if_pos rfl]
                    have w25 := w24.frame x5 w5
                    have h5 : H5 Dn = some (.lst vs) := x5.hle _ _ h4 (w24.apart Dn List.mem_cons_self)
                    have rl5 := rl4.ext x5 fun b m => w24.apart b (List.mem_cons_of_mem _ m)
                    have xx5 := xx4.trans (x5.frame w24)
                    refine qe F5 H5 O5 σ4 E5 dy E6 ey w5 s5 _ fun y F6 H6 Ay O6 x6 w6 r6 s6 => ?_
                    have w26 := w25.frame x6 w6
                    have h6 : H6 Dn = some (.lst vs) := x6.hle _ _ h5 (w25.apart Dn List.mem_cons_self)
                    have rl6 := rl5.ext x6 fun b m => w25.apart b (List.mem_cons_of_mem _ m)
                    have xx6 := xx5.trans (x6.frame w25)
                    have hF6 : F6 Dn = none := w26.out Dn (List.mem_append_left _ List.mem_cons_self)
                    obtain ⟨O7, s7, w7, m7⟩ := s6.wipe w6.right own
                    rw [wt] at s7
                    have ldy : vs.length < sizeLine := by
                      rw [hlv]
                      have := congrArg List.length eds
                      rw [List.length_append, List.length_cons] at this
                      omega
                    have pm : ((Dn :: A) ++ (Ay ++ O6)).Perm ((Dn :: (A ++ Ay)) ++ O6) := by
                      rw [← List.append_assoc]
                      exact List.Perm.refl _
                    have w27 := w26.perm pm
                    have sub7 : ∀ b ∈ (Dn :: (A ++ Ay)) ++ O7, b ∈ (Dn :: (A ++ Ay)) ++ O6 := fun b m => by
                      rcases List.mem_append.mp m with m | m
                      · exact List.mem_append_left _ m
                      · exact List.mem_append_right _ (m7 b m)
                    have nd27 := List.nodup_append.mp w27.nd
                    have w28 : Own F6 H6 ((Dn :: (A ++ Ay)) ++ O7) := w27.sub (List.nodup_append.mpr ⟨nd27.1, w7.nd, fun a x b y e => nd27.2.2 a x b (m7 b y) e⟩) sub7
                    have nDn := (List.nodup_cons.mp (List.nodup_append.mp w28.nd).1).1
                    have wx := wr1_ext (us := vs ++ [y]) hF6 h6
                    refine ⟨vs, h6, ldy, by omega, hlt, F6, O7, wipeE E6 own, vs ++ [y], dsf ++ [dy], A ++ Ay, ds', fun a u z => x6.fle a u (x5.fle a u (f4 a u z)), wr1_own w28 hF6, s7.ext wx fun b m q => ?_, upd_same, ?_, er, ?_, ?_⟩
                    · simp at q
                      subst q
                      exact w28.apart b List.mem_cons_self m
                    · have ry : RpL K mg F6 H6 [y] [dy] (Ay ++ []) := .cons r6 .nil
                      rw [List.append_nil] at ry
                      exact (rl6.append ry).ext wx fun b m q => by
                        simp at q
                        subst q
                        exact nDn m
                    · rw [List.append_assoc]; exact eds
                    · refine (xx6.perm (List.Perm.refl _) pm).trans ?_
                      exact wx.sub (fun b m => by simp at m; subst m; exact List.mem_append_left _ List.mem_cons_self) fun b m => .inr (sub7 b m)
                  · cases e2
                · cases e2
              · cases e2
            · cases e2
          · have e' : i = xs.length := by omega
            subst e'
            rw [List.drop_length] at e2
            cases e2
            rw [List.append_nil] at eds
            subst eds
            refine .inl ⟨ok.stop F2 H2 _ f2 w2.le rfl, ?_⟩
            have hF2 : F2 Dn = none := w2.out Dn (List.mem_append_left _ List.mem_cons_self)
            obtain ⟨O3, s3, w3, m3⟩ := RpS.back (E1 := E1) hnd wO2 s2 fun j hj => by
              obtain ⟨B, ro⟩ := s1.getO j
              cases q : E1[j]? with
              | none => exact .none
              | some y =>
                cases y with
                | none => exact .none
                | some dj =>
                  rw [q] at ro
                  have hzj := List.all_eq_true.mp hz j hj
                  rw [q] at hzj
                  generalize hv : σ[j]?.join = xv at ro
                  have ro' : RpO K mg F1 H1 xv (some dj) B := ro
                  cases ro' with
                  | some rj =>
                    have zB := rj.fz hzj
                    subst zB
                    exact .some (rj.up f2)
            have nd2 := List.nodup_append.mp w2.nd
            have w4 : Own F2 H2 ((Dn :: A) ++ O3) := w2.sub (List.nodup_append.mpr ⟨nd2.1, w3.nd, fun a x b y e => nd2.2.2 a x b (m3 b y) e⟩) fun b m => by
              rcases List.mem_append.mp m with m | m
              · exact List.mem_append_left _ m
              · exact List.mem_append_right _ (m3 b m)
            refine hQ (.ref Dn) F2 H2 (Dn :: A) O3 ?_ w4 (.lstO h2 hF2 (by rw [hlv]; exact hlen) rl) s3
            refine x1.trans (x2.sub mw fun b m => .inl ?_)
            rcases List.mem_append.mp m with m | m
            · exact List.mem_append_left _ m
            · exact List.mem_append_right _ (m3 b m)
        · cases e
      · cases e
    · cases e
  · cases e
/-- the family within a comprehension's block -/
def Fm.blk (Y : Fm) (scope : Scope) : Fm := { Y with sc := relS scope Y.sc, fn := fun x => scope.names.lookup x == some .cell }
theorem Fm.Is.blk {Y : Fm} {X : Cx} (h : Y.Is X) {scope : Scope} (s : Shared) (H : Hp) (C : Addr) (cl : List (Str × Addr)) (fp : List Addr) : (Y.blk scope).Is (X.blk s H scope (compEnvC scope cl C X.env) fp) where
  prog := h.prog
  w := h.w
  K := h.K
  mg := h.mg
  base := h.base
  N := h.N
  sc := by
    show relS scope X.env.scope = relS scope Y.sc
    rw [h.sc]
  fn := rfl
  calm := h.calm
  room := h.room
  guards := h.guards
  xe := rfl
/-- as a value -/
theorem pd_comp {Y : Fm} {elt tg iter : Expr} {ifs : List Expr} {scope : Scope} {own : List (Str × Nat)} {ts : List Nat} {pos : Pos} {fi g ft fe} (hN : Y.N.Nodup) (hi : ID Y tg iter fi) (ok : BlkOk Y.N Y.sc scope own)
    (hg : GD (Y.blk scope) tg ts g) (ht : TsD (Y.blk scope) ifs ft) (he : PD (Y.blk scope) elt fe)
    (hts : ∀ i ∈ ts, i ∈ own.map (·.2)) (hnd : (own.map (·.2)).Nodup) (hs : ∀ X : Cx, ∀ x, foldedSetIterable iter X.env x = pure x := by intro _ _; rfl) :
    PD Y (.ListComp elt [⟨tg, iter, ifs, 0⟩] scope pos) (eComp (own.map (·.2)) fi g ft fe) := by
  obtain ⟨_, pi, qi⟩ := hi
  obtain ⟨_, pg, qg⟩ := hg
  obtain ⟨_, pt, qt⟩ := ht
  obtain ⟨_, pe, qe⟩ := he
  refine ⟨_, fun X h => pe_lc h.calm (h.nd hN) (pi X h) (by rw [h.N, h.sc]; exact ok) (fun s H C cl fp => pg _ (h.blk s H C cl fp)) (fun s H C cl fp => pt _ (h.blk s H C cl fp)) (fun s H C cl fp => pe _ (h.blk s H C cl fp)) (hs X), comp_core qi qg qt qe hts hnd⟩
/-- name = [..] on one line, the name a local -/
theorem sd_setComp {Y : Fm} {lk : Lks} {i : Nat} {y : Str} {py : Pos} {elt tg iter : Expr} {ifs : List Expr} {scope : Scope} {own : List (Str × Nat)} {ts : List Nat} {pos spos : Pos} {fi g ft fe} (hN : Y.N.Nodup) (hy : Y.N[i]? = some y) (hyl : Y.sc.names.lookup y = some .local)
    (hk : Y.sc.kind = .function) (hl : (py.line == pos.line) = true) (ha : (scope.names.any fun (n, k) => n == y && (k == .local || k == .cell)) = false) (hi : ID Y tg iter fi) (ok : BlkOk Y.N Y.sc scope own)
    (hg : GD (Y.blk scope) tg ts g) (ht : TsD (Y.blk scope) ifs ft) (he : PD (Y.blk scope) elt fe)
    (hts : ∀ i ∈ ts, i ∈ own.map (·.2)) (hnd : (own.map (·.2)).Nodup) (hs : ∀ X : Cx, ∀ x, foldedSetIterable iter X.env x = pure x := by intro _ _; rfl) :
    SD Y (.Assign [.Name y py] (.ListComp elt [⟨tg, iter, ifs, 0⟩] scope pos) spos) lk (sAsg lk [i] (eComp (own.map (·.2)) fi g ft fe) (gdName i)) := by
  obtain ⟨_, pi, qi⟩ := hi
  obtain ⟨_, pg, qg⟩ := hg
  obtain ⟨_, pt, qt⟩ := ht
  obtain ⟨_, pe, qe⟩ := he
  refine ⟨_, fun X h => ps_setLc h.calm (h.nd hN) (h.nm hy) (by rw [h.sc]; exact hyl) (sw_true (by rw [h.sc]; exact hk) (by rw [h.sc]; exact hyl) hl ha) (pi X h) (by rw [h.N, h.sc]; exact ok) (fun s H C cl fp => pg _ (h.blk s H C cl fp)) (fun s H C cl fp => pt _ (h.blk s H C cl fp)) (fun s H C cl fp => pe _ (h.blk s H C cl fp)) (hs X), ds_asg (comp_core qi qg qt qe hts hnd) ?_⟩
  intro F H A O σ E E' v d e w r s Q h
  cases e
  obtain ⟨O', s', w', m⟩ := s.assign (i := i) w r
  exact h _ F H O' Tch.set (Ext.refl.sub (fun b h => h) fun b h => .inr (m b h)) w' s'
end
end Dm

namespace Dm
open PySem PySem.Spec L2
open PyProof.Rows hiding St
/-! ### defs -/
def lkOf (ds : List D) : Lks := fun i => match ds[i]? with | some d => !isFz d | none => false
def outsD : List D → Ev → Option (List D)
  | [], _ => some []
  | d :: ds, e :: E => match outsD ds E with
    | some r => if isFz d = true then some (d :: r) else (match e with | some d' => some (d' :: r) | none => none)
    | none => none
  | _ :: _, [] => none
/-- what a def's body makes of the arguments: the answer, and the arguments behind it -/
def runD (n np : Nat) (b : Lks → Ev → Option Out) (ds : List D) : Option (D × List D) := if ds.length = np then (match b (lkOf ds) (ds.map some ++ List.replicate (n - np) none) with
  | some (.ret d E) => (match outsD ds E with | some os => some (d, os) | none => none)
  | some (.nx E) => (match outsD ds E with | some os => some (.non, os) | none => none)
  | _ => none) else none
abbrev Fs := List D → Option (D × List D)
def SpD (K : PySem.W.Frag) (mg : Md) (g : Fs) (np : Nat) (vs : List V) (H : Hp) (Q : VK) : Prop := ∃ F ds O ret outs, g ds = some (ret, outs) ∧ ds.length = np ∧ Own F H O ∧ RpL K mg F H vs ds O ∧
  ∀ v F' H' A O', Ext F H O F' H' (A ++ O') → Own F' H' (A ++ O') → Rp K mg F' H' v ret A → RpL K mg F' H' vs outs O' → Q v H'
structure FnG (P : Program) (w : World) (K : PySem.W.Frag) (mg : Str → Option Value) (base : Heap) (k : Nat) (f : Addr) (fd : FuncData) (ps : List Str) (g : Fs) : Prop where
  run : ∀ (A : Around) (outer : List Env) (s : Shared) (H : Hp) (args : Args) (us : List Value) (vs : List V) (Q : VK), Room k A → A.guards = some [] → Env0 P w K mg base A outer s H → BindsTo s fd args (ps.zip us) → Vals vs us → SpD K ⟨mg, P, w⟩ g ps.length vs H Q →
    codeAny (model P w) A (.call (.ref f) args) (CR CX0 outer P w H s Q E0) s
section
variable {P : Program} {w : World} {K : PySem.W.Frag} {mg : Str → Option Value} {base : Heap}
theorem FnG.mono {j k : Nat} {f : Addr} {fd : FuncData} {ps : List Str} {g : Fs} (G : FnG P w K mg base j f fd ps g) (h : j ≤ k) : FnG P w K mg base k f fd ps g :=
  ⟨fun A outer s H args us vs Q hr => G.run A outer s H args us vs Q (hr.mono h)⟩
theorem rps_start {md : Md} {F H : Hp} {vs : List V} {ds : List D} {O : List Addr} (n : Nat) (r : RpL K md F H vs ds O) : RpS K md F H (vs.map some ++ List.replicate n none) (ds.map some ++ List.replicate n none) O := by
  have nones : ∀ n : Nat, RpS K md F H (List.replicate n none) (List.replicate n none) [] := by
    intro n
    induction n with
    | zero => exact .nil
    | succ n ih => exact .cons (O1 := []) (O2 := []) .none ih
  have go : ∀ {ds : List D} {vs : List V} {O : List Addr}, RpL K md F H vs ds O → RpS K md F H (vs.map some ++ List.replicate n none) (ds.map some ++ List.replicate n none) O := by
    intro ds
    induction ds with
    | nil => intro vs O h; cases h; exact nones n
    | cons d ds ih =>
      intro vs O h
      cases h with
      | cons h1 h2 => exact .cons (.some h1) (ih h2)
  exact go r
theorem RpS.outs {md : Md} {F H F' H' : Hp} (f : ∀ a o, F a = some o → F' a = some o) : ∀ {ds outs : List D} {vs : List V} {σ : L2.St} {E : Ev} {O O' : List Addr}, RpL K md F H vs ds O → RpS K md F' H' σ E O' → outsD ds E = some outs →
    (∀ (i : Nat) (d : D), ds[i]? = some d → isFz d = false → ∃ v, vs[i]? = some v ∧ σ[i]? = some (some v)) → ∃ O2, RpL K md F' H' vs outs O2 ∧ O2.Sublist O'
  | [], _, _, _, _, _, O', .nil, _, e, _ => by cases e; exact ⟨[], .nil, List.nil_sublist _⟩
  | d :: ds, outs, _, _, [], _, _, _, .nil, e, _ => by cases e
  | d :: ds, outs, _, _, e0 :: E, _, _, .cons (v := v) (vs := vs) h1 h2, .cons (σ := σ) (O1 := P1) (O2 := P2) k1 k2, e, hl => by
    unfold outsD at e
    split at e
    · rename_i r er
      obtain ⟨O2, r2, s2⟩ := RpS.outs f h2 k2 er fun i d hi hz => by
        obtain ⟨v', q1, q2⟩ := hl (i + 1) d (by simpa using hi) hz
        exact ⟨v', by simpa using q1, by simpa using q2⟩
      split at e
      · rename_i z
        cases e
        have zA := h1.fz z
        subst zA
        exact ⟨O2, .cons (O1 := []) (h1.up f) r2, s2.trans (List.sublist_append_right _ _)⟩
      · rename_i z
        split at e
        · rename_i d'
          cases e
          obtain ⟨v', q1, q2⟩ := hl 0 d rfl (by simpa using z)
          simp at q1 q2
          subst q1 q2
          cases k1 with
          | some k1 => exact ⟨P1 ++ O2, .cons k1 r2, List.Sublist.append (List.Sublist.refl _) s2⟩
        · cases e
    · cases e
/-- THE RULE for a def -/
theorem fnG_of {x qual : Str} {st : Stmt} {f : Addr} {fd : FuncData} {N ps : List Str} {k : Nat} {b : Lks → Ev → Option Out} (F : Fun K x qual st f fd) (S : FnScope N ps (defScope st))
    (hb : ∀ lk, SDs ⟨P, w, K, mg, base, N, defScope st, fun _ => true, k⟩ (defBody st) lk (b lk)) : FnG P w K mg base (k + 1) f fd ps (runD N.length ps.length b) := by
  obtain ⟨oc, od, kV, doc, pm, an, cdv, ct, osl, rfl, lkp, hcd⟩ := F.ex
  refine ⟨fun A outer s H args us vs Q hr hg e0 hbd r hsp => ?_⟩
  obtain ⟨F0, ds, O, ret, outs, eg, hds, wO, rl, hQ⟩ := hsp
  have hvl := rl.length
  have hl : vs.length = ps.length := hvl.trans hds
  have KX : K.In s.heap := e0.mod.kin.keeps fun b o e => (e0.bs b o e).1
  have lim : s.heap.NoLimit := e0.mod.nolimit.keeps fun b o e => (e0.bs b o e).1
  have hkind : ∀ y ∈ ps.zip us, (defScope st).names.lookup y.1 = some .local ∨ ((defScope st).names.lookup y.1 = some .cell ∧ ((cellsFrom (s.heap.objs.size + 1) (defScope st).names []).lookup y.1).isSome = true) := by
    rintro ⟨n, v⟩ hy
    exact (S.par n (List.of_mem_zip hy).1).imp id fun q => ⟨q, PySem.W.cellsFrom_some _ _ _ (.inl q)⟩
  refine codeAny_call_function hr.depth (KX _ _ lkp) rfl S.co S.gen rfl (PySem.W.codeRec_of KX hcd) (hbd _ _ _ _ ?_)
  refine wpAny_newFunctionEnv_cells S.kind hkind fun env he s1 x1 => ?_
  subst he
  refine ⟨lim.keeps x1.toInCall.keep, codeAny_func ?_⟩
  generalize hX : (cxOf CX0 P w K mg base N qual (defScope st) f cdv A outer s H E0).nox = X
  obtain ⟨t, p, q⟩ := hb (lkOf ds)
  have hIs : Fm.Is ⟨P, w, K, mg, base, N, defScope st, fun _ => true, k⟩ X := by
    subst hX
    exact ⟨rfl, rfl, rfl, rfl, rfl, rfl, rfl, rfl, rfl, hr.deeper _, hg, rfl⟩
  have I0 : Inv (cxOf CX0 P w K mg base N qual (defScope st) f cdv A outer s H E0) [] (L2.start N vs) H s1 := inv_start S hr.hd e0 hl r x1
  have I : Inv X [] (L2.start N vs) H s1 := by
    subst hX
    exact I0.wish _
  have hbody := p X hIs
  subst hX
  have fin : ∀ {σ' : L2.St} {H' : Hp} {v : V} {u : Value} {s' : Shared}, Inv (cxOf CX0 P w K mg base N qual (defScope st) f cdv A outer s H E0).nox [] σ' H' s' → RelV v u → Q v H' → CE outer P w H s Q u s' :=
    fun {σ' H' v u s'} J rv q => ⟨v, H', J.os, J.bare, J.base, J.hok, rv, q⟩
  have lenN : L2.start N vs = vs.map some ++ List.replicate (N.length - ps.length) none := by
    unfold L2.start
    rw [hl]
  have s0 : RpS K ⟨mg, P, w⟩ F0 H (L2.start N vs) (ds.map some ++ List.replicate (N.length - ps.length) none) O := by
    rw [lenN]
    exact rps_start _ rl
  have locked : ∀ {σ' : L2.St}, Lk (lkOf ds) (L2.start N vs) σ' → ∀ (i : Nat) (d : D), ds[i]? = some d → isFz d = false → ∃ v, vs[i]? = some v ∧ σ'[i]? = some (some v) := by
    intro σ' l i d hi hz
    have hk : lkOf ds i = true := by
      unfold lkOf
      rw [hi]
      show (!isFz d) = true
      rw [hz]; rfl
    obtain ⟨v, B, e1, _, _⟩ := rl.get hi
    refine ⟨v, e1, (l.eq i hk).trans ?_⟩
    rw [lenN]
    have hlt : i < (vs.map some).length := by
      rw [List.length_map]
      exact (List.getElem?_eq_some_iff.mp e1).1
    rw [List.getElem?_append_left hlt, List.getElem?_map, e1]; rfl
  -- what the body's end gives
  unfold runD at eg
  rw [if_pos hds] at eg
  have done : ∀ {v : V} {σ' : L2.St} {F' H' : Hp} {A' O' : List Addr} {d : D} {E' : Ev} {os : List D}, outsD ds E' = some os → some (d, os) = some (ret, outs) → Lk (lkOf ds) (L2.start N vs) σ' → Ext F0 H O F' H' (A' ++ O') → Own F' H' (A' ++ O') → Rp K ⟨mg, P, w⟩ F' H' v d A' → RpS K ⟨mg, P, w⟩ F' H' σ' E' O' → Q v H' := by
    intro v σ' F' H' A' O' d E' os eo er l x w' rd s'
    cases er
    obtain ⟨O2, r2, sb⟩ := RpS.outs x.fle rl s' eo (locked l)
    have nd := List.nodup_append.mp w'.nd
    have sub : ∀ b ∈ A' ++ O2, b ∈ A' ++ O' := fun b m => by
      rcases List.mem_append.mp m with m | m
      · exact List.mem_append_left _ m
      · exact List.mem_append_right _ (sb.subset m)
    refine hQ v F' H' A' O2 (x.sub (fun _ m => m) fun b m => .inl (sub b m)) (w'.sub (List.nodup_append.mpr ⟨nd.1, nd.2.1.sublist sb, fun a y b z e => nd.2.2 a y b (sb.subset z) e⟩) sub) rd r2
  refine wpAny_mono (hbody.run [] s1 (L2.start N vs) H { nx := fun _ H' => Q .non H', rt := Q } I ?_) (fun fl s' hs => ?_) fun e s' hs => False.elim hs
  · split at eg
    · rename_i d E' eb
      split at eg
      · rename_i os eo
        exact q F0 H O _ _ _ eb wO s0 _ fun v σ' F' H' A' O' l x w' rd s' => done eo eg l x w' rd s'
      · cases eg
    · rename_i E' eb
      split at eg
      · rename_i os eo
        exact q F0 H O _ _ _ eb wO s0 _ fun σ' F' H' O' l x w' s' => done (A' := []) eo eg l x w' .non s'
      · cases eg
    · cases eg
  · cases fl with
    | ret u =>
      obtain ⟨v, σ', H', J, rv, z⟩ := hs
      exact fin J rv z
    | next =>
      obtain ⟨σ', H', J, z⟩ := hs
      exact fin (v := V.non) (u := Value.none) J rfl z
    | brk =>
      obtain ⟨_, _, _, z⟩ := hs
      exact False.elim z
    | cont =>
      obtain ⟨_, _, _, z⟩ := hs
      exact False.elim z
end

/-! ### calls: an argument is a slot (handed on by itself) or a value -/
abbrev ArgV := Sum Nat D
section
variable (K : PySem.W.Frag) (mg : Md)
inductive RpX (F H : Hp) (σ : L2.St) : List V → List ArgV → List Addr → Prop
  | nil : RpX F H σ [] [] []
  | slot {i : Nat} {v : V} {vs : List V} {as : List ArgV} {A : List Addr} : σ[i]? = some (some v) → RpX F H σ vs as A → RpX F H σ (v :: vs) (.inl i :: as) A
  | temp {v : V} {d : D} {vs : List V} {as : List ArgV} {A1 A2 : List Addr} : Rp K mg F H v d A1 → RpX F H σ vs as A2 → RpX F H σ (v :: vs) (.inr d :: as) (A1 ++ A2)
def Dx (t : TA) (f : Ev → Option (List ArgV × Ev)) : Prop := ∀ (F H : Hp) (O : List Addr) (σ : L2.St) (E : Ev) (as : List ArgV) (E' : Ev), f E = some (as, E') → Own F H O → RpS K mg F H σ E O →
  ∀ Q : List V → Hp → Prop, (∀ vs F' H' A O', Ext F H O F' H' (A ++ O') → Own F' H' (A ++ O') → RpX K mg F' H' σ vs as A → RpS K mg F' H' σ E' O' → Q vs H') → t σ H Q
end
def PX (Y : Fm) (es : List Expr) (f : Ev → Option (List ArgV × Ev)) : Prop := ∃ t, (∀ X, Y.Is X → PA X es t) ∧ Dx Y.K Y.mg t f
def xNil : Ev → Option (List ArgV × Ev) := fun E => some ([], E)
def xSlot (i : Nat) (g : Ev → Option (List ArgV × Ev)) : Ev → Option (List ArgV × Ev) := fun E => match E[i]? with | some (some _) => (match g E with | some (as, E1) => some (.inl i :: as, E1) | none => none) | _ => none
def xVal (f : Ev → Option (D × Ev)) (g : Ev → Option (List ArgV × Ev)) : Ev → Option (List ArgV × Ev) := fun E => match f E with | some (d, E1) => (match g E1 with | some (as, E2) => some (.inr d :: as, E2) | none => none) | none => none
def gather : List ArgV → Ev → Option (List D × Ev)
  | [], E => some ([], E)
  | .inr d :: r, E => match gather r E with | some (ds, E') => some (d :: ds, E') | none => none
  | .inl i :: r, E => match E[i]? with
    | some (some d) => if isFz d = true then (match gather r E with | some (ds, E') => some (d :: ds, E') | none => none) else (match gather r (E.set i none) with | some (ds, E') => some (d :: ds, E') | none => none)
    | _ => none
def putBack : List ArgV → List D → Ev → Ev
  | .inr _ :: r, _ :: os, E => putBack r os E
  | .inl i :: r, o :: os, E => putBack r os (E.set i (some o))
  | _, _, E => E
def eCall (g : Fs) (fx : Ev → Option (List ArgV × Ev)) : Ev → Option (D × Ev) := fun E => match fx E with
  | some (as, E1) => (match gather as E1 with
    | some (ds, E2) => (match g ds with | some (ret, outs) => some (ret, putBack as outs E2) | none => none)
    | none => none)
  | none => none
section
variable {K : PySem.W.Frag} {mg : Md} {F H F' H' : Hp} {O O' A B : List Addr} {σ : L2.St}
theorem RpX.ext (x : Ext F H O F' H' O') : ∀ {as : List ArgV} {vs : List V} {A : List Addr}, RpX K mg F H σ vs as A → (∀ a ∈ A, a ∉ O) → RpX K mg F' H' σ vs as A
  | _, _, _, .nil, _ => .nil
  | _, _, _, .slot e h, n => .slot e (RpX.ext x h n)
  | _, _, _, .temp r h, n => .temp (r.ext x fun b m => n b (List.mem_append_left _ m)) (RpX.ext x h fun b m => n b (List.mem_append_right _ m))
theorem px_nil {Y : Fm} : PX Y [] xNil := ⟨_, fun _ _ => pa_nil, fun F H O σ E as E' e w s Q hQ => by cases e; exact hQ [] F H [] O Ext.refl w .nil s⟩
theorem px_slot {Y : Fm} {i : Nat} {x : Str} {px : Pos} {es : List Expr} {g} (hN : Y.N[i]? = some x) (hv : Vis Y.sc x) (h' : PX Y es g) (hd : (x == ("__debug__" : Str)) = false := by decide) (hcd : (x == ("__classdict__" : Str)) = false := by decide)
    (hs : ∀ X : Cx, starEach (.Name x px :: es) X.env = (false, eval (.Name x px) X.env) :: starEach es X.env := by intro _; rfl) : PX Y (.Name x px :: es) (xSlot i g) := by
  obtain ⟨_, p', q'⟩ := h'
  refine ⟨_, fun X h => pa_cons (pe_var (h.nm hN) (h.vis hv) hd hcd) (p' X h) (hs X), fun F H O σ E as E' e w s Q hQ => ?_⟩
  unfold xSlot at e
  split at e
  · rename_i d0 e0
    split at e
    · rename_i as' E1 eg
      cases e
      obtain ⟨v, A0, es0, _⟩ := s.get w e0
      exact ⟨v, es0, q' F H O σ E as' _ eg w s _ fun vs F1 H1 A O1 x1 w1 r1 s1 => hQ (v :: vs) F1 H1 A O1 x1 w1 (.slot es0 r1) s1⟩
    · cases e
  · cases e
theorem px_val {Y : Fm} {e : Expr} {es : List Expr} {f g} (h : PD Y e f) (h' : PX Y es g) (hs : ∀ X : Cx, starEach (e :: es) X.env = (false, eval e X.env) :: starEach es X.env := by intro _; rfl) : PX Y (e :: es) (xVal f g) := by
  obtain ⟨_, p, q⟩ := h
  obtain ⟨_, p', q'⟩ := h'
  refine ⟨_, fun X h => pa_cons (p X h) (p' X h) (hs X), fun F H O σ E as E' e w s Q hQ => ?_⟩
  unfold xVal at e
  split at e
  · rename_i d E1 ed
    split at e
    · rename_i as' E2 eg
      cases e
      refine q F H O σ E d E1 ed w s _ fun v F1 H1 A O1 x1 w1 r1 s1 => q' F1 H1 O1 σ E1 as' _ eg w1.right s1 _ fun vs F2 H2 B O2 x2 w2 r2 s2 => ?_
      refine hQ (v :: vs) F2 H2 (A ++ B) O2 ?_ ?_ (.temp (r1.ext x2 w1.apart) r2) s2
      · rw [List.append_assoc]; exact x1.trans (x2.frame w1)
      · rw [List.append_assoc]; exact w1.frame x2 w2
    · cases e
  · cases e
theorem RpS.pull : ∀ {E : Ev} {σ : L2.St} {O : List Addr} {i : Nat} {d : D}, RpS K mg F H σ E O → E[i]? = some (some d) → ∃ v A O', σ[i]? = some (some v) ∧ Rp K mg F H v d A ∧ RpS K mg F H σ (E.set i none) O' ∧ (A ++ O').Perm O
  | _, _, _, i, d, .nil, e => by simp at e
  | _, _, _, 0, d, .cons (O1 := P1) (O2 := P2) h1 h2, e => by
    simp at e
    subst e
    cases h1 with
    | some r => exact ⟨_, P1, P2, rfl, r, .cons (O1 := []) .none h2, List.Perm.refl _⟩
  | _, _, _, i + 1, d, .cons (O1 := P1) (O2 := P2) h1 h2, e => by
    obtain ⟨v, A, O', es, r, s, p⟩ := RpS.pull (i := i) h2 (by simpa using e)
    refine ⟨v, A, P1 ++ O', by simpa using es, r, .cons h1 s, ?_⟩
    have p1 : (A ++ (P1 ++ O')).Perm (P1 ++ (A ++ O')) := by
      rw [← List.append_assoc, ← List.append_assoc]
      exact List.Perm.append_right O' List.perm_append_comm
    exact p1.trans (List.Perm.append_left P1 p)
theorem gather_ok : ∀ {as : List ArgV} {vs : List V} {A O : List Addr} {E E2 : Ev} {ds : List D}, RpX K mg F H σ vs as A → RpS K mg F H σ E O → gather as E = some (ds, E2) →
    ∃ B O2, RpL K mg F H vs ds B ∧ RpS K mg F H σ E2 O2 ∧ (B ++ O2).Perm (A ++ O)
  | [], _, _, O, E, E2, ds, .nil, s, e => by cases e; exact ⟨[], O, .nil, s, List.Perm.refl _⟩
  | .inr d :: as, _, _, O, E, E2, ds, .temp (A1 := A1) (A2 := A2) r h, s, e => by
    unfold gather at e
    split at e
    · rename_i ds' E' eg
      cases e
      obtain ⟨B, O2, r2, s2, p⟩ := gather_ok h s eg
      refine ⟨A1 ++ B, O2, .cons r r2, s2, ?_⟩
      rw [List.append_assoc, List.append_assoc]
      exact List.Perm.append_left A1 p
    · cases e
  | .inl i :: as, _, A, O, E, E2, ds, .slot (v := v) (vs := vs) ev h, s, e => by
    unfold gather at e
    split at e
    · rename_i d ed
      split at e
      · rename_i hz
        split at e
        · rename_i ds' E' eg
          cases e
          obtain ⟨v', A', O', es, r, _, _⟩ := s.pull ed
          rw [ev] at es
          cases es
          have zA := r.fz hz
          subst zA
          obtain ⟨B, O2, r2, s2, p⟩ := gather_ok h s eg
          exact ⟨B, O2, .cons (O1 := []) r r2, s2, p⟩
        · cases e
      · split at e
        · rename_i ds' E' eg
          cases e
          obtain ⟨v', A', O', es, r, s', p'⟩ := s.pull ed
          rw [ev] at es
          cases es
          obtain ⟨B, O2, r2, s2, p⟩ := gather_ok h s' eg
          refine ⟨A' ++ B, O2, .cons r r2, s2, ?_⟩
          have p1 : (A' ++ (A ++ O')).Perm (A ++ (A' ++ O')) := by
            rw [← List.append_assoc, ← List.append_assoc]
            exact List.Perm.append_right O' List.perm_append_comm
          rw [List.append_assoc]
          exact (List.Perm.append_left A' p).trans (p1.trans (List.Perm.append_left A p'))
        · cases e
    · cases e
theorem putBack_ok : ∀ {as : List ArgV} {vs : List V} {A C O : List Addr} {E : Ev} {os : List D} {Fx Hx : Hp}, RpX K mg Fx Hx σ vs as A → RpL K mg F H vs os C → RpS K mg F H σ E O → Own F H (C ++ O) →
    ∃ O', RpS K mg F H σ (putBack as os E) O' ∧ Own F H O' ∧ ∀ a ∈ O', a ∈ C ++ O
  | [], _, _, _, O, E, os, _, _, h, r, s, w => by
    cases h
    cases r
    exact ⟨O, s, w, fun _ m => m⟩
  | .inr d :: as, _, _, _, O, E, _, _, _, .temp r h, .cons (O1 := C1) (O2 := C2) (ds := os) r1 r2, s, w => by
    rw [List.append_assoc] at w
    obtain ⟨O', s', w', m⟩ := putBack_ok h r2 s w.right
    refine ⟨O', s', w', fun a q => ?_⟩
    rw [List.append_assoc]
    exact List.mem_append_right _ (m a q)
  | .inl i :: as, _, _, _, O, E, _, _, _, .slot ev h, .cons (O1 := C1) (O2 := C2) (ds := os) r1 r2, s, w => by
    have pm : ((C1 ++ C2) ++ O).Perm (C2 ++ (C1 ++ O)) := by
      rw [← List.append_assoc C2 C1 O]
      exact List.Perm.append_right O List.perm_append_comm
    have w2 := w.perm pm
    obtain ⟨O1, s1, w1, m1⟩ := s.assign (i := i) w2.right r1
    rw [set_same ev] at s1
    have w3 : Own F H (C2 ++ O1) := w2.frame (Ext.refl.sub (fun b h => h) fun b h => .inr (m1 b h)) w1
    obtain ⟨O', s', w', m⟩ := putBack_ok h r2 s1 w3
    refine ⟨O', s', w', fun a q => pm.mem_iff.mpr ?_⟩
    rcases List.mem_append.mp (m a q) with z | z
    · exact List.mem_append_left _ z
    · exact List.mem_append_right _ (m1 a z)
/-- what a call gives, by what the def keeps -/
theorem call_core {t : TA} {g : Fs} {n : Nat} {fx} (hlen : ∀ ds r, g ds = some r → ds.length = n) (q : Dx K mg t fx) : De K mg (fun σ H Q => t σ H fun vs H1 => SpD K mg g n vs H1 Q) (eCall g fx) := by
  intro F H O σ E d E' ec w s Q hQ
  unfold eCall at ec
  split at ec
  · rename_i as E1 ea
    split at ec
    · rename_i ds E2 eg
      split at ec
      · rename_i ret outs er
        cases ec
        refine q F H O σ E as E1 ea w s _ fun vs F1 H1 A O1 x1 w1 r1 s1 => ?_
        obtain ⟨B, O2, r2, s2, pm⟩ := gather_ok r1 s1 eg
        have w2 := w1.perm pm.symm
        refine ⟨F1, ds, B, d, outs, er, hlen ds _ er, w2.left, r2, fun v F3 H3 A3 O3 x3 w3 rv ro => ?_⟩
        have w2' := w2.swap
        have w4 := w2'.frame x3 w3
        have s4 := s2.ext x3 w2'.apart
        have x4 : Ext F1 H1 (A ++ O1) F3 H3 (O2 ++ (A3 ++ O3)) := (x3.frame w2').perm (List.perm_append_comm.trans pm) (List.Perm.refl _)
        have pm2 : (O2 ++ (A3 ++ O3)).Perm (A3 ++ (O3 ++ O2)) := by
          refine List.perm_append_comm.trans ?_
          rw [List.append_assoc]
        have w5 := w4.perm pm2
        obtain ⟨O', s', w', m⟩ := putBack_ok r1 ro s4 w5.right
        refine hQ v F3 H3 A3 O' ?_ (w5.frame (Ext.refl.sub (fun b h => h) fun b h => .inr (m b h)) w') rv s'
        refine (x1.trans (x4.perm (List.Perm.refl _) pm2)).sub (fun _ m => m) fun b mb => .inl ?_
        rcases List.mem_append.mp mb with z | z
        · exact List.mem_append_left _ z
        · exact List.mem_append_right _ (m b z)
      · cases ec
    · cases ec
  · cases ec
/-- a call of a def of the module -/
theorem pd_call {Y : Fm} {f : Addr} {fd : FuncData} {ps : List Str} {g : Fs} {x : Str} {p pos : Pos} {e : Expr} {es : List Expr} {fx} (G : FnG Y.prog Y.w Y.K Y.mgf Y.base Y.k f fd ps g) (hg : GlY Y x) (hm : Y.mg x = some (.ref f)) (hk : PySem.W.keepIn Y.K (.ref f) = true) (hb : Binds Y.K fd ps [])
    (ha : PX Y (e :: es) fx) (hdb : (x == ("__debug__" : Str)) = false := by decide) (he : ∀ X : Cx, starEach (e :: es) X.env = (false, eval e X.env) :: starEach es X.env := by intro _; rfl) (hpl : ∀ X : Cx, (backTo pos (starEach es X.env)).any (·.1) = false := by intro _; rfl)
    (hlen : ∀ ds r, g ds = some r → ds.length = ps.length) : PD Y (.Call (.Name x p) (e :: es) [] pos) (eCall g fx) := by
  obtain ⟨t, pa, q⟩ := ha
  refine ⟨fun σ H Q => t σ H fun vs H1 => SpD Y.K Y.mg g ps.length vs H1 Q, fun X h => ⟨fun pins s σ H Q I hw => ?_⟩, call_core hlen q⟩
  · refine wpAny_Call_Name_kw (ld_glob I (h.gl hg) (h.mgN hm) ?_ hdb)
    refine PySem.W.callWith_K (h₀ := X.base) I.ok.mod.kin (by rw [h.K]; exact hk) (thn ((pa X h).run pos pins s σ H _ I hw) fun us s1 ⟨vs, H1, I1, r1, q1⟩ => ⟨I1.kIn, ?_⟩) (he X) (hpl X)
    have hl : (us ++ []).length = ps.length := by
      obtain ⟨F, ds, O, ret, outs, eg, hds, _, rl, _⟩ := q1
      rw [List.append_nil, ← r1.length, rl.length, hds]
    have hb' := hb s1 us (by rw [← h.K]; exact I1.kIn) hl
    rw [List.append_nil] at hb'
    have e0 : Env0 Y.prog Y.w Y.K Y.mg Y.base X.A X.stack s1 H1 := by
      have z := I1.env0
      rw [h.prog, h.w, h.K, h.mg, h.base] at z
      exact z
    have run := G.run X.A X.stack s1 H1 ⟨us, []⟩ us vs Q h.room h.guards e0 hb' r1 q1
    have run' : codeAny (model X.prog X.w) X.A (.call (.ref f) ⟨us, []⟩) (CR CX0 X.stack X.prog X.w H1 s1 Q E0) s1 := by
      rw [h.prog, h.w]; exact run
    refine wpAny_call (codeAny_mono run' fun r s' hq => ?_)
    cases r with
    | error e => exact False.elim hq
    | ok fl =>
      cases fl with
      | ret u => exact I1.after hq
      | next => exact False.elim hq
      | brk => exact False.elim hq
      | cont => exact False.elim hq
end
end Dm

namespace Dm
open PySem PySem.Spec L2
open PyProof.Rows hiding St
/-! ### enumerate and zip over lists and tuples in any mix -/
inductive Kd where
  | lst | tup
def SqK (K : PySem.W.Frag) : Kd → Hp → Addr → List V → Prop
  | .lst => SqL K
  | .tup => SqT K
def IsItK : Kd → Heap → Addr → Addr → Nat → Prop
  | .lst => fun h it a i => h.IsListIter it a i
  | .tup => fun h it a i => h.IsTupleIter it a i
def IsSqK : Kd → Heap → Addr → Array Value → Prop
  | .lst => fun h a xs => h.IsList a xs
  | .tup => fun h a xs => h.IsTuple a xs
def itO : Kd → Addr → Obj
  | .lst => fun a => { cls := .type "list_iterator", data := .fields #[.ref a, .int 0 0] }
  | .tup => fun a => { cls := .type "tuple_iterator", data := .fields #[.ref a, .int 0 0] }
theorem drawsK {prog : Program} {w : World} {A : Around} (hh : A.handled = none) (k : Kd) (it a : Addr) (hne : a ≠ it) (items : Array Value) :
    Draws prog w A it [it, a] items.size (fun i v => items[i]? = some v) (fun i h => IsItK k h it a i ∧ IsSqK k h a items) := by
  cases k
  · exact Draws.list hh it a hne items
  · exact Draws.tuple hh it a hne items
theorem beginsK (k : Kd) (a : Addr) (items : Array Value) : Begins (.ref a) (itO k a) fun h => IsSqK k h a items := by
  cases k
  · exact begins_list a items
  · exact begins_tuple a items
theorem itO_is {k : Kd} {h : Heap} {it a : Addr} (e : h.get? it = some (itO k a)) : IsItK k h it a 0 := by
  cases k
  · exact ⟨_, e, rfl, rfl⟩
  · exact ⟨_, e, rfl, rfl⟩
theorem IsItK.obj {k : Kd} {h : Heap} {it a : Addr} {i : Nat} (x : IsItK k h it a i) : ∃ o, h.get? it = some o ∧ ∀ v, o.data ≠ .cell v := by
  cases k
  · obtain ⟨o, e, _, d⟩ := x; exact ⟨o, e, fun v q => by rw [d] at q; cases q⟩
  · obtain ⟨o, e, _, d⟩ := x; exact ⟨o, e, fun v q => by rw [d] at q; cases q⟩
theorem IsItK.at {k : Kd} {h h' : Heap} {it a : Addr} {i : Nat} (x : IsItK k h it a i) (q : ∀ o, h.get? it = some o → h'.get? it = some o) : IsItK k h' it a i := by
  cases k
  · obtain ⟨o, e, c, d⟩ := x; exact ⟨o, q o e, c, d⟩
  · obtain ⟨o, e, c, d⟩ := x; exact ⟨o, q o e, c, d⟩
section
variable {X : Cx} {pins : List (Addr × Obj)} {σ : L2.St} {H : Hp} {s : Shared}
theorem inv_sq {k : Kd} {a : Addr} {xs : List V} (I : Inv X pins σ H s) (h : SqK X.K k H a xs) : ∃ its : List Value, Vals xs its ∧ IsSqK k s.heap a its.toArray ∧ xs.length ≤ sizeLine := by
  cases k
  · obtain ⟨its, r, p, z⟩ := I.list h; exact ⟨its, r, p.isList, z⟩
  · obtain ⟨its, r, p, z⟩ := I.tuple h; exact ⟨its, r, p, z⟩
theorem sq_inj {k : Kd} {a : Addr} {xs ys : List V} (I : Inv X pins σ H s) (h : SqK X.K k H a xs) (h' : SqK X.K k H a ys) : xs = ys := by
  cases k
  · exact I.list_inj h h'
  · exact I.tuple_inj h h'
theorem IsSqK.lt {k : Kd} {h : Heap} {a : Addr} {xs : Array Value} (x : IsSqK k h a xs) : a < h.objs.size := by
  cases k
  · obtain ⟨o, e, _⟩ := x; exact Heap.lt_size e
  · obtain ⟨o, e, _⟩ := x; exact Heap.lt_size e
end
theorem SqK.up {K : PySem.W.Frag} {k : Kd} {H H' : Hp} {a : Addr} {xs : List V} (f : ∀ b o, H b = some o → H' b = some o) (h : SqK K k H a xs) : SqK K k H' a xs := by
  cases k
  · exact SqL.up f h
  · exact SqT.up f h
/-- what leads an iterator of new tuples through one turn: the library's walk, and what its tuple is to the one who walks -/
def Led (X : Cx) (tg : Expr) (J : It) (fp : List Addr) (it : Addr) (tn : Nat → Heap → Prop) (i : Nat) (s : Shared) (H : Hp) : Prop :=
  ∃ n wr fps Y St, GoesN X.prog X.w X.A tg it fps wr n Y St ∧ St i s.heap ∧ wr ⊆ fp ∧ (∀ h, St (i + 1) h → tn (i + 1) h) ∧ (J.stop i H → i = n) ∧
    (J.go i H → i < n ∧ ∀ v h', Y i s.heap v h' → ∃ T xs, v = .ref T ∧ s.heap.objs.size ≤ T ∧ ObjOk X.prog X.w (upd H T (.tup xs)) h' T (.tup xs) ∧ (H T = none → J.yld i H (.ref T) (upd H T (.tup xs))))
theorem turn_by {P : Program} {w : World} {K : PySem.W.Frag} {tg : Expr} {J : It} {fp : List Addr} {it : Addr} {tn : Nat → Heap → Prop} (mem : it ∈ fp) (obj : ∀ i h, tn i h → ∀ b ∈ fp, ∃ o, h.get? b = some o ∧ ∀ v, o.data ≠ .cell v)
    (keep : ∀ i h h', tn i h → (∀ b ∈ fp, ∀ o, h.get? b = some o → h'.get? b = some o) → tn i h') (self : ∀ (A : Around) (i : Nat) (s : Shared) (Q : Value → Shared → Prop) (E : Value → Shared → Prop), tn i s.heap → Q (.ref it) s → wpAny (model P w) A (pyIter (.ref it)) Q E s)
    (led : ∀ X : Cx, X.prog = P → X.w = w → X.K = K → X.calm = true → ∀ i pins s σ H, Inv X pins σ H s → tn i s.heap → J.go i H ∨ J.stop i H → Led X tg J fp it tn i s H) : Turn P w K tg J fp it tn := by
  refine ⟨mem, obj, keep, fun X eP ew eK hc i pins s σ H E I free st go => ?_, fun X eP ew eK hc i pins s σ H E I free st stop => ?_, self⟩
  · obtain ⟨n, wr, fps, Y, St, G, here, sub, next, _, turn⟩ := led X eP ew eK hc i pins s σ H I st (.inl go)
    obtain ⟨lt, gives⟩ := turn go
    rw [← eP, ← ew]
    refine G.goes i s _ E lt here fun v h' tk y st' kept _ => ?_
    obtain ⟨T, xs, rfl, new, ok, yields⟩ := gives v h' y
    refine ⟨.ref T, _, I.turnedNew (fun b o nb e => kept b o (fun m => nb (sub m)) e) free new ok, rfl, yields (I.hok.fresh new), next _ st', fun b mb => ?_⟩
    obtain ⟨o, e, _⟩ := obj i _ st b mb
    rw [upd_ne (Nat.ne_of_lt (Nat.lt_of_lt_of_le (Heap.lt_size e) new))]
    exact (free b mb).1
  · obtain ⟨n, wr, fps, Y, St, G, here, sub, _, last, _⟩ := led X eP ew eK hc i pins s σ H I st (.inr stop)
    cases last stop
    rw [← eP, ← ew]
    exact G.stops s (Inv X pins σ H) E here fun h' tk kept _ => I.turnedL (fun b o nb e => kept b o (fun m => nb (sub m)) e) free
theorem apart_it {k : Kd} {a it : Addr} {h : Heap} {i : Nat} {its : Array Value} (x : IsItK k h it a i) (y : IsSqK k h a its) : a ≠ it := fun e => by
  subst e
  cases k <;> (obtain ⟨_, e1, c1, _⟩ := x; obtain ⟨_, e2, c2, _⟩ := y; cases e1.symm.trans e2; exact absurd (c1.symm.trans c2) (by decide))
/-- the numbered items of a list or tuple -/
def Ien (K : PySem.W.Frag) (k : Kd) (c : Int) (a : Addr) : It where
  go i H := ∃ xs x, SqK K k H a xs ∧ xs[i]? = some x
  yld i H v H' := ∃ T x, v = .ref T ∧ H T = none ∧ H' = upd H T (.tup [.int (c + (i : Nat)), x]) ∧ ∀ xs, SqK K k H a xs → xs[i]? = some x
  stop i H := ∃ xs, SqK K k H a xs ∧ xs.length = i
theorem turn_enumK {P : Program} {w : World} {K : PySem.W.Frag} {elts : List Expr} {kk : Nat} {tpos : Pos} (k : Kd) (c : Int) (a e it : Addr) (hea : e ≠ a) (hei : e ≠ it) :
    Turn P w K (.Tuple elts kk tpos) (Ien K k c a) [e, it] e (fun i h => (∃ old, IsEnum h e it (c + ((i : Nat) : Int)) old) ∧ IsItK k h it a i) := by
  refine turn_by (by simp) (fun i h st => ?_) (fun i h h' st kp => ⟨let ⟨old, x⟩ := st.1; ⟨old, kp e (by simp) _ x⟩, st.2.at (kp it (by simp))⟩) (fun A i s Q E st q => let ⟨_, x⟩ := st.1; wpAny_pyIter_enum x q) ?_
  · obtain ⟨⟨old, x⟩, y⟩ := st
    simp only [List.mem_cons, List.not_mem_nil, or_false, forall_eq_or_imp, forall_eq]
    exact ⟨⟨_, x, fun _ q => nomatch q⟩, y.obj⟩
  · rintro X rfl rfl rfl hc i pins s σ H I ⟨en, itr⟩ goes
    obtain ⟨xs, hq⟩ : ∃ xs, SqK X.K k H a xs := by rcases goes with ⟨xs, _, q, _⟩ | ⟨xs, q, _⟩ <;> exact ⟨xs, q⟩
    obtain ⟨its, rv, p, _⟩ := inv_sq I hq
    have far := apart_it itr p
    refine ⟨_, _, _, _, _, GoesN.enumFrom c (drawsK (A := X.A.in1) (I.ok.hd hc) k it a far its.toArray) e hei (by simp [hei, hea]) (by simp), ⟨en, itr, p⟩, by simp, fun h st => ⟨st.1, st.2.1⟩, fun ⟨ys, hy, l⟩ => ?_, fun ⟨ys, x, hy, ex⟩ => ?_⟩
    · rw [List.size_toArray, ← rv.length, ← sq_inj I hy hq, l]
    · cases sq_inj I hy hq
      obtain ⟨u, eu, ru⟩ := rv.get ex
      refine ⟨by simpa using (List.getElem?_eq_some_iff.mp eu).1, fun v h' ⟨T, t, x', ev, new, ex', tup⟩ => ⟨T, [.int (c + (i : Nat)), x], ev, new, ⟨by show 2 ≤ sizeLine; decide, [.int (c + (i : Nat)) t, u], .cons ⟨_, rfl⟩ (.cons ru .nil), ?_⟩, fun none => ⟨T, x, rfl, none, rfl, fun zs hz => by rw [sq_inj I hz hq]; exact ex⟩⟩⟩
      cases (show some u = some x' by rw [← eu]; simpa using ex')
      exact tup
/-- two lists or tuples side by side -/
def Izp (K : PySem.W.Frag) (k1 k2 : Kd) (a b : Addr) : It where
  go i H := ∃ xs ys x y, SqK K k1 H a xs ∧ SqK K k2 H b ys ∧ xs[i]? = some x ∧ ys[i]? = some y
  yld i H v H' := ∃ T x y, v = .ref T ∧ H T = none ∧ H' = upd H T (.tup [x, y]) ∧ (∀ xs, SqK K k1 H a xs → xs[i]? = some x) ∧ ∀ ys, SqK K k2 H b ys → ys[i]? = some y
  stop i H := ∃ xs ys, SqK K k1 H a xs ∧ SqK K k2 H b ys ∧ min xs.length ys.length = i
theorem turn_zipK {P : Program} {w : World} {K : PySem.W.Frag} {elts : List Expr} {kk : Nat} {tpos : Pos} (k1 k2 : Kd) {a b z TI TO i1 i2 : Addr} (S : ZipSep2 z TI TO i1 i2 [i1, a] [i2, b]) :
    Turn P w K (.Tuple elts kk tpos) (Izp K k1 k2 a b) [z, TI, TO, i1, i2] z (fun i h => IsZip h z TI TO .none ∧ IsTupOf2 h TI (.ref i1) (.ref i2) ∧ (∃ x y, IsTupOf2 h TO x y) ∧ IsItK k1 h i1 a i ∧ IsItK k2 h i2 b i) := by
  refine turn_by (by simp) (fun i h st => ?_) (fun i h h' st kp => ?_) (fun A i s Q E st q => wpAny_pyIter_zip st.1 q) ?_
  · obtain ⟨x1, x2, ⟨_, _, x3⟩, x4, x5⟩ := st
    simp only [List.mem_cons, List.not_mem_nil, or_false, forall_eq_or_imp, forall_eq]
    exact ⟨⟨_, x1, fun _ q => nomatch q⟩, ⟨_, x2, fun _ q => nomatch q⟩, ⟨_, x3, fun _ q => nomatch q⟩, x4.obj, x5.obj⟩
  · obtain ⟨x1, x2, ⟨u, v, x3⟩, x4, x5⟩ := st
    exact ⟨kp z (by simp) _ x1, kp TI (by simp) _ x2, ⟨u, v, kp TO (by simp) _ x3⟩, x4.at (kp i1 (by simp)), x5.at (kp i2 (by simp))⟩
  · rintro X rfl rfl rfl hc i pins s σ H I ⟨x1, x2, x3, x4, x5⟩ goes
    obtain ⟨xs, ys, hx, hy⟩ : ∃ xs ys, SqK X.K k1 H a xs ∧ SqK X.K k2 H b ys := by rcases goes with ⟨xs, ys, _, _, p, q, _⟩ | ⟨xs, ys, p, q, _⟩ <;> exact ⟨xs, ys, p, q⟩
    obtain ⟨us, ru, pu, _⟩ := inv_sq I hx
    obtain ⟨vs, rv, pv, _⟩ := inv_sq I hy
    refine ⟨_, _, _, _, _, GoesN.zip2 S (drawsK (A := X.A.in1) (I.ok.hd hc) k1 i1 a (apart_it x4 pu) us.toArray) (drawsK (A := X.A.in1) (I.ok.hd hc) k2 i2 b (apart_it x5 pv) vs.toArray), ⟨x1, x2, x3, ⟨x4, pu⟩, x5, pv⟩, fun c m => ?_, fun h st => ⟨st.1, st.2.1, st.2.2.1, st.2.2.2.1.1, st.2.2.2.2.1⟩, fun ⟨l, m, hl, hm, e⟩ => ?_, fun ⟨l, m, x, y, hl, hm, ex, ey⟩ => ?_⟩
    · simp only [List.mem_cons, List.not_mem_nil, or_false] at m ⊢
      rcases m with m | m | m | m <;> simp [m]
    · rw [List.size_toArray, List.size_toArray, ← ru.length, ← rv.length, ← sq_inj I hl hx, ← sq_inj I hm hy, e]
    · cases sq_inj I hl hx
      cases sq_inj I hm hy
      obtain ⟨u, eu, r1⟩ := ru.get ex
      obtain ⟨v, ev, r2⟩ := rv.get ey
      refine ⟨Nat.lt_min.mpr ⟨by simpa using (List.getElem?_eq_some_iff.mp eu).1, by simpa using (List.getElem?_eq_some_iff.mp ev).1⟩, fun t h' ⟨T, p, q, et, new, ep, eq, tup⟩ => ⟨T, [x, y], et, new, ⟨by show 2 ≤ sizeLine; decide, [u, v], .cons r1 (.cons r2 .nil), ?_⟩, fun none => ⟨T, x, y, rfl, none, rfl, fun zs hz => by rw [sq_inj I hz hx]; exact ex, fun zs hz => by rw [sq_inj I hz hy]; exact ey⟩⟩⟩
      cases (show some u = some p by rw [← eu]; simpa using ep)
      cases (show some v = some q by rw [← ev]; simpa using eq)
      exact tup
/-! the calls -/
set_option maxHeartbeats 1000000 in
theorem meets_enum1 {v : Value} {o : Obj} {H : Heap → Prop} (B : Begins v o H) :
    Meets (Builtin.«enumerate.__new__» ⟨[.type "enumerate", v], []⟩) (fun _ R s => H s.heap ∧
      R (.ok (.ret (.ref (s.heap.push o).objs.size))) { s with heap := (s.heap.push o).push { cls := .type "enumerate", data := .fields #[.none, .bool false, .ref s.heap.objs.size, rawInt 0, .none, .none] } }) :=
  .of_wp fun prog w A R s h => by
    obtain ⟨hp, g, d, tk, os⟩ := s; obtain ⟨h1, h⟩ := h
    have hsub := sub_enumerate
    have q1 : ∀ {A' : Around} {E : Value → Shared → Prop} {Q : Value → Shared → Prop}, Q (.ref hp.objs.size) ⟨hp.push o, g, d, tk, os⟩ → wpAny (model prog w) A' (pyIter v) Q E ⟨hp, g, d, tk, os⟩ :=
      fun q => B.iter prog w _ _ ⟨hp, g, d, tk, os⟩ _ h1 q
    wp_walk using q1
    refine wpAny_stack_any fun st => wpAny_pure ?_
    split
    · rename_i c _ _ _ _ _
      cases (c == Value.type "enumerate")
      · wp_walk using q1
        exact ⟨_, rfl, h⟩
      · wp_walk using q1
        exact ⟨_, rfl, h⟩
    · wp_walk using q1
      exact ⟨_, rfl, h⟩
section
variable {prog : Program} {w : World} {A : Around} {E : Value → Shared → Prop} {s : Shared}
theorem enum1_begins {v : Value} {o : Obj} {H : Heap → Prop} {Q : Value → Shared → Prop} (B : Begins v o H) (h1 : H s.heap)
    (h : ∀ h', IsEnum h' (s.heap.objs.size + 1) s.heap.objs.size 0 .none → h'.get? s.heap.objs.size = some o → h'.objs.size = s.heap.objs.size + 2 →
      (∀ b o, s.heap.get? b = some o → h'.get? b = some o) → Q (.ref (s.heap.objs.size + 1)) { s with heap := h' }) :
    wpAny (model prog w) A (call (.type "enumerate") [v]) Q E s := by
  refine callType_new F.called_enumerate (by decide) (F.typeCall_enumerate_1 _) (F.newCall_enumerate_1 _) (fun obj => F.args_object_init_2 obj _) F.entry_enumerate_new
    (meets_enum1 B) ⟨h1, ?_⟩
  have hz : (s.heap.push o).objs.size = s.heap.objs.size + 1 := Heap.size_push ..
  show _ ∧ _
  rw [hz]
  have he : IsEnum ((s.heap.push o).push { cls := .type "enumerate", data := .fields #[.none, .bool false, .ref s.heap.objs.size, rawInt 0, .none, .none] }) (s.heap.objs.size + 1) s.heap.objs.size 0 .none := by
    have := Heap.get?_push_size (s.heap.push o) (o := { cls := .type "enumerate", data := .fields #[.none, .bool false, .ref s.heap.objs.size, rawInt 0, .none, .none] }) rfl
    rw [hz] at this; exact this
  refine ⟨⟨_, he, rfl⟩, h _ he (Heap.get?_push_of_some _ (Heap.get?_push_size _ B.free)) (by rw [Heap.size_push, hz]) fun b o x => Heap.get?_push_of_some _ (Heap.get?_push_of_some _ x)⟩
end
theorem newly {X : Cx} {pins : List (Addr × Obj)} {σ : L2.St} {H : Hp} {s : Shared} {l : List Addr} (I : Inv X pins σ H s) (n : ∀ b ∈ l, s.heap.objs.size ≤ b) : ∀ b ∈ l, FpOk X pins H b := fun b m =>
  I.fpOk (n b m) (I.hok.fresh (n b m))
def wEnum (K : PySem.W.Frag) (ta : TA) : TI := fun σ H R => ta σ H fun vs H1 => ∃ k a xs, vs = [.ref a] ∧ SqK K k H1 a xs ∧ R (Ien K k 0 a) H1
theorem pi_enumK {X : Cx} {e : Expr} {ta : TA} {p pos tpos : Pos} {elts : List Expr} {kk : Nat} (hg : Gl X "enumerate") (hm : X.mg "enumerate" = none) (ha : PA X [e] ta) (hs : starEach [e] X.env = [(false, eval e X.env)] := by rfl) :
    PI X (.Tuple elts kk tpos) (.Call (.Name "enumerate" p) [e] [] pos) (wEnum X.K ta) := by
  refine ⟨fun pins s σ H R I h => ?_⟩
  refine Call_ (ld_blt I hg hm boot_enumerate (PyProof.Rows.callWith_type1 (thn (ha.run pos pins s σ H _ I h) fun us s1 ⟨vs, H1, I1, r1, q1⟩ => ?_) hs rfl))
  obtain ⟨k, a, xs, ex, hq, q⟩ := q1
  subst ex
  cases r1 with
  | cons r rr =>
    cases rr
    cases r
    obtain ⟨its, rv, p', hz⟩ := inv_sq I1 hq
    refine enum1_begins (beginsK k a its.toArray) p' fun h' he hit hsz hk => wpAny_pyIter_enum he ?_
    have I2 : Inv X pins σ H1 { s1 with heap := h' } := I1.kept (t' := s1.toks) hk
    refine ⟨_, [s1.heap.objs.size + 1, s1.heap.objs.size], _, _, H1, rfl, I2, turn_enumK k 0 a (s1.heap.objs.size + 1) s1.heap.objs.size (Nat.ne_of_gt (Nat.lt_succ_of_lt p'.lt)) (Nat.succ_ne_self _), ⟨⟨.none, by simpa using he⟩, itO_is hit⟩, newly I1 (by simp), q⟩
def wZip (K : PySem.W.Frag) (ta : TA) : TI := fun σ H R => ta σ H fun vs H1 => ∃ k1 k2 a b xs ys, vs = [.ref a, .ref b] ∧ SqK K k1 H1 a xs ∧ SqK K k2 H1 b ys ∧ R (Izp K k1 k2 a b) H1
theorem pi_zipK {X : Cx} {e e2 : Expr} {ta : TA} {p pos tpos : Pos} {elts : List Expr} {kk : Nat} (hg : Gl X "zip") (hm : X.mg "zip" = none) (ha : PA X [e, e2] ta)
    (hs : starEach [e, e2] X.env = (false, eval e X.env) :: starEach [e2] X.env := by rfl) (hpl : (backTo pos (starEach [e2] X.env)).any (·.1) = false := by rfl) :
    PI X (.Tuple elts kk tpos) (.Call (.Name "zip" p) [e, e2] [] pos) (wZip X.K ta) := by
  refine ⟨fun pins s σ H R I h => ?_⟩
  refine Call_ (ld_blt I hg hm PyProof.Rows.boot_zip (PyProof.Rows.callWith_type1 (thn (ha.run pos pins s σ H _ I h) fun us s1 ⟨vs, H1, I1, r1, q1⟩ => ?_) hs hpl))
  obtain ⟨k1, k2, a, b, xs, ys, ex, hqx, hqy, q⟩ := q1
  subst ex
  cases r1 with
  | cons r rr =>
    cases rr with
    | cons r' rr =>
      cases rr
      cases r
      cases r'
      obtain ⟨its, rv, p1, _⟩ := inv_sq I1 hqx
      obtain ⟨its2, rv2, p2, _⟩ := inv_sq I1 hqy
      refine zip_begins2 (beginsK k1 a its.toArray) (beginsK k2 b its2.toArray) p1 p2 fun h' hz hTI hTO h1 h2 hsz hk => wpAny_pyIter_zip hz ?_
      have I2 : Inv X pins σ H1 { s1 with heap := h' } := I1.kept (t' := s1.toks) hk
      refine ⟨_, [s1.heap.objs.size + 4, s1.heap.objs.size + 2, s1.heap.objs.size + 3, s1.heap.objs.size, s1.heap.objs.size + 1], _, _, H1, rfl, I2, turn_zipK k1 k2 (zip_sep2 (fp1 := [a]) (fp2 := [b]) (fun c m => List.mem_singleton.mp m ▸ p1.lt) (fun c m => List.mem_singleton.mp m ▸ p2.lt)),
        ⟨hz, hTI, ⟨_, _, hTO⟩, itO_is h1, itO_is h2⟩, newly I1 (by simp), q⟩
end Dm

namespace Dm
open PySem PySem.Spec L2
open PyProof.Rows hiding St
/-! ### enumerate, zip on data -/
def seqD : D → Option (List D)
  | .lst _ xs => some (frozL xs)
  | .scr xs => some xs
  | .tup xs => some (frozL xs)
  | _ => none
def enumD : Int → List D → List D
  | _, [] => []
  | k, x :: xs => .tup [.int k, x] :: enumD (k + 1) xs
def zipD : List D → List D → List D
  | x :: xs, y :: ys => .tup [x, y] :: zipD xs ys
  | _, _ => []
theorem enumD_get : ∀ {xs : List D} {k : Int} {i : Nat} {d : D}, (enumD k xs)[i]? = some d → ∃ x, xs[i]? = some x ∧ d = .tup [.int (k + (i : Nat)), x]
  | [], _, _, _, e => by simp [enumD] at e
  | x :: xs, k, 0, d, e => by
    simp [enumD] at e
    exact ⟨x, rfl, by rw [← e]; simp⟩
  | x :: xs, k, i + 1, d, e => by
    obtain ⟨y, h1, h2⟩ := enumD_get (xs := xs) (k := k + 1) (i := i) (d := d) (by simpa [enumD] using e)
    refine ⟨y, by simpa using h1, ?_⟩
    rw [h2]
    have : k + 1 + ((i : Nat) : Int) = k + ((i + 1 : Nat) : Int) := by omega
    rw [this]
theorem enumD_length : ∀ (xs : List D) (k : Int), (enumD k xs).length = xs.length
  | [], _ => rfl
  | x :: xs, k => by simp [enumD, enumD_length xs]
theorem zipD_get : ∀ {xs ys : List D} {i : Nat} {d : D}, (zipD xs ys)[i]? = some d → ∃ x y, xs[i]? = some x ∧ ys[i]? = some y ∧ d = .tup [x, y]
  | [], ys, _, _, e => by simp [zipD] at e
  | x :: xs, [], _, _, e => by simp [zipD] at e
  | x :: xs, y :: ys, 0, d, e => by
    simp [zipD] at e
    exact ⟨x, y, rfl, rfl, e.symm⟩
  | x :: xs, y :: ys, i + 1, d, e => by
    obtain ⟨a, b, h1, h2, h3⟩ := zipD_get (xs := xs) (ys := ys) (i := i) (d := d) (by simpa [zipD] using e)
    exact ⟨a, b, by simpa using h1, by simpa using h2, h3⟩
theorem zipD_length : ∀ (xs ys : List D), (zipD xs ys).length = min xs.length ys.length
  | [], ys => by simp [zipD]
  | x :: xs, [] => by simp [zipD]
  | x :: xs, y :: ys => by
    have := zipD_length xs ys
    simp only [zipD, List.length_cons, this]
    omega
def iEnum (g : Ev → Option (List D × Ev)) : Ev → Option (List D × Ev) := fun E => match g E with
  | some ([d], E1) => (match seqD d with | some xs => some (enumD 0 xs, E1) | none => none)
  | _ => none
def iZip (g : Ev → Option (List D × Ev)) : Ev → Option (List D × Ev) := fun E => match g E with
  | some ([d, d2], E1) => (match seqD d, seqD d2 with | some xs, some ys => some (zipD xs ys, E1) | _, _ => none)
  | _ => none
section
variable {K : PySem.W.Frag} {mg : Md} {F H F' H' : Hp} {O O' A B C : List Addr} {σ : L2.St} {E : Ev} {v : V} {d : D} {vs : List V} {ds : List D}
/-- a frozen thing that is walked -/
theorem seq_fz (f : ∀ a o, F a = some o → H a = some o) (r : Rp K mg F H v (froz d) []) {xs : List D} (e : seqD d = some xs) : ∃ k a us, v = .ref a ∧ SqK K k F a us ∧ RpL K mg F H us xs [] := by
  cases d <;> simp only [seqD] at e <;> try (cases e; done)
  · cases e
    have r' : Rp K mg F H v (.tup (frozL _)) [] := r
    generalize hz : ([] : List Addr) = Z at r'
    cases r' with
    | tup ea z rl => subst hz; exact ⟨.tup, _, _, rfl, ea, rl⟩
  · cases e
    have r' : Rp K mg F H v (.lst false (frozL _)) [] := r
    cases r' with
    | lstF ea z rl => exact ⟨.lst, _, _, rfl, SqL.of ea, rl⟩
  · cases e
    have r' : Rp K mg F H v (.scr _) [] := r
    cases r' with
    | scr ea z rl => exact ⟨.lst, _, _, rfl, ea, rl⟩
theorem fz_nil {vs : List V} {ds : List D} (h : RpL K mg F H vs ds []) {i : Nat} {x : D} (e : ds[i]? = some x) : ∃ u, vs[i]? = some u ∧ Rp K mg F H u x [] := by
  obtain ⟨u, B, hu, ru, mB⟩ := h.get e
  have eB : B = [] := List.eq_nil_iff_forall_not_mem.mpr fun b m => by have := mB b m; cases this
  subst eB
  exact ⟨u, hu, ru⟩
theorem ien_ok {k : Kd} {c : Int} {a : Addr} {F0 : Hp} (e : SqK K k F0 a vs) (r : RpL K mg F0 H vs ds []) : ItOk K mg (Ien K k c a) F0 (enumD c ds) where
  go := fun F H2 i x f g hx => by
    obtain ⟨y, hy, ex⟩ := enumD_get hx
    subst ex
    obtain ⟨u, hu, ru⟩ := fz_nil r hy
    have es : SqK K k H2 a vs := SqK.up (fun b o q => g b o (f b o q)) e
    refine ⟨⟨vs, u, es, hu⟩, fun v H' y' => ?_⟩
    obtain ⟨T, x', ev, hT, eH, q⟩ := y'
    have := (q vs es).symm.trans hu
    cases this
    subst ev eH
    have qx : Qx F H2 (upd F T (.tup [.int (c + (i : Nat)), u])) (upd H2 T (.tup [.int (c + (i : Nat)), u])) := Qx.newF g hT
    refine ⟨_, qx, ?_⟩
    have : RpL K mg F H2 [.int (c + (i : Nat)), u] [.int (c + (i : Nat)), y] [] := .cons (O1 := []) (.int _) (.cons (O1 := []) (ru.up f) .nil)
    exact .tup (SqT.of upd_same) (by show 2 ≤ sizeLine; decide) (qx.rpl this)
  stop := fun F H2 i f g hi => ⟨vs, SqK.up (fun b o q => g b o (f b o q)) e, by rw [r.length, ← enumD_length ds c]; exact hi⟩
theorem izp_ok {k1 k2 : Kd} {a b : Addr} {F0 H1 : Hp} {us : List V} {es : List D} (e1 : SqK K k1 F0 a vs) (r1 : RpL K mg F0 H vs ds []) (e2 : SqK K k2 F0 b us) (r2 : RpL K mg F0 H1 us es []) : ItOk K mg (Izp K k1 k2 a b) F0 (zipD ds es) where
  go := fun F H2 i x f g hx => by
    obtain ⟨y, z, hy, hz, ex⟩ := zipD_get hx
    subst ex
    obtain ⟨u, hu, ru⟩ := fz_nil r1 hy
    obtain ⟨w, hw, rw'⟩ := fz_nil r2 hz
    have es1 : SqK K k1 H2 a vs := SqK.up (fun b o q => g b o (f b o q)) e1
    have es2 : SqK K k2 H2 b us := SqK.up (fun b o q => g b o (f b o q)) e2
    refine ⟨⟨vs, us, u, w, es1, es2, hu, hw⟩, fun v H' y' => ?_⟩
    obtain ⟨T, x', w', ev, hT, eH, q1, q2⟩ := y'
    have t1 := (q1 vs es1).symm.trans hu
    have t2 := (q2 us es2).symm.trans hw
    cases t1
    cases t2
    subst ev eH
    have qx : Qx F H2 (upd F T (.tup [u, w])) (upd H2 T (.tup [u, w])) := Qx.newF g hT
    refine ⟨_, qx, ?_⟩
    have : RpL K mg F H2 [u, w] [y, z] [] := .cons (O1 := []) (ru.up f) (.cons (O1 := []) (rw'.up f) .nil)
    exact .tup (SqT.of upd_same) (by show 2 ≤ sizeLine; decide) (qx.rpl this)
  stop := fun F H2 i f g hi => ⟨vs, us, SqK.up (fun b o q => g b o (f b o q)) e1, SqK.up (fun b o q => g b o (f b o q)) e2, by rw [r1.length, r2.length, ← zipD_length ds es]; exact hi⟩
/-- freezing what was made for the walk -/
theorem frz_walk (w : Own F H (A ++ O)) (s : RpS K mg F H σ E O) : Ext F H (A ++ O) (frz F H A) H O ∧ Own (frz F H A) H O ∧ RpS K mg (frz F H A) H σ E O := by
  have wA := w.left
  have x2 := frz_ext wA
  have w2 : Own (frz F H A) H (O ++ []) := w.swap.frame x2 (Own.nil (frz_le wA))
  rw [List.append_nil] at w2
  exact ⟨x2.sub (fun b m => List.mem_append_left _ m) fun b m => .inr (List.mem_append_right _ m), w2, s.ext x2 w.swap.apart⟩
end
theorem id_enum {Y : Fm} {e : Expr} {p pos tpos : Pos} {elts : List Expr} {kk : Nat} {g} (hg : GlY Y "enumerate") (hm : Y.mg "enumerate" = none) (ha : PDa Y [e] g) (hs : ∀ X : Cx, starEach [e] X.env = [(false, eval e X.env)] := by intro _; rfl) :
    ID Y (.Tuple elts kk tpos) (.Call (.Name "enumerate" p) [e] [] pos) (iEnum g) := by
  obtain ⟨t, p, q⟩ := ha
  refine ⟨_, fun X h => h.K ▸ pi_enumK (h.gl hg) (h.mgN hm) (p X h) (hs X), fun F H O σ E xs E' e w s R hR => ?_⟩
  unfold iEnum at e
  split at e
  · rename_i d E1 ed
    split at e
    · rename_i ys ey
      cases e
      refine q F H O σ E _ _ ed w s _ fun vs F1 H1 A O1 x1 w1 r1 s1 => ?_
      obtain ⟨x3, w2, s2⟩ := frz_walk w1 s1
      have r2 := r1.freeze w1.left
      obtain ⟨v, ev, rv⟩ := RpL.one_inv (by simpa [frozL] using r2)
      subst ev
      obtain ⟨k, a, us, ea, hq, hr⟩ := seq_fz (frz_le w1.left) rv ey
      subst ea
      exact ⟨k, a, us, rfl, SqK.up (frz_le w1.left) hq, hR _ _ _ O1 (x1.trans x3) w2 s2 (ien_ok hq hr)⟩
    · cases e
  · cases e
theorem id_zip {Y : Fm} {e e2 : Expr} {p pos tpos : Pos} {elts : List Expr} {kk : Nat} {g} (hg : GlY Y "zip") (hm : Y.mg "zip" = none) (ha : PDa Y [e, e2] g) (hs : ∀ X : Cx, starEach [e, e2] X.env = (false, eval e X.env) :: starEach [e2] X.env := by intro _; rfl)
    (hpl : ∀ X : Cx, (backTo pos (starEach [e2] X.env)).any (·.1) = false := by intro _; rfl) :
    ID Y (.Tuple elts kk tpos) (.Call (.Name "zip" p) [e, e2] [] pos) (iZip g) := by
  obtain ⟨t, p, q⟩ := ha
  refine ⟨_, fun X h => h.K ▸ pi_zipK (h.gl hg) (h.mgN hm) (p X h) (hs X) (hpl X), fun F H O σ E xs E' e w s R hR => ?_⟩
  unfold iZip at e
  split at e
  · rename_i d d2 E1 ed
    split at e
    · rename_i ys zs ey ez
      cases e
      refine q F H O σ E _ _ ed w s _ fun vs F1 H1 A O1 x1 w1 r1 s1 => ?_
      obtain ⟨x3, w2, s2⟩ := frz_walk w1 s1
      have r2 := r1.freeze w1.left
      have r3 : RpL Y.K Y.mg (frz F1 H1 A) H1 vs [froz d, froz d2] [] := by simpa [frozL] using r2
      cases vs with
      | nil => have := r3.length; simp at this
      | cons v1 vs =>
        obtain ⟨p1, r4⟩ := r3.split
        obtain ⟨v2, ev, _⟩ := r4.one_inv
        subst ev
        obtain ⟨p2, _⟩ := r4.split
        obtain ⟨k, a, us, ea, hq, hr⟩ := seq_fz (frz_le w1.left) p1 ey
        obtain ⟨k2, b, us2, eb, hq2, hr2⟩ := seq_fz (frz_le w1.left) p2 ez
        subst ea eb
        exact ⟨k, k2, a, b, us, us2, rfl, SqK.up (frz_le w1.left) hq, SqK.up (frz_le w1.left) hq2, hR _ _ _ O1 (x1.trans x3) w2 s2 (izp_ok hq hr hq2 hr2)⟩
    · cases e
  · cases e
end Dm

namespace Dm
open PySem PySem.Spec L2
open PyProof.Rows hiding St
/-! ### walking an owned list that stands in a slot (it is not frozen) -/
def lkP (lk : Lks) (i : Nat) : Lks := fun j => lk j || j == i
theorem lkP_self (lk : Lks) (i : Nat) : lkP lk i i = true := by simp [lkP]
theorem Lk.ofP {lk : Lks} {i : Nat} {σ σ' : L2.St} (h : Lk (lkP lk i) σ σ') : Lk lk σ σ' := ⟨h.len, fun j hj => h.eq j (by simp [lkP, hj])⟩
def forQ (i : Nat) (g : D → Ev → Option Ev) (body : Ev → Option Out) : Nat → Nat → Ev → Option Out
  | 0, _, _ => none
  | n + 1, k, E => match E[i]? with
    | some (some (.lst _ xs)) => (match xs[k]? with
      | none => some (.nx E)
      | some x => if isFz x = true then (match g x E with
        | some E1 => (match body E1 with
          | some (.nx E2) => forQ i g body n (k + 1) E2
          | some (.ct E2) => forQ i g body n (k + 1) E2
          | some (.bk E2) => some (.nx E2)
          | some (.ret d E2) => some (.ret d E2)
          | none => none)
        | none => none) else none)
    | _ => none
def sForQ (lk : Lks) (i : Nat) (ts : List Nat) (g : D → Ev → Option Ev) (body : Lks → Ev → Option Out) : Ev → Option Out := fun E => if ts.all (fun j => !(lkP lk i) j) = true then (match E[i]? with
  | some (some (.lst true xs)) => if isFzL xs = true then forQ i g (body (lkP lk i)) whileFuel 0 E else (match iSeq (eVar i) E with | some (xs, E1) => forL g (body (lkP lk i)) xs E1 | none => none)
  | _ => (match iSeq (eVar i) E with | some (xs, E1) => forL g (body (lkP lk i)) xs E1 | none => none)) else none
section
variable {K : PySem.W.Frag} {mg : Md} {F H F' H' : Hp} {O O' A B C : List Addr} {σ : L2.St} {E : Ev} {v : V} {d : D} {vs : List V} {ds xs : List D} {a : Addr} {i k : Nat} {b : Bool} {x : D}
theorem slot_lst (w : Own F H O) (s : RpS K mg F H σ E O) (e : E[i]? = some (some (.lst b xs))) : ∃ a vs B, σ[i]? = some (some (.ref a)) ∧ H a = some (.lst vs) ∧ RpL K mg F H vs xs B := by
  obtain ⟨v0, A0, es0, r0⟩ := s.get w e
  obtain ⟨a0, us0, As0, ev0, h0, _, r1, _⟩ := r0.lst_inv w.le
  subst ev0
  exact ⟨a0, us0, As0, es0, h0, r1⟩
theorem slot_go (w : Own F H O) (s : RpS K mg F H σ E O) (es : σ[i]? = some (some (.ref a))) (e : E[i]? = some (some (.lst b xs))) (ek : xs[k]? = some x) (hz : isFz x = true) : (Itl K a).go k H ∧ ∀ v H', (Itl K a).yld k H v H' → H' = H ∧ Rp K mg F H v x [] := by
  obtain ⟨a', us, B, es', h0, rl⟩ := slot_lst w s e
  rw [es] at es'
  cases es'
  obtain ⟨u, B', hu, ru, _⟩ := rl.get ek
  have zB := ru.fz hz
  subst zB
  refine ⟨⟨us, u, SqL.of h0, hu⟩, fun v H' y => ?_⟩
  obtain ⟨y1, y2⟩ := y
  have := (y2 us (SqL.of h0)).symm.trans hu
  cases this
  exact ⟨y1, ru⟩
theorem slot_stop (w : Own F H O) (s : RpS K mg F H σ E O) (es : σ[i]? = some (some (.ref a))) (e : E[i]? = some (some (.lst b xs))) (ek : xs[k]? = none) : (Itl K a).stop k H := by
  obtain ⟨a', us, B, es', h0, rl⟩ := slot_lst w s e
  rw [es] at es'
  cases es'
  exact ⟨us, SqL.of h0, by rw [rl.length]; exact List.getElem?_eq_none_iff.mp ek⟩
end
section
variable {Y : Fm} {lk : Lks} {pos : Pos}
theorem forL_turns {K : PySem.W.Frag} {mg : Md} {tg : TG} {tb : TS} {ts : List Nat} {g gb} {J : It} {F1 H1 : Hp} {O1 : List Addr} {σ : L2.St} {E1 : Ev} {o : Out} {N : Ends} {xs : List D} (qg : Dg K mg tg ts g) (qb : Ds K mg tb lk gb) (hl : ts.all (fun i => !lk i) = true) (ok : ItOk K mg J F1 xs) (w1 : Own F1 H1 O1) (s1 : RpS K mg F1 H1 σ E1 O1) (e : forL g gb xs E1 = some o) (h : EndP K mg F1 H1 O1 σ lk o N) :
    ∃ W : Nat → Nat → L2.St → Hp → Prop, (∃ m, W 0 m σ H1) ∧ ∀ i m σ H, W i m σ H →
      (J.stop i H ∧ N.nx σ H) ∨ (J.go i H ∧ ∃ Nv : L2.St → Hp → Prop, (∀ σ' H', Nv σ' H' → ∃ m', m' < m ∧ W (i + 1) m' σ' H') ∧ ∀ x H', J.yld i H x H' → tg x σ H' fun σ2 H2 => tb { N with nx := Nv, ct := Nv, bk := N.nx } σ2 H2) := by
      refine ⟨fun i m σ2 H2 => m = xs.length - i ∧ i ≤ xs.length ∧ ∃ F2 O2 E2, (∀ a u, F1 a = some u → F2 a = some u) ∧ Own F2 H2 O2 ∧ RpS K mg F2 H2 σ2 E2 O2 ∧ forL g gb (xs.drop i) E2 = some o ∧ EndP K mg F2 H2 O2 σ2 lk o N,
        ⟨xs.length, rfl, Nat.zero_le _, F1, O1, E1, fun _ _ e => e, w1, s1, e, h⟩, ?_⟩
      rintro i m σ2 H2 ⟨rfl, hi, F2, O2, E2, f2, w2, s2, e2, h2⟩
      by_cases hlt : i < xs.length
      · have hx : xs[i]? = some xs[i] := List.getElem?_eq_getElem hlt
        obtain ⟨go, yl⟩ := ok.go F2 H2 i _ f2 w2.le hx
        rw [List.drop_eq_getElem_cons hlt] at e2
        refine .inr ⟨go, fun σ3 H3 => xs.length - (i + 1) < xs.length - i ∧ i + 1 ≤ xs.length ∧ ∃ F3 O3 E3, (∀ a u, F1 a = some u → F3 a = some u) ∧ Own F3 H3 O3 ∧ RpS K mg F3 H3 σ3 E3 O3 ∧ forL g gb (xs.drop (i + 1)) E3 = some o ∧ EndP K mg F3 H3 O3 σ3 lk o N,
          fun σ3 H3 ⟨a1, a2, a3⟩ => ⟨_, a1, rfl, a2, a3⟩, fun v H3 y => ?_⟩
        obtain ⟨F3, q3, r3⟩ := yl v H3 y
        unfold forL at e2
        split at e2
        · rename_i E3 eg
          refine qg F3 H3 [] O2 σ2 E2 E3 v _ eg (q3.own w2) r3 (q3.rps s2) _ fun σ4 F4 H4 O4 c4 x4 w4 s4 => ?_
          have x24 : Ext F2 H2 O2 F4 H4 O4 := (q3.extO (O := O2)).trans x4
          have l24 : Lk lk σ2 σ4 := c4.lk (all_lk hl)
          have h4 := h2.from l24 x24
          have f4 : ∀ a u, F1 a = some u → F4 a = some u := fun a u z => x24.fle a u (f2 a u z)
          split at e2
          · rename_i E5 eb
            refine qb F4 H4 O4 σ4 E3 _ eb w4 s4 _ fun σ5 F5 H5 O5 l5 x5 w5 s5 => ?_
            exact ⟨by omega, hlt, F5, O5, E5, fun a u z => x5.fle a u (f4 a u z), w5, s5, e2, h4.from l5 x5⟩
          · rename_i E5 eb
            refine qb F4 H4 O4 σ4 E3 _ eb w4 s4 _ fun σ5 F5 H5 O5 l5 x5 w5 s5 => ?_
            exact ⟨by omega, hlt, F5, O5, E5, fun a u z => x5.fle a u (f4 a u z), w5, s5, e2, h4.from l5 x5⟩
          · rename_i E5 eb
            cases e2
            exact qb F4 H4 O4 σ4 E3 _ eb w4 s4 _ h4
          · rename_i d E5 eb
            cases e2
            exact qb F4 H4 O4 σ4 E3 _ eb w4 s4 _ h4
          · cases e2
        · cases e2
      · have e' : i = xs.length := by omega
        subst e'
        rw [List.drop_length] at e2
        cases e2
        exact .inl ⟨ok.stop F2 H2 _ f2 w2.le rfl, h2 σ2 F2 H2 O2 .refl Ext.refl w2 s2⟩
theorem forQ_turns {K : PySem.W.Frag} {mg : Md} {tg : TG} {tb : TS} {ts : List Nat} {g gb} {j : Nat} {a : Addr} {F1 H1 : Hp} {O1 : List Addr} {σ : L2.St} {E1 : Ev} {o : Out} {N : Ends} (hj : lk j = true) (qg : Dg K mg tg ts g) (qb : Ds K mg tb lk gb) (hl : ts.all (fun i => !lk i) = true) (w1 : Own F1 H1 O1) (s1 : RpS K mg F1 H1 σ E1 O1) (es : σ[j]? = some (some (.ref a))) {n : Nat} (e : forQ j g gb n 0 E1 = some o) (h : EndP K mg F1 H1 O1 σ lk o N) :
    ∃ W : Nat → Nat → L2.St → Hp → Prop, (∃ m, W 0 m σ H1) ∧ ∀ i m σ H, W i m σ H →
      ((Itl K a).stop i H ∧ N.nx σ H) ∨ ((Itl K a).go i H ∧ ∃ Nv : L2.St → Hp → Prop, (∀ σ' H', Nv σ' H' → ∃ m', m' < m ∧ W (i + 1) m' σ' H') ∧ ∀ x H', (Itl K a).yld i H x H' → tg x σ H' fun σ2 H2 => tb { N with nx := Nv, ct := Nv, bk := N.nx } σ2 H2) := by
      refine ⟨fun i m σ2 H2 => ∃ F2 O2 E2, Own F2 H2 O2 ∧ RpS K mg F2 H2 σ2 E2 O2 ∧ σ2[j]? = some (some (.ref a)) ∧ forQ j g gb m i E2 = some o ∧ EndP K mg F2 H2 O2 σ2 lk o N,
        ⟨n, F1, O1, E1, w1, s1, es, e, h⟩, ?_⟩
      rintro i m σ2 H2 ⟨F2, O2, E2, w2, s2, es2, e2, h2⟩
      cases m with
      | zero => cases e2
      | succ m =>
        unfold forQ at e2
        split at e2
        · rename_i b xs ex
          split at e2
          · rename_i ek
            cases e2
            exact .inl ⟨slot_stop w2 s2 es2 ex ek, h2 σ2 F2 H2 O2 .refl Ext.refl w2 s2⟩
          · rename_i x ek
            split at e2
            · rename_i hz
              obtain ⟨go, yl⟩ := slot_go w2 s2 es2 ex ek hz
              refine .inr ⟨go, fun σ3 H3 => ∃ F3 O3 E3, Own F3 H3 O3 ∧ RpS K mg F3 H3 σ3 E3 O3 ∧ σ3[j]? = some (some (.ref a)) ∧ forQ j g gb m (i + 1) E3 = some o ∧ EndP K mg F3 H3 O3 σ3 lk o N,
                fun σ3 H3 z => ⟨m, Nat.lt_succ_self m, z⟩, fun v H3 y => ?_⟩
              obtain ⟨y1, r3⟩ := yl v H3 y
              subst y1
              split at e2
              · rename_i E3 eg
                refine qg F2 _ [] O2 σ2 E2 E3 v _ eg w2 r3 s2 _ fun σ4 F4 H4 O4 c4 x4 w4 s4 => ?_
                have l24 : Lk lk σ2 σ4 := c4.lk (all_lk hl)
                have h4 := h2.from l24 x4
                have es4 : σ4[j]? = some (some (.ref a)) := (l24.eq j hj).trans es2
                split at e2
                · rename_i E5 eb
                  refine qb F4 H4 O4 σ4 E3 _ eb w4 s4 _ fun σ5 F5 H5 O5 l5 x5 w5 s5 => ?_
                  exact ⟨F5, O5, E5, w5, s5, (l5.eq j hj).trans es4, e2, h4.from l5 x5⟩
                · rename_i E5 eb
                  refine qb F4 H4 O4 σ4 E3 _ eb w4 s4 _ fun σ5 F5 H5 O5 l5 x5 w5 s5 => ?_
                  exact ⟨F5, O5, E5, w5, s5, (l5.eq j hj).trans es4, e2, h4.from l5 x5⟩
                · rename_i E5 eb
                  cases e2
                  exact qb F4 H4 O4 σ4 E3 _ eb w4 s4 _ h4
                · rename_i d E5 eb
                  cases e2
                  exact qb F4 H4 O4 σ4 E3 _ eb w4 s4 _ h4
                · cases e2
              · cases e2
            · cases e2
        · cases e2
theorem EndP.toP {K : PySem.W.Frag} {mg : Md} {F H : Hp} {O : List Addr} {σ : L2.St} {i : Nat} {o : Out} {N : Ends} (h : EndP K mg F H O σ lk o N) : EndP K mg F H O σ (lkP lk i) o N := by
  cases o with
  | nx E' => exact fun σ' F' H' O' l => h σ' F' H' O' l.ofP
  | bk E' => exact fun σ' F' H' O' l => h σ' F' H' O' l.ofP
  | ct E' => exact fun σ' F' H' O' l => h σ' F' H' O' l.ofP
  | ret d E' => exact fun v σ' F' H' A O' l => h v σ' F' H' A O' l.ofP
theorem sd_forQ {i : Nat} {x : Str} {px : Pos} {tg : Expr} {body : List Stmt} {ts : List Nat} {g} {gb : Lks → Ev → Option Out} (hN : Y.N[i]? = some x) (hv : Vis Y.sc x) (hg : GD Y tg ts g) (hb : ∀ lk, SDs Y body lk (gb lk))
    (hs : ∀ X : Cx, ∀ y, foldedSetIterable (.Name x px) X.env y = pure y := by intro _ _; rfl) (hd : (x == ("__debug__" : Str)) = false := by decide) (hcd : (x == ("__classdict__" : Str)) = false := by decide) : SD Y (.For tg (.Name x px) body [] pos) lk (sForQ lk i ts g gb) := by
  obtain ⟨wi, pi, qi⟩ := id_seq (tg := tg) (pd_var (Y := Y) (pos := px) hN hv hd hcd)
  obtain ⟨_, pg, qg⟩ := hg
  obtain ⟨_, pb, qb⟩ := hb (lkP lk i)
  refine ⟨_, fun X h => ps_for h.own h.calm (pi_or (h.K ▸ pi_list (pe_var (h.nm hN) (h.vis hv) hd hcd)) (pi X h)) (pg X h) (pb X h) (hs X), fun F H O σ E o e w s N h => ?_⟩
  unfold sForQ at e
  split at e
  · rename_i hl
    split at e
    · rename_i xs ex
      split at e
      · refine .inl ?_
        obtain ⟨a, vs, B, es, h0, rl⟩ := slot_lst w s ex
        exact ⟨_, es, a, rfl, ⟨vs, SqL.of h0⟩, forQ_turns (lkP_self lk i) qg qb hl w s es e h.toP⟩
      · split at e
        · rename_i xs E1 ei
          refine .inr (qi F H O σ E xs E1 ei w s _ fun J F1 H1 O1 x1 w1 s1 ok => ?_)
          exact forL_turns qg qb hl ok w1 s1 e (h.from .refl x1).toP
        · cases e
    · split at e
      · rename_i xs E1 ei
        refine .inr (qi F H O σ E xs E1 ei w s _ fun J F1 H1 O1 x1 w1 s1 ok => ?_)
        exact forL_turns qg qb hl ok w1 s1 e (h.from .refl x1).toP
      · cases e
  · cases e
end
end Dm

namespace Dm
open PySem PySem.Spec L2
open PyProof.Rows hiding St
/-! ### comprehensions over an owned list that stands in a slot -/
def compQ (i : Nat) (own : List Nat) (g : D → Ev → Option Ev) (tt : Ev → Option (Bool × Ev)) (el : Ev → Option (D × Ev)) : Nat → Nat → Ev → Option (List D × Ev)
  | 0, _, _ => none
  | n + 1, k, E => match E[i]? with
    | some (some (.lst _ xs)) => (match xs[k]? with
      | none => some ([], E)
      | some x => if isFz x = true then (match g x E with
        | some E1 => (match tt E1 with
          | some (false, E2) => compQ i own g tt el n (k + 1) (wipeE E2 own)
          | some (true, E2) => (match el E2 with
            | some (d, E3) => (match compQ i own g tt el n (k + 1) (wipeE E3 own) with
              | some (ds, E4) => some (d :: ds, E4)
              | none => none)
            | none => none)
          | none => none)
        | none => none) else none)
    | _ => none
def eCompQ (own : List Nat) (i : Nat) (g : D → Ev → Option Ev) (tt : Ev → Option (Bool × Ev)) (el : Ev → Option (D × Ev)) : Ev → Option (D × Ev) := fun E => match E[i]? with
  | some (some (.lst true xs)) => if isFzL xs = true then (if ownFz E own = true then (match compQ i own g tt el whileFuel 0 (wipeE E own) with
    | some (ds, E2) => (if ds.length ≤ sizeLine then some (.lst true ds, backE E E2 own) else none)
    | none => none) else none) else eComp own (iSeq (eVar i)) g tt el E
  | _ => eComp own (iSeq (eVar i)) g tt el E
theorem comp_coreQ {K : PySem.W.Frag} {mg : Md} {ws : TI} {tg : TG} {tt : TT} {te : TE} {own ts : List Nat} {j : Nat} {g ft fe} (qs : Di K mg ws (iSeq (eVar j))) (qg : Dg K mg tg ts g) (qt : Td K mg tt ft) (qe : De K mg te fe) (hts : ∀ i ∈ ts, i ∈ own) (hnd : own.Nodup) (hj : j ∉ own) :
    De K mg (tLc (fun σ H R => (tVar j σ H fun x H1 => ∃ a, x = .ref a ∧ (∃ xs, SqL K H1 a xs) ∧ R (Itl K a) H1) ∨ ws σ H R) tg tt te own) (eCompQ own j g ft fe) := by
  intro F H O σ E d E' e w s Q hQ
  unfold eCompQ at e
  split at e
  · rename_i xs0 ex0
    split at e
    · obtain ⟨a, vs0, B0, es0, h0, _⟩ := slot_lst w s ex0
      refine .inl ⟨_, es0, a, rfl, ⟨vs0, SqL.of h0⟩, ?_⟩
      split at e
      · rename_i hz
        split at e
        · rename_i ds E2 ec
          split at e
          · rename_i hlen
            cases e
            intro Dn hD
            obtain ⟨Ow, sw, ww, mw⟩ := s.wipe w own
            have hF : F Dn = none := none_of_le w.le hD
            have y1 : Qx F H F (upd H Dn (.lst [])) := Qx.new w.le hD
            have ww0 : Own F (upd H Dn (.lst [])) ((Dn :: []) ++ Ow) := own_new (A := []) ww hD
            refine ⟨fun i m H2 => ∃ F2 O2 Ec vs dsf A rest, (∀ a u, F a = some u → F2 a = some u) ∧ Own F2 H2 ((Dn :: A) ++ O2) ∧ RpS K mg F2 H2 (L2.wipe σ own) Ec O2 ∧ H2 Dn = some (.lst vs) ∧ RpL K mg F2 H2 vs dsf A ∧
                compQ j own g ft fe m i Ec = some (rest, E2) ∧ dsf ++ rest = ds ∧ Ext F H Ow F2 H2 ((Dn :: A) ++ O2),
              ⟨whileFuel, F, Ow, wipeE E own, [], [], [], ds, fun _ _ e => e, ww0, y1.rps sw, upd_same, .nil, ec, rfl, Ext.fresh (C := [Dn]) y1 fun c m => by simp at m; subst m; exact hD⟩, ?_⟩
            rintro i m H2 ⟨F2, O2, Ec, vs, dsf, A, rest, f2, w2, s2, h2, rl, e2, eds, x2⟩
            have hlv := rl.length
            have wO2 := w2.right
            have esj : (L2.wipe σ own)[j]? = some (some (.ref a)) := (wipe_get hj).trans es0
            cases m with
            | zero => cases e2
            | succ m =>
            unfold compQ at e2
            split at e2
            · rename_i b xs ex
              split at e2
              · rename_i ek
                cases e2
                rw [List.append_nil] at eds
                subst eds
                refine .inl ⟨slot_stop wO2 s2 esj ex ek, ?_⟩
                have hF2 : F2 Dn = none := w2.out Dn (List.mem_append_left _ List.mem_cons_self)
                obtain ⟨O3, s3, w3, m3⟩ := RpS.back (E1 := E) hnd wO2 s2 fun j hj => by
                  obtain ⟨B, ro⟩ := s.getO j
                  cases q : E[j]? with
                  | none => exact .none
                  | some y =>
                    cases y with
                    | none => exact .none
                    | some dj =>
                      rw [q] at ro
                      have hzj := List.all_eq_true.mp hz j hj
                      rw [q] at hzj
                      generalize hv : σ[j]?.join = xv at ro
                      have ro' : RpO K mg F H xv (some dj) B := ro
                      cases ro' with
                      | some rj =>
                        have zB := rj.fz hzj
                        subst zB
                        exact .some (rj.up f2)
                have nd2 := List.nodup_append.mp w2.nd
                have w4 : Own F2 H2 ((Dn :: A) ++ O3) := w2.sub (List.nodup_append.mpr ⟨nd2.1, w3.nd, fun a x b y e => nd2.2.2 a x b (m3 b y) e⟩) fun b m => by
                  rcases List.mem_append.mp m with m | m
                  · exact List.mem_append_left _ m
                  · exact List.mem_append_right _ (m3 b m)
                refine hQ (.ref Dn) F2 H2 (Dn :: A) O3 ?_ w4 (.lstO h2 hF2 (by rw [hlv]; exact hlen) rl) s3
                refine (x2.sub mw fun b m => .inl ?_)
                rcases List.mem_append.mp m with m | m
                · exact List.mem_append_left _ m
                · exact List.mem_append_right _ (m3 b m)
              · rename_i x ek
                split at e2
                · rename_i hzx
                  obtain ⟨go, yl⟩ := slot_go wO2 s2 esj ex ek hzx
                  refine .inr ⟨go, fun H3 => ∃ F3 O3 Ec vs dsf A rest, (∀ a u, F a = some u → F3 a = some u) ∧ Own F3 H3 ((Dn :: A) ++ O3) ∧ RpS K mg F3 H3 (L2.wipe σ own) Ec O3 ∧ H3 Dn = some (.lst vs) ∧ RpL K mg F3 H3 vs dsf A ∧
                      compQ j own g ft fe m (i + 1) Ec = some (rest, E2) ∧ dsf ++ rest = ds ∧ Ext F H Ow F3 H3 ((Dn :: A) ++ O3),
                    fun H3 z => ⟨m, Nat.lt_succ_self m, z⟩, fun v H3 y => ?_⟩
                  obtain ⟨y1', r3⟩ := yl v H3 y
                  subst y1'
                  split at e2
                  · rename_i E4 eg
                    refine qg F2 _ [] O2 (L2.wipe σ own) Ec E4 v _ eg wO2 r3 s2 _ fun σ4 F4 H4 O4 c4 x24 w4 s4 => ?_
                    have wt : L2.wipe σ4 own = L2.wipe σ own := (wipe_tch c4 hts).trans (by
                      have : ∀ (τ : L2.St) (vs : List Nat), L2.wipe (L2.wipe τ vs) vs = L2.wipe τ vs := fun τ vs => by
                        have c : Tch vs τ (L2.wipe τ vs) := ⟨wipe_length τ vs, fun i h => wipe_get h⟩
                        exact wipe_tch c fun _ m => m
                      exact this σ own)
                    refine ⟨wt, ?_⟩
                    have w24 : Own F4 H4 ((Dn :: A) ++ O4) := w2.frame x24 w4
                    have h4 : H4 Dn = some (.lst vs) := x24.hle _ _ h2 (w2.apart Dn List.mem_cons_self)
                    have rl4 := rl.ext x24 fun b m => w2.apart b (List.mem_cons_of_mem _ m)
                    have xx4 : Ext F H Ow F4 H4 ((Dn :: A) ++ O4) := x2.trans (x24.frame w2)
                    have f4 : ∀ a u, F a = some u → F4 a = some u := fun a u z => x24.fle a u (f2 a u z)
                    split at e2
                    · rename_i E5 et
                      refine qt F4 H4 O4 σ4 E4 false E5 et w4 s4 _ fun F5 H5 O5 x5 w5 s5 => ?_
                      rw [if_neg Bool.false_ne_true]
                      have w25 := w24.frame x5 w5
                      obtain ⟨O6, s6, w6, m6⟩ := s5.wipe w5 own
                      rw [wt] at s6
                      have x6 : Ext F4 H4 O4 F5 H5 O6 := x5.sub (fun _ m => m) fun b m => .inl (m6 b m)
                      refine ⟨F5, O6, wipeE E5 own, vs, dsf, A, rest, fun a u z => x5.fle a u (f4 a u z), w24.frame x6 w6, s6, x5.hle _ _ h4 (w24.apart Dn List.mem_cons_self), rl4.ext x5 fun b m => w24.apart b (List.mem_cons_of_mem _ m), e2, eds, xx4.trans (x6.frame w24)⟩
                    · rename_i E5 et
                      split at e2
                      · rename_i dy E6 ey
                        split at e2
                        · rename_i ds' E7 er
                          cases e2
                          refine qt F4 H4 O4 σ4 E4 true E5 et w4 s4 _ fun F5 H5 O5 x5 w5 s5 => ?_
                          rw [if_pos rfl]
                          have w25 := w24.frame x5 w5
                          have h5 : H5 Dn = some (.lst vs) := x5.hle _ _ h4 (w24.apart Dn List.mem_cons_self)
                          have rl5 := rl4.ext x5 fun b m => w24.apart b (List.mem_cons_of_mem _ m)
                          have xx5 := xx4.trans (x5.frame w24)
                          refine qe F5 H5 O5 σ4 E5 dy E6 ey w5 s5 _ fun y F6 H6 Ay O6 x6 w6 r6 s6 => ?_
                          have w26 := w25.frame x6 w6
                          have h6 : H6 Dn = some (.lst vs) := x6.hle _ _ h5 (w25.apart Dn List.mem_cons_self)
                          have rl6 := rl5.ext x6 fun b m => w25.apart b (List.mem_cons_of_mem _ m)
                          have xx6 := xx5.trans (x6.frame w25)
                          have hF6 : F6 Dn = none := w26.out Dn (List.mem_append_left _ List.mem_cons_self)
                          obtain ⟨O7, s7, w7, m7⟩ := s6.wipe w6.right own
                          rw [wt] at s7
                          have ldy : vs.length < sizeLine := by
                            rw [hlv]
                            have := congrArg List.length eds
                            rw [List.length_append, List.length_cons] at this
                            omega
                          have pm : ((Dn :: A) ++ (Ay ++ O6)).Perm ((Dn :: (A ++ Ay)) ++ O6) := by
                            rw [← List.append_assoc]
                            exact List.Perm.refl _
                          have w27 := w26.perm pm
                          have sub7 : ∀ b ∈ (Dn :: (A ++ Ay)) ++ O7, b ∈ (Dn :: (A ++ Ay)) ++ O6 := fun b m => by
                            rcases List.mem_append.mp m with m | m
                            · exact List.mem_append_left _ m
                            · exact List.mem_append_right _ (m7 b m)
                          have nd27 := List.nodup_append.mp w27.nd
                          have w28 : Own F6 H6 ((Dn :: (A ++ Ay)) ++ O7) := w27.sub (List.nodup_append.mpr ⟨nd27.1, w7.nd, fun a x b y e => nd27.2.2 a x b (m7 b y) e⟩) sub7
                          have nDn := (List.nodup_cons.mp (List.nodup_append.mp w28.nd).1).1
                          have wx := wr1_ext (us := vs ++ [y]) hF6 h6
                          refine ⟨vs, h6, ldy, F6, O7, wipeE E6 own, vs ++ [y], dsf ++ [dy], A ++ Ay, ds', fun a u z => x6.fle a u (x5.fle a u (f4 a u z)), wr1_own w28 hF6, s7.ext wx fun b m q => ?_, upd_same, ?_, er, ?_, ?_⟩
                          · simp at q
                            subst q
                            exact w28.apart b List.mem_cons_self m
                          · have ry : RpL K mg F6 H6 [y] [dy] (Ay ++ []) := .cons r6 .nil
                            rw [List.append_nil] at ry
                            exact (rl6.append ry).ext wx fun b m q => by
                              simp at q
                              subst q
                              exact nDn m
                          · rw [List.append_assoc]; exact eds
                          · refine (xx6.perm (List.Perm.refl _) pm).trans ?_
                            exact wx.sub (fun b m => by simp at m; subst m; exact List.mem_append_left _ List.mem_cons_self) fun b m => .inr (sub7 b m)
                        · cases e2
                      · cases e2
                    · cases e2
                  · cases e2
                · cases e2
            · cases e2
          · cases e
        · cases e
      · cases e
    · exact .inr (comp_core qs qg qt qe hts hnd F H O σ E d E' e w s Q hQ)
  · rcases comp_core qs qg qt qe hts hnd F H O σ E d E' e w s Q hQ with q
    exact .inr q
theorem pd_compQ {Y : Fm} {elt tg : Expr} {j : Nat} {x : Str} {px : Pos} {ifs : List Expr} {scope : Scope} {own : List (Str × Nat)} {ts : List Nat} {pos : Pos} {g ft fe} (hN : Y.N.Nodup) (hj : Y.N[j]? = some x) (hv : Vis Y.sc x) (ok : BlkOk Y.N Y.sc scope own)
    (hg : GD (Y.blk scope) tg ts g) (ht : TsD (Y.blk scope) ifs ft) (he : PD (Y.blk scope) elt fe)
    (hts : ∀ i ∈ ts, i ∈ own.map (·.2)) (hnd : (own.map (·.2)).Nodup) (hjo : j ∉ own.map (·.2)) (hs : ∀ X : Cx, ∀ y, foldedSetIterable (.Name x px) X.env y = pure y := by intro _ _; rfl)
    (hd : (x == ("__debug__" : Str)) = false := by decide) (hcd : (x == ("__classdict__" : Str)) = false := by decide) :
    PD Y (.ListComp elt [⟨tg, .Name x px, ifs, 0⟩] scope pos) (eCompQ (own.map (·.2)) j g ft fe) := by
  obtain ⟨_, pi, qi⟩ := id_seq (tg := tg) (pd_var (Y := Y) (pos := px) hj hv hd hcd)
  obtain ⟨_, pg, qg⟩ := hg
  obtain ⟨_, pt, qt⟩ := ht
  obtain ⟨_, pe, qe⟩ := he
  refine ⟨_, fun X h => pe_lc h.calm (h.nd hN) (pi_or (h.K ▸ pi_list (pe_var (h.nm hj) (h.vis hv) hd hcd)) (pi X h)) (by rw [h.N, h.sc]; exact ok) (fun s H C cl fp => pg _ (h.blk s H C cl fp)) (fun s H C cl fp => pt _ (h.blk s H C cl fp)) (fun s H C cl fp => pe _ (h.blk s H C cl fp)) (hs X), comp_coreQ qi qg qt qe hts hnd hjo⟩
theorem sd_setCompQ {Y : Fm} {lk : Lks} {i j : Nat} {y x : Str} {py px : Pos} {elt tg : Expr} {ifs : List Expr} {scope : Scope} {own : List (Str × Nat)} {ts : List Nat} {pos spos : Pos} {g ft fe} (hN : Y.N.Nodup) (hy : Y.N[i]? = some y) (hyl : Y.sc.names.lookup y = some .local)
    (hk : Y.sc.kind = .function) (hl : (py.line == pos.line) = true) (ha : (scope.names.any fun (n, k) => n == y && (k == .local || k == .cell)) = false) (hj : Y.N[j]? = some x) (hv : Vis Y.sc x) (ok : BlkOk Y.N Y.sc scope own)
    (hg : GD (Y.blk scope) tg ts g) (ht : TsD (Y.blk scope) ifs ft) (he : PD (Y.blk scope) elt fe)
    (hts : ∀ i ∈ ts, i ∈ own.map (·.2)) (hnd : (own.map (·.2)).Nodup) (hjo : j ∉ own.map (·.2)) (hs : ∀ X : Cx, ∀ y, foldedSetIterable (.Name x px) X.env y = pure y := by intro _ _; rfl)
    (hd : (x == ("__debug__" : Str)) = false := by decide) (hcd : (x == ("__classdict__" : Str)) = false := by decide) :
    SD Y (.Assign [.Name y py] (.ListComp elt [⟨tg, .Name x px, ifs, 0⟩] scope pos) spos) lk (sAsg lk [i] (eCompQ (own.map (·.2)) j g ft fe) (gdName i)) := by
  obtain ⟨_, pi, qi⟩ := id_seq (tg := tg) (pd_var (Y := Y) (pos := px) hj hv hd hcd)
  obtain ⟨_, pg, qg⟩ := hg
  obtain ⟨_, pt, qt⟩ := ht
  obtain ⟨_, pe, qe⟩ := he
  refine ⟨_, fun X h => ps_setLc h.calm (h.nd hN) (h.nm hy) (by rw [h.sc]; exact hyl) (sw_true (by rw [h.sc]; exact hk) (by rw [h.sc]; exact hyl) hl ha) (pi_or (h.K ▸ pi_list (pe_var (h.nm hj) (h.vis hv) hd hcd)) (pi X h)) (by rw [h.N, h.sc]; exact ok) (fun s H C cl fp => pg _ (h.blk s H C cl fp)) (fun s H C cl fp => pt _ (h.blk s H C cl fp)) (fun s H C cl fp => pe _ (h.blk s H C cl fp)) (hs X), ds_asg (comp_coreQ qi qg qt qe hts hnd hjo) ?_⟩
  intro F H A O σ E E' v d e w r s Q h
  cases e
  obtain ⟨O', s', w', m⟩ := s.assign (i := i) w r
  exact h _ F H O' Tch.set (Ext.refl.sub (fun b h => h) fun b h => .inr (m b h)) w' s'
end Dm

namespace Dm
open PySem PySem.Spec L2
open PyProof.Rows hiding St
/-! ### operators and built-ins for a family -/
section
variable {Y : Fm}
theorem oy_add : OpY Y (binaryOp .Add) (rAddX Y.K) := by intro X h; rw [← h.K]; exact op_addX
theorem oy_sub : OpY Y (binaryOp .Sub) (rI0 fun i j => V.int (i - j)) := fun _ _ => op_sub
theorem oy_mul : OpY Y (binaryOp .Mult) rMulX := fun _ _ => op_mulX
theorem oy_fdiv : OpY Y (binaryOp .FloorDiv) (rI CDivN fun i j => V.int (i.fdiv j)) := fun _ _ => op_fdivN
theorem oy_mod : OpY Y (binaryOp .Mod) (rI (fun _ j => j ≠ 0) fun i j => V.int (i.fmod j)) := fun _ _ => op_modN
theorem oy_pow : OpY Y (binaryOp .Pow) (rI CPow fun i j => V.int (i ^ j.toNat)) := fun _ _ => op_pow
theorem oy_lt : OpY Y (compareOp .Lt) rLtX := fun _ _ => op_ltX
theorem oy_le : OpY Y (compareOp .LtE) (rI0 fun i j => V.bl (decide (i ≤ j))) := fun _ _ => op_le
theorem oy_gt : OpY Y (compareOp .Gt) (rI0 fun i j => V.bl (decide (j < i))) := fun _ _ => op_gt
theorem oy_ge : OpY Y (compareOp .GtE) (rI0 fun i j => V.bl (decide (j ≤ i))) := fun _ _ => op_ge
theorem oy_eq : OpY Y (compareOp .Eq) (rEqX Y.K) := by intro X h; rw [← h.K]; exact op_eq.or (op_eqD (by have := h.room.un; omega))
theorem oy_ne : OpY Y (compareOp .NotEq) (rNeX Y.K) := by intro X h; rw [← h.K]; exact op_ne.or (op_neD (by have := h.room.un; omega))
theorem oy_is : OpY Y (compareOp .Is) (fun x y H Q => y = .non ∧ Q (.bl (decide (x = .non))) H) := fun _ _ => op_isN
theorem oy_isnot : OpY Y (compareOp .IsNot) (fun x y H Q => y = .non ∧ Q (.bl (!decide (x = .non))) H) := fun _ _ => op_notN
theorem oy_in : OpY Y (compareOp .In) (rInX Y.K Y.mg) := by intro X h; rw [← h.K]; exact op_inX h.room h.prog.symm h.w.symm
theorem oy_notIn : OpY Y (compareOp .NotIn) (rNotInX Y.K Y.mg) := by intro X h; rw [← h.K]; exact op_notInX h.room h.prog.symm h.w.symm
theorem oy_iadd : OpY Y (inplaceOp .Add) rIAddX := fun _ _ => op_iaddX
theorem oy_isub : OpY Y (inplaceOp .Sub) (rI0 fun i j => V.int (i - j)) := fun _ _ => iop_sub
theorem uy_neg : UnY Y (unaryOp .USub) (rU fun i => V.int (-i)) := fun _ _ => un_neg
theorem cy_len : CallY Y (.builtin "len") (rLenX Y.K) := by intro X h; rw [← h.K]; exact call_lenX
theorem cy_isi : CallY Y (.builtin "isinstance") (rIsi Y.K) := by intro X h; rw [← h.K]; exact call_isi
theorem cy_abs : CallY Y (.builtin "abs") (fun xs H Q => ∃ i : Int, xs = [.int i] ∧ Q (.int (if i < 0 then -i else i)) H) := fun _ _ => call_abs
theorem cy_int : CallY Y (.type "int") (fun xs H Q => (∃ i : Int, xs = [.int i] ∧ Q (.int i) H) ∨ ∃ k : Bool, xs = [.bl k] ∧ Q (.int (if k then 1 else 0)) H) := fun _ _ => call_int1
theorem cy_all : CallY Y (.builtin "all") (rAll Y.K) := by intro X h; rw [← h.K]; exact cr_all h.calm
theorem cy_any : CallY Y (.builtin "any") (rAny Y.K) := by intro X h; rw [← h.K]; exact cr_any h.calm
theorem cy_sum : CallY Y (.builtin "sum") (rSum Y.K) := by intro X h; rw [← h.K]; exact cr_sum h.calm
theorem cy_min : CallY Y (.builtin "min") (rMinX Y.K) := by intro X h; rw [← h.K]; exact call_minX h.calm
theorem cy_max : CallY Y (.builtin "max") (rMaxX Y.K) := by intro X h; rw [← h.K]; exact call_maxX h.calm
theorem cy_list : CallY Y (.type "list") (fun xs H Q => ∃ p ys, xs = [V.ref p] ∧ (SqL Y.K H p ys ∨ SqT Y.K H p ys) ∧ ∀ l, H l = none → Q (.ref l) (upd H l (.lst ys))) := by intro X h; rw [← h.K]; exact call_list_of
theorem cy_tuple : CallY Y (.type "tuple") (fun xs H Q => ∃ p ys, xs = [V.ref p] ∧ ((SqL Y.K H p ys ∧ ∀ l, H l = none → Q (.ref l) (upd H l (.tup ys))) ∨ (SqT Y.K H p ys ∧ Q (.ref p) H))) := by intro X h; rw [← h.K]; exact call_tuple_of
theorem cy_repr : CallY Y (.builtin "repr") (rRepr Y.K) := by intro X h; rw [← h.K]; exact call_reprD h.guards (by have := h.room.un; omega)
end
/-! ### truths as values, choices, chains, signs -/
def qvAnd (f g : Ev → Option D) : Ev → Option D := fun E => match f E with | some (.bl true) => g E | some (.bl false) => some (.bl false) | _ => none
def qvOr (f g : Ev → Option D) : Ev → Option D := fun E => match f E with | some (.bl true) => some (.bl true) | some (.bl false) => g E | _ => none
def qvNot (f : Ev → Option D) : Ev → Option D := fun E => match f E with | some (.bl b) => some (.bl (!b)) | _ => none
def evAnd (f g : Ev → Option (D × Ev)) : Ev → Option (D × Ev) := fun E => match f E with | some (.bl true, E1) => g E1 | some (.bl false, E1) => some (.bl false, E1) | _ => none
def evOr (f g : Ev → Option (D × Ev)) : Ev → Option (D × Ev) := fun E => match f E with | some (.bl true, E1) => some (.bl true, E1) | some (.bl false, E1) => g E1 | _ => none
def evNot (f : Ev → Option (D × Ev)) : Ev → Option (D × Ev) := fun E => match f E with | some (.bl b, E1) => some (.bl (!b), E1) | _ => none
def qIf (c : Ev → Option Bool) (f g : Ev → Option D) : Ev → Option D := fun E => match c E with | some true => f E | some false => g E | none => none
def eIf (c : Ev → Option (Bool × Ev)) (f g : Ev → Option (D × Ev)) : Ev → Option (D × Ev) := fun E => match c E with | some (true, E1) => f E1 | some (false, E1) => g E1 | none => none
def qCh (op op' : D → D → Option D) (fa fb fc : Ev → Option D) : Ev → Option D := fun E => match fa E with
  | some x => (match fb E with
    | some y => (match op x y with
      | some (.bl true) => (match fc E with | some z => op' y z | none => none)
      | some (.bl false) => some (.bl false)
      | _ => none)
    | none => none)
  | none => none
def q1f (op : D → Option D) (f : Ev → Option D) : Ev → Option D := fun E => match f E with | some x => op x | none => none
def e1f (op : D → Option D) (f : Ev → Option (D × Ev)) : Ev → Option (D × Ev) := fun E => match f E with | some (x, E1) => (match op x with | some d => some (d, E1) | none => none) | none => none
section
variable {Y : Fm} {a b c : Expr} {rest : List Expr} {pos : Pos} {K : PySem.W.Frag} {mg : Md}
theorem pq_one {op : BoolOp} {f} (h : PQ Y a f) : PQ Y (.BoolOp op [a] pos) f := let ⟨_, p, q⟩ := h; ⟨_, fun X h => pe_one (p X h), q⟩
theorem pd_one {op : BoolOp} {f} (h : PD Y a f) : PD Y (.BoolOp op [a] pos) f := let ⟨_, p, q⟩ := h; ⟨_, fun X h => pe_one (p X h), q⟩
theorem qt_and {t u : TE} {f g} (h : Qt K mg t f) (h' : Qt K mg u g) : Qt K mg (tAndV t u) (qvAnd f g) := by
  intro F H O σ E d e w s Q hQ
  unfold qvAnd at e
  split at e
  · rename_i ef
    refine h F H O σ E _ ef w s _ fun v F' H' A q r => ⟨true, r.bl_inv, ?_⟩
    rw [if_pos rfl]
    exact h' F' H' O σ E d e (q.own w) (q.rps s) Q fun v2 F2 H2 A2 q2 r2 => hQ v2 F2 H2 A2 (q.trans q2) r2
  · rename_i ef
    cases e
    refine h F H O σ E _ ef w s _ fun v F' H' A q r => ⟨false, r.bl_inv, ?_⟩
    rw [if_neg Bool.false_ne_true]
    exact hQ _ F' H' [] q (.bl _)
  · cases e
theorem qt_or {t u : TE} {f g} (h : Qt K mg t f) (h' : Qt K mg u g) : Qt K mg (tOrV t u) (qvOr f g) := by
  intro F H O σ E d e w s Q hQ
  unfold qvOr at e
  split at e
  · rename_i ef
    cases e
    refine h F H O σ E _ ef w s _ fun v F' H' A q r => ⟨true, r.bl_inv, ?_⟩
    rw [if_pos rfl]
    exact hQ _ F' H' [] q (.bl _)
  · rename_i ef
    refine h F H O σ E _ ef w s _ fun v F' H' A q r => ⟨false, r.bl_inv, ?_⟩
    rw [if_neg Bool.false_ne_true]
    exact h' F' H' O σ E d e (q.own w) (q.rps s) Q fun v2 F2 H2 A2 q2 r2 => hQ v2 F2 H2 A2 (q.trans q2) r2
  · cases e
theorem qt_not {t : TE} {f} (h : Qt K mg t f) : Qt K mg (tNotV t) (qvNot f) := by
  intro F H O σ E d e w s Q hQ
  unfold qvNot at e
  split at e
  · rename_i ef
    cases e
    exact h F H O σ E _ ef w s _ fun v F' H' A q r => ⟨_, r.bl_inv, hQ _ F' H' [] q (.bl _)⟩
  · cases e
theorem de_and {t u : TE} {f g} (h : De K mg t f) (h' : De K mg u g) : De K mg (tAndV t u) (evAnd f g) := by
  intro F H O σ E d E' e w s Q hQ
  unfold evAnd at e
  split at e
  · rename_i E1 ef
    refine h F H O σ E _ _ ef w s _ fun v F' H' A O' x w' r s' => ⟨true, r.bl_inv, ?_⟩
    rw [if_pos rfl]
    obtain ⟨_, z⟩ := r.isBl
    subst z
    exact h' F' H' O' σ E1 d E' e w' s' Q fun v2 F2 H2 A2 O2 x2 w2 r2 s2 => hQ v2 F2 H2 A2 O2 (x.trans x2) w2 r2 s2
  · rename_i E1 ef
    cases e
    refine h F H O σ E _ _ ef w s _ fun v F' H' A O' x w' r s' => ⟨false, r.bl_inv, ?_⟩
    rw [if_neg Bool.false_ne_true]
    obtain ⟨_, z⟩ := r.isBl
    subst z
    exact hQ _ F' H' [] O' x w' (.bl _) s'
  · cases e
theorem de_or {t u : TE} {f g} (h : De K mg t f) (h' : De K mg u g) : De K mg (tOrV t u) (evOr f g) := by
  intro F H O σ E d E' e w s Q hQ
  unfold evOr at e
  split at e
  · rename_i E1 ef
    cases e
    refine h F H O σ E _ _ ef w s _ fun v F' H' A O' x w' r s' => ⟨true, r.bl_inv, ?_⟩
    rw [if_pos rfl]
    obtain ⟨_, z⟩ := r.isBl
    subst z
    exact hQ _ F' H' [] O' x w' (.bl _) s'
  · rename_i E1 ef
    refine h F H O σ E _ _ ef w s _ fun v F' H' A O' x w' r s' => ⟨false, r.bl_inv, ?_⟩
    rw [if_neg Bool.false_ne_true]
    obtain ⟨_, z⟩ := r.isBl
    subst z
    exact h' F' H' O' σ E1 d E' e w' s' Q fun v2 F2 H2 A2 O2 x2 w2 r2 s2 => hQ v2 F2 H2 A2 O2 (x.trans x2) w2 r2 s2
  · cases e
theorem de_not {t : TE} {f} (h : De K mg t f) : De K mg (tNotV t) (evNot f) := by
  intro F H O σ E d E' e w s Q hQ
  unfold evNot at e
  split at e
  · rename_i b E1 ef
    cases e
    refine h F H O σ E _ _ ef w s _ fun v F' H' A O' x w' r s' => ⟨_, r.bl_inv, ?_⟩
    obtain ⟨_, z⟩ := r.isBl
    subst z
    exact hQ _ F' H' [] O' x w' (.bl _) s'
  · cases e
theorem pq_and {f g} (h : PQ Y a f) (h' : PQ Y (.BoolOp .And (b :: rest) pos) g) : PQ Y (.BoolOp .And (a :: b :: rest) pos) (qvAnd f g) := let ⟨_, p, q⟩ := h; let ⟨_, p', q'⟩ := h'; ⟨_, fun X h => pe_and (p X h) (p' X h), qt_and q q'⟩
theorem pq_or {f g} (h : PQ Y a f) (h' : PQ Y (.BoolOp .Or (b :: rest) pos) g) : PQ Y (.BoolOp .Or (a :: b :: rest) pos) (qvOr f g) := let ⟨_, p, q⟩ := h; let ⟨_, p', q'⟩ := h'; ⟨_, fun X h => pe_or (p X h) (p' X h), qt_or q q'⟩
theorem pq_not {f} (h : PQ Y a f) : PQ Y (.UnaryOp .Not a pos) (qvNot f) := let ⟨_, p, q⟩ := h; ⟨_, fun X h => pe_not (p X h), qt_not q⟩
theorem pd_and {f g} (h : PD Y a f) (h' : PD Y (.BoolOp .And (b :: rest) pos) g) : PD Y (.BoolOp .And (a :: b :: rest) pos) (evAnd f g) := let ⟨_, p, q⟩ := h; let ⟨_, p', q'⟩ := h'; ⟨_, fun X h => pe_and (p X h) (p' X h), de_and q q'⟩
theorem pd_or {f g} (h : PD Y a f) (h' : PD Y (.BoolOp .Or (b :: rest) pos) g) : PD Y (.BoolOp .Or (a :: b :: rest) pos) (evOr f g) := let ⟨_, p, q⟩ := h; let ⟨_, p', q'⟩ := h'; ⟨_, fun X h => pe_or (p X h) (p' X h), de_or q q'⟩
theorem pd_not {f} (h : PD Y a f) : PD Y (.UnaryOp .Not a pos) (evNot f) := let ⟨_, p, q⟩ := h; ⟨_, fun X h => pe_not (p X h), de_not q⟩
theorem pq_if {k f g} (h : TQ Y c k) (h1 : PQ Y a f) (h2 : PQ Y b g) : PQ Y (.IfExp c a b pos) (qIf k f g) := by
  obtain ⟨_, p, q⟩ := h
  obtain ⟨_, p1, q1⟩ := h1
  obtain ⟨_, p2, q2⟩ := h2
  refine ⟨_, fun X h => pe_ifExp (p X h) (p1 X h) (p2 X h), fun F H O σ E d e w s Q hQ => ?_⟩
  unfold qIf at e
  split at e
  · rename_i ec
    refine q F H O σ E true ec w s _ fun F' H' x => ?_
    rw [if_pos rfl]
    exact q1 F' H' O σ E d e (x.own w) (x.rps s) Q fun v2 F2 H2 A2 x2 r2 => hQ v2 F2 H2 A2 (x.trans x2) r2
  · rename_i ec
    refine q F H O σ E false ec w s _ fun F' H' x => ?_
    rw [if_neg Bool.false_ne_true]
    exact q2 F' H' O σ E d e (x.own w) (x.rps s) Q fun v2 F2 H2 A2 x2 r2 => hQ v2 F2 H2 A2 (x.trans x2) r2
  · cases e
theorem pd_if {k f g} (h : TD Y c k) (h1 : PD Y a f) (h2 : PD Y b g) : PD Y (.IfExp c a b pos) (eIf k f g) := by
  obtain ⟨_, p, q⟩ := h
  obtain ⟨_, p1, q1⟩ := h1
  obtain ⟨_, p2, q2⟩ := h2
  refine ⟨_, fun X h => pe_ifExp (p X h) (p1 X h) (p2 X h), fun F H O σ E d E' e w s Q hQ => ?_⟩
  unfold eIf at e
  split at e
  · rename_i E1 ec
    refine q F H O σ E true E1 ec w s _ fun F' H' O' x w' s' => ?_
    rw [if_pos rfl]
    exact q1 F' H' O' σ E1 d E' e w' s' Q fun v2 F2 H2 A2 O2 x2 w2 r2 s2 => hQ v2 F2 H2 A2 O2 (x.trans x2) w2 r2 s2
  · rename_i E1 ec
    refine q F H O σ E false E1 ec w s _ fun F' H' O' x w' s' => ?_
    rw [if_neg Bool.false_ne_true]
    exact q2 F' H' O' σ E1 d E' e w' s' Q fun v2 F2 H2 A2 O2 x2 w2 r2 s2 => hQ v2 F2 H2 A2 O2 (x.trans x2) w2 r2 s2
  · cases e
theorem qt_ch {ta tb tc : TE} {fa fb fc : Ev → Option D} {r r' : R2} {op op' : D → D → Option D} (hr : R2ok K mg r op) (hr' : R2ok K mg r' op') (ha : Qt K mg ta fa) (hb : Qt K mg tb fb) (hc : Qt K mg tc fc) : Qt K mg (tChain r r' ta tb tc) (qCh op op' fa fb fc) := by
  intro F H O σ E d e w s Q hQ
  unfold qCh at e
  split at e
  · rename_i dx ex
    split at e
    · rename_i dy ey
      split at e
      · rename_i eo
        split at e
        · rename_i dz ez
          refine q2 ha hb ex ey w s _ fun x y F' H' A B q rx ry => hr F' H' x y dx dy _ A B eo q.le rx ry _ fun v F2 H2 C q2 _ _ rv => ⟨true, rv.bl_inv, ?_⟩
          rw [if_pos rfl]
          have q12 := q.trans q2
          exact hc F2 H2 O σ E dz ez (q12.own w) (q12.rps s) _ fun z F3 H3 D3 q3 rz => hr' F3 H3 y z dy dz d _ _ e q3.le (q3.rp (q2.rp ry)) rz Q fun v4 F4 H4 C4 q4 _ _ r4 => hQ v4 F4 H4 C4 (q12.trans (q3.trans q4)) r4
        · cases e
      · rename_i eo
        cases e
        refine q2 ha hb ex ey w s _ fun x y F' H' A B q rx ry => hr F' H' x y dx dy _ A B eo q.le rx ry _ fun v F2 H2 C q2 _ _ rv => ⟨false, rv.bl_inv, ?_⟩
        rw [if_neg Bool.false_ne_true]
        exact hQ _ F2 H2 [] (q.trans q2) (.bl _)
      · cases e
    · cases e
  · cases e
theorem pq_chain {op op' : CmpOp} {r r' : R2} {f f' : D → D → Option D} {fa fb fc} (ho : OpY Y (compareOp op) r) (hr : R2ok Y.K Y.mg r f) (ho' : OpY Y (compareOp op') r') (hr' : R2ok Y.K Y.mg r' f') (ha : PQ Y a fa) (hb : PQ Y b fb) (hc : PQ Y c fc)
    (hm : lastMarks [op, op'] [b, c] = false := by with_unfolding_all rfl) : PQ Y (.Compare a [op, op'] [b, c] pos) (qCh f f' fa fb fc) :=
  let ⟨_, p1, q1⟩ := ha; let ⟨_, p2, q2⟩ := hb; let ⟨_, p3, q3⟩ := hc; ⟨_, fun X h => pe_chain (ho X h) (ho' X h) (p1 X h) (p2 X h) (p3 X h) hm, qt_ch hr hr' q1 q2 q3⟩
theorem tq_chain {op op' : CmpOp} {r r' : R2} {f f' : D → D → Option D} {fa fb fc} (ho : OpY Y (compareOp op) r) (hr : R2ok Y.K Y.mg r f) (ho' : OpY Y (compareOp op') r') (hr' : R2ok Y.K Y.mg r' f') (ha : PQ Y a fa) (hb : PQ Y b fb) (hc : PQ Y c fc)
    (hm : lastMarks [op, op'] [b, c] = false := by with_unfolding_all rfl) : TQ Y (.Compare a [op, op'] [b, c] pos) (tqf (qCh f f' fa fb fc)) :=
  let ⟨_, p1, q1⟩ := ha; let ⟨_, p2, q2⟩ := hb; let ⟨_, p3, q3⟩ := hc; ⟨_, fun X h => pt_chain (ho X h) (ho' X h) (p1 X h) (p2 X h) (p3 X h) hm, tq_b (qt_ch hr hr' q1 q2 q3)⟩
theorem pq_un {op : UnaryOp} {r : V → Hp → VK → Prop} {g : D → Option D} {f} (ho : UnY Y (unaryOp op) r) (hr : R1ok Y.K Y.mg r g) (ha : PQ Y a f) : PQ Y (.UnaryOp op a pos) (q1f g f) := by
  obtain ⟨_, p, q⟩ := ha
  refine ⟨_, fun X h => pe_un (ho X h) (p X h), fun F H O σ E d e w s Q hQ => ?_⟩
  unfold q1f at e
  split at e
  · rename_i dx ex
    exact q F H O σ E dx ex w s _ fun v F' H' A x rv => hr F' H' v dx d A e x.le rv Q fun u F2 H2 C x2 _ _ r2 => hQ u F2 H2 C (x.trans x2) r2
  · cases e
theorem pd_un {op : UnaryOp} {r : V → Hp → VK → Prop} {g : D → Option D} {f} (ho : UnY Y (unaryOp op) r) (hr : R1ok Y.K Y.mg r g) (ha : PD Y a f) : PD Y (.UnaryOp op a pos) (e1f g f) := by
  obtain ⟨_, p, q⟩ := ha
  refine ⟨_, fun X h => pe_un (ho X h) (p X h), fun F H O σ E d E' e w s Q hQ => ?_⟩
  unfold e1f at e
  split at e
  · rename_i dx E1 ex
    split at e
    · rename_i d' eo
      cases e
      refine q F H O σ E dx _ ex w s _ fun v F' H' A O' x w' rv s' => hr F' H' v dx d A eo w'.le rv Q fun u F2 H2 C x2 nd hf r2 => ?_
      exact hQ u F2 H2 C O' ((x.sub (fun _ m => m) fun b m => .inl (List.mem_append_right _ m)).trans (Ext.fresh (O := O') x2 hf)) (w'.right.fresh x2 nd hf r2.alive) r2 (x2.rps s')
    · cases e
  · cases e
end
/-! ### displays, quietly (items frozen) -/
def qTup (g : Ev → Option (List D)) : Ev → Option D := fun E => match g E with | some ds => (if isFzL ds = true ∧ ds.length ≤ sizeLine then some (.tup ds) else none) | none => none
def qLst (g : Ev → Option (List D)) : Ev → Option D := fun E => match g E with | some ds => (if isFzL ds = true ∧ ds.length ≤ sizeLine then some (.lst true ds) else none) | none => none
section
variable {Y : Fm} {es : List Expr} {pos : Pos}
theorem pq_tup {k} {g} (h : PQa Y es g) : PQ Y (.Tuple es k pos) (qTup g) := by
  obtain ⟨_, p, q⟩ := h
  refine ⟨_, fun X h => pe_tup (p X h), fun F H O σ E d e w s Q hQ => ?_⟩
  unfold qTup at e
  split at e
  · rename_i ds ed
    split at e
    · rename_i z
      cases e
      refine q F H O σ E ds ed w s _ fun vs F' H' A x r => ⟨by rw [r.length]; exact z.2, fun p hp => ?_⟩
      exact mk_tup x.le hp (by rw [r.length]; exact z.2) (r.nilOf z.1) fun v F2 H2 C x2 _ _ r2 => hQ v F2 H2 C (x.trans x2) r2
    · cases e
  · cases e
theorem pq_lst {g} (h : PQa Y es g) : PQ Y (.List es pos) (qLst g) := by
  obtain ⟨_, p, q⟩ := h
  refine ⟨_, fun X h => pe_lst (p X h), fun F H O σ E d e w s Q hQ => ?_⟩
  unfold qLst at e
  split at e
  · rename_i ds ed
    split at e
    · rename_i z
      cases e
      refine q F H O σ E ds ed w s _ fun vs F' H' A x r => ⟨by rw [r.length]; exact z.2, fun p hp => ?_⟩
      exact mk_lst x.le hp (by rw [r.length]; exact z.2) (r.nilOf z.1) fun v F2 H2 C x2 _ _ r2 => hQ v F2 H2 C (x.trans x2) r2
    · cases e
  · cases e
end
/-! ### return of a local name: the slot is given away -/
def sRetV (lk : Lks) (i : Nat) : Ev → Option Out := fun E => match E[i]? with
  | some (some d) => if isFz d = true then some (.ret d E) else if lk i = true then some (.ret (froz d) (E.set i (some (froz d)))) else some (.ret d (E.set i none))
  | _ => none
section
variable {Y : Fm} {lk : Lks} {pos : Pos}
theorem RpS.move {K : PySem.W.Frag} {mg : Md} {F H : Hp} {O : List Addr} {σ : L2.St} {E : Ev} {i : Nat} {d : D} (w : Own F H O) (s : RpS K mg F H σ E O) (e : E[i]? = some (some d)) : ∃ v A O', σ[i]? = some (some v) ∧ Rp K mg F H v d A ∧ RpS K mg F H σ (E.set i none) O' ∧ Own F H (A ++ O') ∧ ∀ b ∈ A ++ O', b ∈ O := by
  obtain ⟨v, A, O', es, r, s', pm⟩ := s.pull e
  exact ⟨v, A, O', es, r, s', w.perm pm.symm, fun b m => pm.mem_iff.mp m⟩
theorem sd_retV {i : Nat} {x : Str} {px : Pos} (hN : Y.N[i]? = some x) (hv : Vis Y.sc x) (hd : (x == ("__debug__" : Str)) = false := by decide) (hcd : (x == ("__classdict__" : Str)) = false := by decide) : SD Y (.Return (some (.Name x px)) pos) lk (sRetV lk i) := by
  refine ⟨_, fun X h => ps_ret (pe_var (h.nm hN) (h.vis hv) hd hcd), fun F H O σ E o e w s N h => ?_⟩
  unfold sRetV at e
  split at e
  · rename_i d ed
    split at e
    · rename_i z
      cases e
      obtain ⟨v, A, es, rv⟩ := s.get w ed
      have zA := rv.fz z
      subst zA
      exact ⟨v, es, h v σ F H [] O .refl Ext.refl w rv s⟩
    · split at e
      · cases e
        obtain ⟨v, A, es, rv, wA, sA, go⟩ := s.change w ed
        have rz := rv.freeze wA
        obtain ⟨O', s', w', x'⟩ := go _ _ _ _ (frz_ext wA) (Own.nil (frz_le wA)) rz
        exact ⟨v, es, h v σ _ _ [] O' .refl x' w' rz s'⟩
      · cases e
        obtain ⟨v, A, O', es, rv, s', w', sb⟩ := s.move w ed
        exact ⟨v, es, h v σ F H A O' .refl (Ext.refl.sub (fun _ m => m) fun b m => .inl (sb b m)) w' rv s'⟩
  · cases e
/-! a, b, c = x, y, z -/
def sPar3 (lk : Lks) (i j l : Nat) (f : Ev → Option (List D × Ev)) : Ev → Option Out := fun E => if (!lk i && !lk j && !lk l) = true then (match f E with | some ([d1, d2, d3], E1) => some (.nx (((E1.set i (some d1)).set j (some d2)).set l (some d3))) | _ => none) else none
theorem sd_par3 {i j l : Nat} {x y z : Str} {a b c : Expr} {px py pz pt : Pos} {kt k2 pt2} {f} (hN : Y.N.Nodup) (hi : Y.N[i]? = some x) (hj : Y.N[j]? = some y) (hl : Y.N[l]? = some z) (hij : i ≠ j) (hil : i ≠ l) (hjl : j ≠ l)
    (hx : Y.sc.names.lookup x = some .local) (hy : Y.sc.names.lookup y = some .local) (hz : Y.sc.names.lookup z = some .local) (ha : PDa Y [a, b, c] f)
    (hw : ∀ X, Y.Is X → swappedStores [.Tuple [.Name x px, .Name y py, .Name z pz] kt pt] (.Tuple [a, b, c] k2 pt2) X.env = pure (some [x, y, z]))
    (hs : ∀ X, Y.Is X → swapsWithSole [.Tuple [.Name x px, .Name y py, .Name z pz] kt pt] (.Tuple [a, b, c] k2 pt2) pos.line X.env = pure false := by intro _ _; rfl) :
    SD Y (.Assign [.Tuple [.Name x px, .Name y py, .Name z pz] kt pt] (.Tuple [a, b, c] k2 pt2) pos) lk (sPar3 lk i j l f) := by
  obtain ⟨_, p, q⟩ := ha
  refine ⟨_, fun X h => ps_par3 h.calm (h.nd hN) (h.nm hi) (h.nm hj) (h.nm hl) hij hil hjl (by rw [h.sc]; exact hx) (by rw [h.sc]; exact hy) (by rw [h.sc]; exact hz) (p X h) (hw X h) (hs X h), fun F H O σ E o e w s N h => ?_⟩
  unfold sPar3 at e
  split at e
  · rename_i hl'
    simp only [Bool.and_eq_true, Bool.not_eq_true'] at hl'
    split at e
    · rename_i d1 d2 d3 E1 ed
      cases e
      refine q F H O σ E _ E1 ed w s _ fun vs F' H' A O' x w' r s' => ?_
      cases r with
      | @cons v1 vs1 _ _ A1 A23 r1 r23 =>
        cases r23 with
        | @cons v2 vs2 _ _ A2 A3 r2 r3' =>
          obtain ⟨v3, e3, r3⟩ := r3'.one_inv
          subst e3
          refine ⟨v1, v2, v3, rfl, ?_⟩
          have pm : ((A1 ++ (A2 ++ A3)) ++ O').Perm (A3 ++ (A2 ++ (A1 ++ O'))) := by
            have p1 : (A1 ++ (A2 ++ A3)).Perm (A3 ++ (A2 ++ A1)) := by
              refine List.perm_append_comm.trans ?_
              rw [← List.append_assoc]
              exact List.Perm.append_right A1 List.perm_append_comm
            have p2 := List.Perm.append_right O' p1
            have e : (A3 ++ (A2 ++ A1)) ++ O' = A3 ++ (A2 ++ (A1 ++ O')) := by simp only [List.append_assoc]
            rw [e] at p2
            exact p2
          have w2 := w'.perm pm
          obtain ⟨O1, s1, w1, m1⟩ := s'.assign (i := i) w2.right.right r1
          have w3 : Own F' H' (A2 ++ O1) := w2.right.frame (Ext.refl.sub (fun b h => h) fun b h => .inr (m1 b h)) w1
          obtain ⟨O2, s2, w4, m2⟩ := s1.assign (i := j) w3 r2
          have w5 : Own F' H' (A3 ++ O2) := w2.frame (Ext.refl.sub (fun b h => h) fun b h => .inr (by
            rcases List.mem_append.mp (m2 b h) with m | m
            · exact List.mem_append_left _ m
            · exact List.mem_append_right _ (m1 b m))) w4
          obtain ⟨O3, s3, w6, m3⟩ := s2.assign (i := l) w5 r3
          refine h _ F' H' O3 ⟨by rw [List.length_set, List.length_set, List.length_set], fun k hk => ?_⟩ (x.sub (fun _ m => m) fun b m => .inl ?_) w6 s3
          · have n1 : i ≠ k := fun z => by rw [z, hk] at hl'; cases hl'.1.1
            have n2 : j ≠ k := fun z => by rw [z, hk] at hl'; cases hl'.1.2
            have n3 : l ≠ k := fun z => by rw [z, hk] at hl'; cases hl'.2
            rw [List.getElem?_set_ne n3, List.getElem?_set_ne n2, List.getElem?_set_ne n1]
          · refine pm.mem_iff.mpr ?_
            rcases List.mem_append.mp (m3 b m) with m | m
            · exact List.mem_append_left _ m
            · refine List.mem_append_right _ ?_
              rcases List.mem_append.mp (m2 b m) with m | m
              · exact List.mem_append_left _ m
              · exact List.mem_append_right _ (m1 b m)
    · cases e
  · cases e
/-! whose values the compiler swaps hangs on the scope alone -/
def envOf (sc : Scope) : Env := { scope := sc, locals := 0, globals := 0, cells := [] }
theorem sw_scope {ts : List Expr} {e : Expr} {X : Cx} (h : Y.Is X) : swappedStores ts e X.env = swappedStores ts e (envOf Y.sc) := by
  have h1 : X.env.blockKind = (envOf Y.sc).blockKind := by
    unfold Env.blockKind envOf
    rw [h.sc]
  have h2 : ∀ x, X.env.kindOf x = (envOf Y.sc).kindOf x := fun x => by
    unfold Env.kindOf envOf
    rw [h.sc]
  unfold swappedStores
  simp only [h1, h2]
end
end Dm

namespace Dm
open PySem PySem.Spec L2
open PyProof.Rows hiding St
/-! ### the defs of the module by name -/
/-- a def stands in the module -/
def Top (K : PySem.W.Frag) (mg : Str → Option Value) (x : Str) (st : Stmt) (ps : List Str) : Prop :=
  ∃ a fd, Fun K x x st a fd ∧ mg x = some (.ref a) ∧ Binds K fd ps []
/-- .. and keeps to g -/
def Ca (P : Program) (w : World) (K : PySem.W.Frag) (mg : Str → Option Value) (base : Heap) (k : Nat) (x : Str) (ps : List Str) (g : Fs) : Prop :=
  ∃ a fd, FnG P w K mg base k a fd ps g ∧ mg x = some (.ref a) ∧ PySem.W.keepIn K (.ref a) = true ∧ Binds K fd ps []
section
variable {P : Program} {w : World} {K : PySem.W.Frag} {mg : Str → Option Value} {base : Heap}
theorem Ca.mono {j k : Nat} {x : Str} {ps : List Str} {g : Fs} (c : Ca P w K mg base j x ps g) (h : j ≤ k) : Ca P w K mg base k x ps g :=
  let ⟨a, fd, G, r⟩ := c; ⟨a, fd, G.mono h, r⟩
theorem ca_of {x : Str} {st : Stmt} {N ps : List Str} {k : Nat} {b : Lks → Ev → Option Out} (T : Top K mg x st ps) (S : FnScope N ps (defScope st))
    (hb : ∀ lk, SDs ⟨P, w, K, mg, base, N, defScope st, fun _ => true, k⟩ (defBody st) lk (b lk)) : Ca P w K mg base (k + 1) x ps (runD N.length ps.length b) :=
  let ⟨a, fd, F, hm, hB⟩ := T; ⟨a, fd, fnG_of F S hb, hm, F.kp, hB⟩
theorem runD_len {n np : Nat} {b : Lks → Ev → Option Out} {ds : List D} {r : D × List D} (h : runD n np b ds = some r) : ds.length = np := by
  unfold runD at h
  split at h
  · assumption
  · cases h
theorem pd_callC {Y : Fm} {ps : List Str} {n np : Nat} {b : Lks → Ev → Option Out} {x : Str} {p pos : Pos} {e : Expr} {es : List Expr} {fx} (G : Ca Y.prog Y.w Y.K Y.mgf Y.base Y.k x ps (runD n np b)) (hg : GlY Y x) (ha : PX Y (e :: es) fx) (hn : ps.length = np := by rfl)
    (hdb : (x == ("__debug__" : Str)) = false := by decide) (he : ∀ X : Cx, starEach (e :: es) X.env = (false, eval e X.env) :: starEach es X.env := by intro _; rfl) (hpl : ∀ X : Cx, (backTo pos (starEach es X.env)).any (·.1) = false := by intro _; rfl) :
    PD Y (.Call (.Name x p) (e :: es) [] pos) (eCall (runD n np b) fx) :=
  let ⟨_, _, G, hm, hk, hB⟩ := G; pd_call G hg hm hk hB ha hdb he hpl fun _ _ h => (runD_len h).trans hn.symm
theorem top_mk {x : Str} {st : Stmt} {ps : List Str} {f : Addr} {oc : Value} {od an : Option Addr} {osl : Array (Option Value)} {kV doc pm cdv ct : Value} (hm : mg x = some (.ref f))
    (l : K.lookup f = some ⟨oc, od, .func (PySem.W.fnOf x x (defArgs st) (defBody st) (defScope st) .none kV doc pm an cdv ct), osl⟩) (c : PySem.W.codeIn K cdv x = true) (k : PySem.W.keepIn K (.ref f) = true)
    (h : ∀ (kV doc pm : Value) (an : Option Addr) (cdv ct : Value) (us : List Value), us.length = ps.length → bindArgs (PySem.W.fnOf x x (defArgs st) (defBody st) (defScope st) .none kV doc pm an cdv ct) ⟨us, []⟩ = pure (ps.zip us)) : Top K mg x st ps :=
  have F := fun_mk l c k
  ⟨f, _, F, hm, F.binds h⟩
end
/-- whether a value's comprehension swaps with its target hangs on the scope alone -/
theorem swl_scope {Y : Fm} {e : Expr} {t : Option Expr} {n : Nat} {X : Cx} (h : Y.Is X) : swapsWith e t n X.env = swapsWith e t n (envOf Y.sc) := by
  have h1 : X.env.blockKind = (envOf Y.sc).blockKind := by
    unfold Env.blockKind envOf
    rw [h.sc]
  have h2 : ∀ x, X.env.kindOf x = (envOf Y.sc).kindOf x := fun x => by
    unfold Env.kindOf envOf
    rw [h.sc]
  have h3 : X.env.scope = (envOf Y.sc).scope := h.sc
  unfold swapsWith
  simp only [h1, h2, h3]

/-! ### the law's head -/
theorem ints_rpl {K : PySem.W.Frag} {mg : Md} {F H : Hp} : ∀ ns : List Int, RpL K mg F H (ns.map V.int) (ns.map D.int) []
  | [] => .nil
  | n :: ns => .cons (O1 := []) (.int n) (ints_rpl ns)
theorem headG {P : Program} {w : World} {K : PySem.W.Frag} {mg mb : Str → Option Value} {k : Nat} {fa a : Addr} {fd : FuncData} {x : Str} {g : Fs} {s : Shared} {vs : List Value} {ns : List Int}
    (hK : K.In s.heap) (hn : s.heap.Ns mainGlobals mg) (hb : s.heap.Ns builtinsNs mb) (hbb : ∀ y : Str, y ≠ "__name__" → mb y = bootBuiltins y) (hl : s.heap.NoLimit) (hgen : s.gens = #[])
    (ho : s.heap.get? a = some { cls := .type "list", data := .seq vs.toArray }) (hi : IntsAre vs ns) (hz : ns.length ≤ sizeLine) (room : Room k callerA)
    (G : ∀ base : Heap, K.In base → base.Ns mainGlobals mg → FnG P w K mg base k fa fd [x] g) (bd : ∀ (s : Shared) (u : Value), BindsTo s fd ⟨[u], []⟩ [(x, u)])
    (hg : g [.scr (ns.map D.int)] = some (.bl true, [.scr (ns.map D.int)])) :
    codeAny (model P w) callerA (.call (.ref fa) ⟨[.ref a], []⟩) (fun r s' => r = .ok (.ret (.bool true)) ∧ OldK s.heap s'.heap ∧ s'.os = s.os ∧ AllBare s'.gens) s := by
  have vals : Vals (ns.map V.int) vs := vals_ints hi
  -- the walk from a heap H that tracks at most the script
  have walk : ∀ H : Hp, Only H → SqL K H a (ns.map V.int) → HOk P w H s.heap → (∀ c, H c ≠ none → c = a ∧ K.lookup a = none) →
      codeAny (model P w) callerA (.call (.ref fa) ⟨[.ref a], []⟩) (fun r s' => r = .ok (.ret (.bool true)) ∧ OldK s.heap s'.heap ∧ s'.os = s.os ∧ AllBare s'.gens) s := by
    intro H only seq ok track
    have dictFree : ∀ {c : Addr} {o : Obj} {es : Array DictEntry} {ep : Nat}, s.heap.get? c = some o → o.data = .dict es ep → H c = none := by
      intro c o es ep e d
      refine Classical.byContradiction fun n => ?_
      obtain ⟨e', _⟩ := track c n
      subst e'
      rw [ho] at e
      cases e
      cases (show Data.seq vs.toArray _ = Data.dict es ep from d)
    have ns' : ∀ {c : Addr} {m : Str → Option Value}, s.heap.Ns c m → (hidT s.heap H).Ns c m := by
      rintro c m ⟨o, es, ep, e, d, r⟩
      exact ⟨o, es, ep, hidT_get e (dictFree e d), d, r⟩
    have inK : K.In (hidT s.heap H) := by
      intro c o e
      refine hidT_get (hK c o e) (Classical.byContradiction fun n => ?_)
      obtain ⟨e', q⟩ := track c n
      subst e'
      rw [q] at e
      cases e
    have md : Mod K mg (hidT s.heap H) := ⟨inK, ns' hn, ⟨mb, ns' hb, hbb⟩, let ⟨mc, h1, h2⟩ := hl; ⟨mc, ns' h1, h2⟩⟩
    have env : Env0 P w K mg (hidT s.heap H) callerA [] s H :=
      ⟨rfl, md, fun _ _ e => of_hidT e, Nat.le_of_eq (hidT_size _ _), trivial, fun c hc => (List.not_mem_nil (a := c) hc).elim, ok, .of_eq hgen⟩
    have spec : SpD K ⟨mg, P, w⟩ g 1 [.ref a] H (fun v _ => v = .bl true) := by
      refine ⟨H, [.scr (ns.map D.int)], [], .bl true, [.scr (ns.map D.int)], hg, rfl, Own.nil (fun _ _ e => e), ?_, fun v F' H' A O' _ _ r _ => r.bl_inv⟩
      exact .cons (O1 := []) (.scr seq (by rw [List.length_map]; exact hz) (ints_rpl ns)) .nil
    refine codeAny_mono ((G _ inK (ns' hn)).run callerA [] s H ⟨[.ref a], []⟩ [.ref a] [.ref a] _ room rfl env (bd s (.ref a)) (.cons rfl .nil) spec) fun r s' h => ?_
    cases r with
    | error e => exact False.elim h
    | ok fl =>
      cases fl with
      | next => exact False.elim h
      | brk => exact False.elim h
      | cont => exact False.elim h
      | ret u =>
        obtain ⟨v, H', os, bare, und, ok', rv, q⟩ := h
        subst q
        have eu : u = Value.bool true := rv
        subst eu
        refine ⟨rfl, OldK.of_keep fun c o e => ?_, os, bare⟩
        by_cases hc : H c = none
        · exact und.keep c o e hc (fun z => (List.not_mem_nil (a := c) z).elim) (by simp)
        · rcases only c with z | ⟨ob, xs, z⟩
          · exact absurd z hc
          · have e1 := (ok c _ z).1
            have e2 := (ok' c _ (und.frzs c ob _ z)).1
            rw [e] at e1
            cases e1
            exact e2
  by_cases hk : K.lookup a = none
  · let H1 : Hp := fun c => if c = a then some (.frz { cls := .type "list", data := .seq vs.toArray } (.lst (ns.map V.int))) else none
    have hne : ∀ c, c ≠ a → H1 c = none := fun c n => if_neg n
    refine walk H1 (fun c => ?_) (.inl (.inr ⟨_, if_pos rfl⟩)) (fun c u z => ?_) fun c n => ⟨Classical.byContradiction fun q => n (hne c q), hk⟩
    · by_cases hc : c = a
      · exact .inr ⟨_, _, if_pos hc⟩
      · exact .inl (hne c hc)
    · have hc : c = a := Classical.byContradiction fun q => by rw [hne c q] at z; cases z
      have z' := (if_pos hc).symm.trans z
      cases z'
      subst hc
      exact ⟨ho, by rw [List.length_map]; exact hz, vs, _, vals, ho⟩
  · obtain ⟨o, ek⟩ : ∃ o, K.lookup a = some o := by
      cases q : K.lookup a with
      | none => exact absurd q hk
      | some o => exact ⟨o, rfl⟩
    have e := hK a o ek
    rw [ho] at e
    cases e
    exact walk (fun _ => none) (fun _ => .inl rfl) (.inr ⟨_, vs.toArray, _, ek, rfl, rfl, rfl, by rw [List.size_toArray, hi.length]; exact hz, by simpa using vals⟩)
      (fun c u z => by cases (show (none : Option HO) = some u from z)) fun c n => absurd rfl n
theorem walkG {l : PySem.W.OpenLaw} {n k : Nat} {q : Program} {loose : List Str} {XP : (Str → Option Value) → Heap → Prop} {YP : World → Heap → Prop} {d : DefRec} {K : Params → PySem.W.Frag} {x : Str} {g : Fs}
    (hm : l.most = some n) (hz : n ≤ sizeLine) (hdf : d.params.defaults = []) (room : Room k callerA) (hY : ∀ (w : World) (h : Heap), YP w h → (K w.params).In h)
    (F : ∀ (w : World) (mg : Str → Option Value) (fa : Addr) (h : Heap), (K w.params).In h → h.Ns mainGlobals mg → mg d.name = some (.ref fa) →
      ∃ fd : FuncData, (∀ (s : Shared) (u : Value), BindsTo s fd ⟨[u], []⟩ [(x, u)]) ∧ ∀ base : Heap, (K w.params).In base → base.Ns mainGlobals mg → FnG l.prog w (K w.params) mg base k fa fd [x] g)
    (hg : ∀ ns : List Int, ns.length ≤ n → g [.scr (ns.map D.int)] = some (.bl true, [.scr (ns.map D.int)])) :
    PySem.W.WalkO q loose XP YP l.row.toRowW d [] (fun f vs => PySem.call f vs) := by
  refine Att.attach_call hm hdf fun w s₀ s mg mb fa o pm cd doc a vs ns Gr Y _ _ _ hmg ho hi hlen hgen => ?_
  have hK := hY w _ Y
  obtain ⟨fd, bd, G⟩ := F w mg fa _ hK Gr.T.g hmg
  exact headG hK Gr.T.g Gr.T.b Gr.T.builtins Gr.T.nolimit hgen ho hi (Nat.le_trans hlen hz) room G bd (hg ns hlen)
end Dm

namespace Dm
open PySem PySem.Spec L2
open PyProof.Rows hiding St
/-! ### the list's methods by name -/
section
variable {Y : Fm} {i : Nat} {x : Str} {px apos cpos : Pos} {e : Expr} {es : List Expr} {g : Ev → Option (List D × Ev)} {name : Str} {id : String} {r : V → List V → Hp → VK → Prop} {op : List D → List D → Option (D × List D)}
theorem pd_mt1 (slot : Slot "list" name id) (hty : typeOf (.builtin id) = pure (.type "method_descriptor")) (hm : ∀ X, Y.Is X → MtR X id r) (hr : RMok Y.K Y.mg r op) (hN : Y.N[i]? = some x) (hv : Vis Y.sc x) (ha : PDa Y (e :: es) g)
    (hd : (x == ("__debug__" : Str)) = false := by decide) (hcd : (x == ("__classdict__" : Str)) = false := by decide)
    (hbase : ∀ X : Cx, attributeBase (.Name x px) name X.env (eval (.Name x px) X.env) = eval (.Name x px) X.env := by intro _; rfl)
    (hfew : ∀ X : Cx, ((backTo cpos (starEach (e :: es) X.env)).all (fun x => !x.1) && (backToKw cpos (keywordEach [] X.env)).all (fun x => x.1.isSome)
      && decide ((e :: es).length + ([] : List Keyword).length + (if ([] : List Keyword).isEmpty then 0 else 1) < 30)) = true := by intro _; rfl)
    (hline : (apos.endLine == cpos.line) = true := by rfl) (hs : ∀ X : Cx, starEach (e :: es) X.env = (false, eval e X.env) :: starEach es X.env := by intro _; rfl) (hplain : ∀ X : Cx, (backTo cpos (starEach es X.env)).any (·.1) = false := by intro _; rfl) :
    PD Y (.Call (.Attribute (.Name x px) name apos) (e :: es) [] cpos) (eMt i op g) := by
  refine pd_bm hr ha fun t X h p => ?_
  have q := pe_bm (name := name) (apos := apos) (cpos := cpos) PySem.F.plainAttrs_list slot hty (hm X h) (pe_var (pos := px) (h.nm hN) (h.vis hv) hd hcd) p (hbase X) (hfew X) hline (hs X) (hplain X)
  rw [h.K] at q
  exact q
theorem pd_mt0 (slot : Slot "list" name id) (hty : typeOf (.builtin id) = pure (.type "method_descriptor")) (hm : ∀ X, Y.Is X → MtR X id r) (hr : RMok Y.K Y.mg r op) (hN : Y.N[i]? = some x) (hv : Vis Y.sc x)
    (hd : (x == ("__debug__" : Str)) = false := by decide) (hcd : (x == ("__classdict__" : Str)) = false := by decide)
    (hbase : ∀ X : Cx, attributeBase (.Name x px) name X.env (eval (.Name x px) X.env) = eval (.Name x px) X.env := by intro _; rfl)
    (hline : (apos.endLine == cpos.line) = true := by rfl) :
    PD Y (.Call (.Attribute (.Name x px) name apos) [] [] cpos) (eMt i op eNil) := by
  refine ⟨_, fun X h => ?_, de_mt (t := fun _ H Q => Q [] H) hr fun F H O σ E ds E' e w s Q hQ => by cases e; exact hQ [] F H [] O Ext.refl w .nil s⟩
  have q := pe_bm0 (name := name) (apos := apos) (cpos := cpos) PySem.F.plainAttrs_list slot hty (hm X h) (pe_var (pos := px) (h.nm hN) (h.vis hv) hd hcd) (hbase X) hline
  rw [h.K] at q
  exact q
end
section
variable {Y : Fm}
theorem my_append : ∀ X, Y.Is X → MtR X "list.append" rAppend := fun _ _ => mt_append
theorem my_extend : ∀ X, Y.Is X → MtR X "list.extend" rExtend := fun _ _ => mt_extend
theorem my_pop : ∀ X, Y.Is X → MtR X "list.pop" rPop := fun _ _ => mt_pop
theorem my_popAt : ∀ X, Y.Is X → MtR X "list.pop" rPopAt := fun _ _ => mt_popAt
theorem my_reverse : ∀ X, Y.Is X → MtR X "list.reverse" rReverse := fun _ _ => mt_reverse
end
theorem bb_len : bootBuiltins "len" = some (.builtin "len") := by decide +kernel
theorem bb_isinstance : bootBuiltins "isinstance" = some (.builtin "isinstance") := by decide +kernel
theorem bb_abs : bootBuiltins "abs" = some (.builtin "abs") := by decide +kernel
theorem bb_all : bootBuiltins "all" = some (.builtin "all") := by decide +kernel
theorem bb_any : bootBuiltins "any" = some (.builtin "any") := by decide +kernel
theorem bb_sum : bootBuiltins "sum" = some (.builtin "sum") := by decide +kernel
theorem bb_min : bootBuiltins "min" = some (.builtin "min") := by decide +kernel
theorem bb_max : bootBuiltins "max" = some (.builtin "max") := by decide +kernel
theorem bb_repr : bootBuiltins "repr" = some (.builtin "repr") := by decide +kernel
theorem bb_int : bootBuiltins "int" = some (.type "int") := by decide +kernel
theorem bb_bool : bootBuiltins "bool" = some (.type "bool") := by decide +kernel
theorem bb_str : bootBuiltins "str" = some (.type "str") := by decide +kernel
theorem bb_list : bootBuiltins "list" = some (.type "list") := by decide +kernel
theorem bb_tuple : bootBuiltins "tuple" = some (.type "tuple") := by decide +kernel
theorem bb_dict : bootBuiltins "dict" = some (.type "dict") := by decide +kernel
end Dm
namespace Dm
open PySem PySem.Spec L2
def blkChk (N : List Str) (sc scope : Scope) (own : List (Str × Nat)) : Bool :=
  decide (scope.kind = .function) && (scope.names.all fun y => decide (scope.names.lookup y.1 = some y.2)) && (own.all fun p => decide (N[p.2]? = some p.1)) &&
  (scope.names.all fun y => !decide (y.2 = .free) || decide (sc.names.lookup y.1 = some .cell) || decide (sc.names.lookup y.1 = some .free)) &&
  (scope.names.all fun y => !(decide (y.2 = .local) || decide (y.2 = .cell)) || decide (y.1 ∈ own.map (·.1)) || !decide (y.1 ∈ N))
theorem blk_mk {N : List Str} {sc scope : Scope} {own : List (Str × Nat)} (h : blkChk N sc scope own = true) : BlkOk N sc scope own := by
  unfold blkChk at h
  simp only [Bool.and_eq_true, List.all_eq_true, Bool.or_eq_true, Bool.not_eq_true', decide_eq_true_eq, decide_eq_false_iff_not, Bool.or_eq_false_iff] at h
  obtain ⟨⟨⟨⟨h1, h2⟩, h3⟩, h4⟩, h5⟩ := h
  refine ⟨h1, h2, h3, fun y hy e => ?_, fun y hy e => ?_⟩
  · rcases h4 y hy with (q | q) | q
    · exact absurd e q
    · exact .inl q
    · exact .inr q
  · rcases h5 y hy with (q | q) | q
    · rcases e with e | e
      · exact absurd e q.1
      · exact absurd e q.2
    · exact .inl q
    · exact .inr q
end Dm

namespace Dm
open PySem
/-! ### helps for the plain mathematics -/
theorem outsD_same : ∀ (ds : List D) (E : Ev), outsD ds (ds.map some ++ E) = some ds
  | [], _ => rfl
  | d :: ds, E => by
    show outsD (d :: ds) (some d :: (ds.map some ++ E)) = _
    unfold outsD
    rw [outsD_same ds E]
    by_cases h : isFz d = true
    · simp [h]
    · simp [h]
theorem runD_same {n np : Nat} {b : Lks → Ev → Option Out} {ds : List D} {d : D} (E' : Ev) (hl : ds.length = np) (h : b (lkOf ds) (ds.map some ++ List.replicate (n - np) none) = some (.ret d (ds.map some ++ E'))) : runD n np b ds = some (d, ds) := by
  unfold runD
  rw [if_pos hl, h]
  show (match outsD ds (ds.map some ++ E') with | some os => some (d, os) | none => none) = _
  rw [outsD_same]
mutual
theorem froz_fz : ∀ d : D, isFz d = true → froz d = d
  | .tup xs, h => by
    simp only [isFz] at h
    simp only [froz, frozL_fz xs h]
  | .lst o xs, h => by
    simp only [isFz, Bool.and_eq_true, Bool.not_eq_true'] at h
    rw [h.1]
    simp only [froz, frozL_fz xs h.2]
  | .dic o ks vs, h => by
    simp only [isFz, Bool.and_eq_true, Bool.not_eq_true'] at h
    rw [h.1]
    simp only [froz, frozL_fz vs h.2]
  | .scr _, _ => by simp only [froz]
  | .non, _ => by simp only [froz]
  | .bl _, _ => by simp only [froz]
  | .int _, _ => by simp only [froz]
  | .str _, _ => by simp only [froz]
  | .fn _, _ => by simp only [froz]
  | .ty _, _ => by simp only [froz]
  | .ins o _ _ vs, h => by
    simp only [isFz, Bool.and_eq_true, Bool.not_eq_true'] at h
    rw [h.1]
    simp only [froz, frozL_fz vs h.2]
theorem frozL_fz : ∀ xs : List D, isFzL xs = true → frozL xs = xs
  | [], _ => by simp only [frozL]
  | x :: xs, h => by
    simp only [isFzL, Bool.and_eq_true] at h
    simp only [frozL, froz_fz x h.1, frozL_fz xs h.2]
end
theorem isFzL_map {α : Type} (f : α → D) (h : ∀ a, isFz (f a) = true) (xs : List α) : isFzL (xs.map f) = true := by
  rw [isFzL_all, List.all_map, List.all_eq_true]
  exact fun a _ => h a
theorem frozL_mapT {α : Type} (f : α → D) (h : ∀ a, isFz (f a) = true) (xs : List α) : frozL (xs.map f) = xs.map f := frozL_fz _ (isFzL_map f h xs)
theorem fz_int (i : Int) : isFz (.int i) = true := rfl
theorem fz_ints (ns : List Int) : isFzL (ns.map D.int) = true := isFzL_map _ fz_int ns
theorem frozL_ints (ns : List Int) : frozL (ns.map D.int) = ns.map D.int := frozL_mapT _ fz_int ns
/-! statements -/
theorem sSeq_nx {g1 g2 : Ev → Option Out} {E E1 : Ev} {r : Option Out} (h : g1 E = some (.nx E1)) (h2 : g2 E1 = r) : sSeq g1 g2 E = r := by
  unfold sSeq
  rw [h]
  exact h2
theorem sSeq_ret {g1 g2 : Ev → Option Out} {E E1 : Ev} {d : D} (h : g1 E = some (.ret d E1)) : sSeq g1 g2 E = some (.ret d E1) := by
  unfold sSeq
  rw [h]
theorem sIf_t {c : Ev → Option (Bool × Ev)} {g1 g2 : Ev → Option Out} {E E1 : Ev} {r : Option Out} (h : c E = some (true, E1)) (h2 : g1 E1 = r) : sIf c g1 g2 E = r := by
  unfold sIf
  rw [h]
  exact h2
theorem sIf_f {c : Ev → Option (Bool × Ev)} {g1 g2 : Ev → Option Out} {E E1 : Ev} {r : Option Out} (h : c E = some (false, E1)) (h2 : g2 E1 = r) : sIf c g1 g2 E = r := by
  unfold sIf
  rw [h]
  exact h2
theorem sRet_of {f : Ev → Option (D × Ev)} {E E1 : Ev} {d : D} (h : f E = some (d, E1)) : sRet f E = some (.ret d E1) := by
  unfold sRet
  rw [h]
theorem sExpr_of {f : Ev → Option (D × Ev)} {E E1 : Ev} {d : D} (h : f E = some (d, E1)) : sExpr f E = some (.nx E1) := by
  unfold sExpr
  rw [h]
theorem sAsg_of {lk : Lks} {ts : List Nat} {f : Ev → Option (D × Ev)} {g : D → Ev → Option Ev} {E E1 E2 : Ev} {d : D} (hl : ts.all (fun i => !lk i) = true) (h : f E = some (d, E1)) (h2 : g d E1 = some E2) : sAsg lk ts f g E = some (.nx E2) := by
  unfold sAsg
  rw [if_pos hl, h]
  show (match g d E1 with | some E2 => some (Out.nx E2) | none => none) = _
  rw [h2]
theorem sPar_of {lk : Lks} {i j : Nat} {f : Ev → Option (List D × Ev)} {E E1 : Ev} {d1 d2 : D} (hl : (!lk i && !lk j) = true) (h : f E = some ([d1, d2], E1)) : sPar lk i j f E = some (.nx ((E1.set i (some d1)).set j (some d2))) := by
  unfold sPar
  rw [if_pos hl, h]
theorem eCons_of {f : Ev → Option (D × Ev)} {g : Ev → Option (List D × Ev)} {E E1 E2 : Ev} {d : D} {ds : List D} (h : f E = some (d, E1)) (h2 : g E1 = some (ds, E2)) : eCons f g E = some (d :: ds, E2) := by
  unfold eCons
  rw [h]
  show (match g E1 with | some (ds, E2) => some (d :: ds, E2) | none => none) = _
  rw [h2]
theorem eCall_of {g : Fs} {fx : Ev → Option (List ArgV × Ev)} {E E1 E2 : Ev} {as : List ArgV} {ds os : List D} {d : D} (h : fx E = some (as, E1)) (h2 : gather as E1 = some (ds, E2)) (h3 : g ds = some (d, os)) : eCall g fx E = some (d, putBack as os E2) := by
  unfold eCall
  rw [h]
  show (match gather as E1 with | some (ds, E2) => (match g ds with | some (ret, outs) => some (ret, putBack as outs E2) | none => none) | none => none) = _
  rw [h2]
  show (match g ds with | some (ret, outs) => some (ret, putBack as outs E2) | none => none) = _
  rw [h3]
theorem eIf_t {c : Ev → Option (Bool × Ev)} {f g : Ev → Option (D × Ev)} {E E1 : Ev} {r : Option (D × Ev)} (h : c E = some (true, E1)) (h2 : f E1 = r) : eIf c f g E = r := by
  unfold eIf
  rw [h]
  exact h2
theorem eIf_f {c : Ev → Option (Bool × Ev)} {f g : Ev → Option (D × Ev)} {E E1 : Ev} {r : Option (D × Ev)} (h : c E = some (false, E1)) (h2 : g E1 = r) : eIf c f g E = r := by
  unfold eIf
  rw [h]
  exact h2
theorem e1L_of {op : List D → Option D} {g : Ev → Option (List D × Ev)} {E E1 : Ev} {ds : List D} {d : D} (h : g E = some (ds, E1)) (h2 : op ds = some d) : e1L op g E = some (d, E1) := by
  unfold e1L
  rw [h]
  show (match op ds with | some d => some (d, E1) | none => none) = _
  rw [h2]
theorem e2f_of {op : D → D → Option D} {f g : Ev → Option (D × Ev)} {E E1 E2 : Ev} {x y d : D} (h : f E = some (x, E1)) (h2 : g E1 = some (y, E2)) (h3 : op x y = some d) : e2f op f g E = some (d, E2) := by
  unfold e2f
  rw [h]
  show (match g E1 with | some (y, E2) => (match op x y with | some d => some (d, E2) | none => none) | none => none) = _
  rw [h2]
  show (match op x y with | some d => some (d, E2) | none => none) = _
  rw [h3]
theorem n2f_of {op : D → D → Option D} {f g : Ev → Option D} {E : Ev} {x y d : D} (h : f E = some x) (h2 : g E = some y) (h3 : op x y = some d) : n2f op f g E = some (d, E) := by
  unfold n2f
  rw [h, h2]
  show (match op x y with | some d => some (d, E) | none => none) = _
  rw [h3]
theorem q2f_of {op : D → D → Option D} {f g : Ev → Option D} {E : Ev} {x y d : D} (h : f E = some x) (h2 : g E = some y) (h3 : op x y = some d) : q2f op f g E = some d := by
  unfold q2f
  rw [h, h2]
  exact h3
theorem q1L_of {op : List D → Option D} {g : Ev → Option (List D)} {E : Ev} {ds : List D} {d : D} (h : g E = some ds) (h2 : op ds = some d) : q1L op g E = some d := by
  unfold q1L
  rw [h]
  exact h2
theorem n1L_of {op : List D → Option D} {g : Ev → Option (List D)} {E : Ev} {ds : List D} {d : D} (h : g E = some ds) (h2 : op ds = some d) : n1L op g E = some (d, E) := by
  unfold n1L
  rw [h]
  show (match op ds with | some d => some (d, E) | none => none) = _
  rw [h2]
theorem eOf_of {f : Ev → Option D} {E : Ev} {d : D} (h : f E = some d) (hz : isFz d = true) : eOf f E = some (d, E) := by
  unfold eOf
  rw [h]
  show (if isFz d = true then some (d, E) else none) = _
  rw [if_pos hz]
theorem eVar_fz {i : Nat} {E : Ev} {d : D} (h : E[i]? = some (some d)) (hz : isFz d = true) : eVar i E = some (d, E) := by
  unfold eVar
  rw [h]
  show (if isFz d = true then some (d, E) else _) = _
  rw [if_pos hz]
theorem eMt_of {i : Nat} {op : List D → List D → Option (D × List D)} {g : Ev → Option (List D × Ev)} {E E1 : Ev} {xs0 xs xs' ds : List D} {d : D} (h0 : E[i]? = some (some (.lst true xs0))) (h : g E = some (ds, E1)) (h1 : E1[i]? = some (some (.lst true xs))) (h2 : op xs ds = some (d, xs')) :
    eMt i op g E = some (d, E1.set i (some (.lst true xs'))) := by
  unfold eMt
  rw [h0]
  show (match g E with | some (ds, E1) => (match E1[i]? with | some (some (.lst true xs)) => (match op xs ds with | some (d, xs') => some (d, E1.set i (some (.lst true xs'))) | none => none) | _ => none) | none => none) = _
  rw [h]
  show (match E1[i]? with | some (some (.lst true xs)) => (match op xs ds with | some (d, xs') => some (d, E1.set i (some (.lst true xs'))) | none => none) | _ => none) = _
  rw [h1]
  show (match op xs ds with | some (d, xs') => some (d, E1.set i (some (.lst true xs'))) | none => none) = _
  rw [h2]
theorem tdf_of {f : Ev → Option (D × Ev)} {E E1 : Ev} {b : Bool} (h : f E = some (.bl b, E1)) : tdf f E = some (b, E1) := by
  unfold tdf
  rw [h]
  rfl
theorem tqf_of {f : Ev → Option D} {E : Ev} {b : Bool} (h : f E = some (.bl b)) : tqf f E = some b := by
  unfold tqf
  rw [h]
  rfl
theorem tOfQ_of {f : Ev → Option Bool} {E : Ev} {b : Bool} (h : f E = some b) : tOfQ f E = some (b, E) := by
  unfold tOfQ
  rw [h]
theorem dNot_of {f : Ev → Option (Bool × Ev)} {E E1 : Ev} {b : Bool} (h : f E = some (b, E1)) : dNot f E = some (!b, E1) := by
  unfold dNot
  rw [h]
theorem qNot_of {f : Ev → Option Bool} {E : Ev} {b : Bool} (h : f E = some b) : qNot f E = some (!b) := by
  unfold qNot
  rw [h]
theorem dOr_t {f g : Ev → Option (Bool × Ev)} {E E1 : Ev} (h : f E = some (true, E1)) : dOr f g E = some (true, E1) := by
  unfold dOr
  rw [h]
theorem dOr_f {f g : Ev → Option (Bool × Ev)} {E E1 : Ev} {r} (h : f E = some (false, E1)) (h2 : g E1 = r) : dOr f g E = r := by
  unfold dOr
  rw [h]
  exact h2
theorem dAnd_t {f g : Ev → Option (Bool × Ev)} {E E1 : Ev} {r} (h : f E = some (true, E1)) (h2 : g E1 = r) : dAnd f g E = r := by
  unfold dAnd
  rw [h]
  exact h2
theorem dAnd_f {f g : Ev → Option (Bool × Ev)} {E E1 : Ev} (h : f E = some (false, E1)) : dAnd f g E = some (false, E1) := by
  unfold dAnd
  rw [h]
theorem qAnd_of {f g : Ev → Option Bool} {E : Ev} {a b : Bool} (h : f E = some a) (h2 : a = true → g E = some b) : qAnd f g E = some (a && b) := by
  unfold qAnd
  rw [h]
  cases a
  · rfl
  · rw [Bool.true_and]; exact h2 rfl
theorem qOr_of {f g : Ev → Option Bool} {E : Ev} {a b : Bool} (h : f E = some a) (h2 : a = false → g E = some b) : qOr f g E = some (a || b) := by
  unfold qOr
  rw [h]
  cases a
  · rw [Bool.false_or]; exact h2 rfl
  · rfl
theorem qvAnd_of {f g : Ev → Option D} {E : Ev} {a b : Bool} (h : f E = some (.bl a)) (h2 : a = true → g E = some (.bl b)) : qvAnd f g E = some (.bl (a && b)) := by
  unfold qvAnd
  rw [h]
  cases a
  · rfl
  · rw [Bool.true_and]; exact h2 rfl
theorem qvOr_of {f g : Ev → Option D} {E : Ev} {a b : Bool} (h : f E = some (.bl a)) (h2 : a = false → g E = some (.bl b)) : qvOr f g E = some (.bl (a || b)) := by
  unfold qvOr
  rw [h]
  cases a
  · rw [Bool.false_or]; exact h2 rfl
  · rfl
theorem evAnd_of {f g : Ev → Option (D × Ev)} {E E1 : Ev} {a b : Bool} (h : f E = some (.bl a, E1)) (h2 : a = true → g E1 = some (.bl b, E1)) : evAnd f g E = some (.bl (a && b), E1) := by
  unfold evAnd
  rw [h]
  cases a
  · rfl
  · rw [Bool.true_and]; exact h2 rfl
/-! comprehensions over typed lists, without lasting changes -/
theorem compL_typed {α : Type} {own : List Nat} {g : D → Ev → Option Ev} {tt : Ev → Option (Bool × Ev)} {el : Ev → Option (D × Ev)} (enc : α → D) (b : α → Bool) (y : α → D) {E0 : Ev} : ∀ (ts : List α),
    (∀ t ∈ ts, ∃ E1 E2, g (enc t) E0 = some E1 ∧ tt E1 = some (b t, E2) ∧ (b t = false → wipeE E2 own = E0) ∧ (b t = true → ∃ E3, el E2 = some (y t, E3) ∧ wipeE E3 own = E0)) →
    compL own g tt el (ts.map enc) E0 = some ((ts.filter b).map y, E0)
  | [], _ => rfl
  | t :: ts, h => by
    obtain ⟨E1, E2, h1, h2, h3, h4⟩ := h t List.mem_cons_self
    have ih := compL_typed enc b y ts fun t m => h t (List.mem_cons_of_mem _ m)
    rw [List.map_cons, compL, h1]
    show (match tt E1 with | some (false, E2) => _ | some (true, E2) => _ | none => _) = _
    rw [h2]
    cases hb : b t with
    | false =>
      show compL own g tt el (ts.map enc) (wipeE E2 own) = _
      rw [h3 hb, ih, List.filter_cons_of_neg (by rw [hb]; exact Bool.false_ne_true)]
    | true =>
      obtain ⟨E3, h5, h6⟩ := h4 hb
      show (match el E2 with | some (d, E3) => (match compL own g tt el (ts.map enc) (wipeE E3 own) with | some (ds, E4) => some (d :: ds, E4) | none => none) | none => none) = _
      rw [h5]
      show (match compL own g tt el (ts.map enc) (wipeE E3 own) with | some (ds, E4) => some (y t :: ds, E4) | none => none) = _
      rw [h6, ih, List.filter_cons_of_pos hb, List.map_cons]
theorem eComp_typed {α : Type} {own : List Nat} {fi : Ev → Option (List D × Ev)} {g : D → Ev → Option Ev} {tt : Ev → Option (Bool × Ev)} {el : Ev → Option (D × Ev)} (enc : α → D) (b : α → Bool) (y : α → D) (ts : List α) {E E1 E0 E' : Ev}
    (hi : fi E = some (ts.map enc, E1)) (ho : ownFz E1 own = true) (hw : wipeE E1 own = E0) (hb : backE E1 E0 own = E') (hl : ts.length ≤ sizeLine)
    (h : ∀ t ∈ ts, ∃ E1 E2, g (enc t) E0 = some E1 ∧ tt E1 = some (b t, E2) ∧ (b t = false → wipeE E2 own = E0) ∧ (b t = true → ∃ E3, el E2 = some (y t, E3) ∧ wipeE E3 own = E0)) :
    eComp own fi g tt el E = some (.lst true ((ts.filter b).map y), E') := by
  unfold eComp
  rw [hi]
  show (if ownFz E1 own = true then (match compL own g tt el (ts.map enc) (wipeE E1 own) with | some (ds, E2) => (if ds.length ≤ sizeLine then some (D.lst true ds, backE E1 E2 own) else none) | none => none) else none) = _
  rw [if_pos ho, hw, compL_typed enc b y ts h]
  show (if ((ts.filter b).map y).length ≤ sizeLine then some (D.lst true ((ts.filter b).map y), backE E1 E0 own) else none) = _
  rw [if_pos (by rw [List.length_map]; exact Nat.le_trans (List.length_filter_le _ _) hl), hb]
/-- .. all of them kept -/
theorem eComp_all {α : Type} {own : List Nat} {fi : Ev → Option (List D × Ev)} {g : D → Ev → Option Ev} {el : Ev → Option (D × Ev)} (enc : α → D) (y : α → D) (ts : List α) {E E1 E0 E' : Ev}
    (hi : fi E = some (ts.map enc, E1)) (ho : ownFz E1 own = true) (hw : wipeE E1 own = E0) (hb : backE E1 E0 own = E') (hl : ts.length ≤ sizeLine)
    (h : ∀ t ∈ ts, ∃ E1 E3, g (enc t) E0 = some E1 ∧ el E1 = some (y t, E3) ∧ wipeE E3 own = E0) :
    eComp own fi g dYes el E = some (.lst true (ts.map y), E') := by
  have q := eComp_typed (tt := dYes) enc (fun _ => true) y ts hi ho hw hb hl fun t m => by
    obtain ⟨E1, E3, h1, h2, h3⟩ := h t m
    exact ⟨E1, E1, h1, rfl, fun e => (Bool.false_ne_true e.symm).elim, fun _ => ⟨E3, h2, h3⟩⟩
  rw [List.filter_eq_self.mpr (fun _ _ => rfl)] at q
  exact q
theorem compQ_typed {α : Type} {own : List Nat} {i : Nat} {c : Bool} {g : D → Ev → Option Ev} {tt : Ev → Option (Bool × Ev)} {el : Ev → Option (D × Ev)} (enc : α → D) (b : α → Bool) (y : α → D) (ts : List α) {E0 : Ev} (hE : E0[i]? = some (some (.lst c (ts.map enc)))) (hz : ∀ t, isFz (enc t) = true)
    (h : ∀ t ∈ ts, ∃ E1 E2, g (enc t) E0 = some E1 ∧ tt E1 = some (b t, E2) ∧ (b t = false → wipeE E2 own = E0) ∧ (b t = true → ∃ E3, el E2 = some (y t, E3) ∧ wipeE E3 own = E0)) :
    ∀ (n k : Nat), k ≤ ts.length → ts.length < n + k → compQ i own g tt el n k E0 = some (((ts.drop k).filter b).map y, E0) := by
  intro n
  induction n with
  | zero => intro k h1 h2; omega
  | succ n ih =>
    intro k h1 h2
    unfold compQ
    rw [hE]
    show (match (ts.map enc)[k]? with | none => _ | some x => _) = _
    rw [List.getElem?_map]
    by_cases hk : k < ts.length
    · rw [List.getElem?_eq_getElem hk, List.drop_eq_getElem_cons hk]
      show (if isFz (enc ts[k]) = true then _ else _) = _
      rw [if_pos (hz _)]
      obtain ⟨E1, E2, q1, q2, q3, q4⟩ := h ts[k] (List.getElem_mem hk)
      rw [q1]
      show (match tt E1 with | some (false, E2) => _ | some (true, E2) => _ | none => _) = _
      rw [q2]
      have ih' := ih (k + 1) hk (by omega)
      cases hb : b ts[k] with
      | false =>
        show compQ i own g tt el n (k + 1) (wipeE E2 own) = _
        rw [q3 hb, ih', List.filter_cons_of_neg (by rw [hb]; exact Bool.false_ne_true)]
      | true =>
        obtain ⟨E3, h5, h6⟩ := q4 hb
        show (match el E2 with | some (d, E3) => (match compQ i own g tt el n (k + 1) (wipeE E3 own) with | some (ds, E4) => some (d :: ds, E4) | none => none) | none => none) = _
        rw [h5]
        show (match compQ i own g tt el n (k + 1) (wipeE E3 own) with | some (ds, E4) => some (y ts[k] :: ds, E4) | none => none) = _
        rw [h6, ih', List.filter_cons_of_pos hb, List.map_cons]
    · have e : k = ts.length := by omega
      subst e
      rw [List.getElem?_eq_none (Nat.le_refl _), List.drop_length]
      rfl
theorem eCompQ_typed {α : Type} {own : List Nat} {i : Nat} {g : D → Ev → Option Ev} {tt : Ev → Option (Bool × Ev)} {el : Ev → Option (D × Ev)} (enc : α → D) (b : α → Bool) (y : α → D) (ts : List α) {E E0 E' : Ev} {d0 : D} (hE : E[i]? = some (some d0)) (hd : d0 = .lst true (ts.map enc) ∨ d0 = .lst false (ts.map enc) ∨ d0 = .tup (ts.map enc) ∨ d0 = .scr (ts.map enc)) (hz : ∀ t, isFz (enc t) = true)
    (ho : ownFz E own = true) (hw : wipeE E own = E0) (hi : E0[i]? = E[i]?) (hb : backE E E0 own = E') (hl : ts.length < 1000000)
    (h : ∀ t ∈ ts, ∃ E1 E2, g (enc t) E0 = some E1 ∧ tt E1 = some (b t, E2) ∧ (b t = false → wipeE E2 own = E0) ∧ (b t = true → ∃ E3, el E2 = some (y t, E3) ∧ wipeE E3 own = E0)) :
    eCompQ own i g tt el E = some (.lst true ((ts.filter b).map y), E') := by
  have hl2 : ts.length ≤ sizeLine := Nat.le_trans (Nat.le_of_lt hl) (by decide)
  have stat : iSeq (eVar i) E = some (ts.map enc, E) → eComp own (iSeq (eVar i)) g tt el E = some (.lst true ((ts.filter b).map y), E') := fun q =>
    eComp_typed enc b y ts q ho hw hb hl2 h
  have fzL := isFzL_map enc hz ts
  unfold eCompQ
  rw [hE]
  rcases hd with e | e | e | e
  · subst e
    show (if isFzL (ts.map enc) = true then (if ownFz E own = true then (match compQ i own g tt el whileFuel 0 (wipeE E own) with | some (ds, E2) => (if ds.length ≤ sizeLine then some (D.lst true ds, backE E E2 own) else none) | none => none) else none) else eComp own (iSeq (eVar i)) g tt el E) = _
    rw [if_pos fzL, if_pos ho, hw, compQ_typed enc b y ts (hi.trans hE) hz h whileFuel 0 (Nat.zero_le _) hl, List.drop_zero]
    show (if ((ts.filter b).map y).length ≤ sizeLine then some (D.lst true ((ts.filter b).map y), backE E E0 own) else none) = _
    rw [if_pos (by rw [List.length_map]; exact Nat.le_trans (List.length_filter_le _ _) hl2), hb]
  · subst e
    refine stat ?_
    unfold iSeq
    rw [eVar_fz hE (by simp only [isFz, fzL]; rfl)]
    show some (frozL (ts.map enc), E) = _
    rw [frozL_mapT enc hz]
  · subst e
    refine stat ?_
    unfold iSeq
    rw [eVar_fz hE (by simp only [isFz, fzL])]
    show (if isFzL (ts.map enc) = true then some (ts.map enc, E) else none) = _
    rw [if_pos fzL]
  · subst e
    refine stat ?_
    unfold iSeq
    rw [eVar_fz hE rfl]
theorem eCompQ_all {α : Type} {own : List Nat} {i : Nat} {g : D → Ev → Option Ev} {el : Ev → Option (D × Ev)} (enc : α → D) (y : α → D) (ts : List α) {E E0 E' : Ev} {d0 : D} (hE : E[i]? = some (some d0)) (hd : d0 = .lst true (ts.map enc) ∨ d0 = .lst false (ts.map enc) ∨ d0 = .tup (ts.map enc) ∨ d0 = .scr (ts.map enc)) (hz : ∀ t, isFz (enc t) = true)
    (ho : ownFz E own = true) (hw : wipeE E own = E0) (hi : E0[i]? = E[i]?) (hb : backE E E0 own = E') (hl : ts.length < 1000000)
    (h : ∀ t ∈ ts, ∃ E1 E3, g (enc t) E0 = some E1 ∧ el E1 = some (y t, E3) ∧ wipeE E3 own = E0) :
    eCompQ own i g dYes el E = some (.lst true (ts.map y), E') := by
  have q := eCompQ_typed (tt := dYes) enc (fun _ => true) y ts hE hd hz ho hw hi hb hl fun t m => by
    obtain ⟨E1, E3, h1, h2, h3⟩ := h t m
    exact ⟨E1, E1, h1, rfl, fun e => (Bool.false_ne_true e.symm).elim, fun _ => ⟨E3, h2, h3⟩⟩
  rw [List.filter_eq_self.mpr (fun _ _ => rfl)] at q
  exact q
/-! loops over typed lists: an invariant P k E -/
theorem forL_typed {α : Type} {g : D → Ev → Option Ev} {body : Ev → Option Out} (enc : α → D) (P : List α → Ev → Prop) (Q : Option Out → Prop)
    (step : ∀ t ts E, P (t :: ts) E → ∃ E1, g (enc t) E = some E1 ∧ ((∃ E2, body E1 = some (.nx E2) ∧ P ts E2) ∨ ∃ d E2, body E1 = some (.ret d E2) ∧ Q (some (.ret d E2)))) (stop : ∀ E, P [] E → Q (some (.nx E))) :
    ∀ (ts : List α) (E : Ev), P ts E → Q (forL g body (ts.map enc) E)
  | [], E, h => stop E h
  | t :: ts, E, h => by
    obtain ⟨E1, h1, h2⟩ := step t ts E h
    rw [List.map_cons, forL, h1]
    rcases h2 with ⟨E2, h2, h3⟩ | ⟨d, E2, h2, h3⟩
    · show Q (match body E1 with | some (.nx E2) => forL g body (ts.map enc) E2 | some (.ct E2) => _ | some (.bk E2) => _ | some (.ret d E2) => _ | none => _)
      rw [h2]
      exact forL_typed enc P Q step stop ts E2 h3
    · show Q (match body E1 with | some (.nx E2) => forL g body (ts.map enc) E2 | some (.ct E2) => _ | some (.bk E2) => _ | some (.ret d E2) => some (.ret d E2) | none => _)
      rw [h2]
      exact h3
/-! enumerate, zip -/
def enumT {α : Type} : Int → List α → List (Int × α)
  | _, [] => []
  | k, x :: xs => (k, x) :: enumT (k + 1) xs
theorem enumD_map {α : Type} (enc : α → D) : ∀ (k : Int) (ts : List α), enumD k (ts.map enc) = (enumT k ts).map fun p => .tup [.int p.1, enc p.2]
  | _, [] => rfl
  | k, t :: ts => by
    rw [List.map_cons, enumD, enumT, List.map_cons, enumD_map enc (k + 1) ts]
theorem enumT_length {α : Type} : ∀ (k : Int) (ts : List α), (enumT k ts).length = ts.length
  | _, [] => rfl
  | k, t :: ts => by rw [enumT, List.length_cons, List.length_cons, enumT_length (k + 1) ts]
theorem zipD_map {α β : Type} (e1 : α → D) (e2 : β → D) : ∀ (xs : List α) (ys : List β), zipD (xs.map e1) (ys.map e2) = (xs.zip ys).map fun p => .tup [e1 p.1, e2 p.2]
  | [], ys => by cases ys <;> rfl
  | x :: xs, [] => rfl
  | x :: xs, y :: ys => by
    rw [List.map_cons, List.map_cons, zipD, List.zip_cons_cons, List.map_cons, zipD_map e1 e2 xs ys]
theorem iSeq_tup {α : Type} {enc : α → D} (hz : ∀ a, isFz (enc a) = true) {i : Nat} {E : Ev} {as : List α} (h : E[i]? = some (some (.tup (as.map enc)))) : iSeq (eVar i) E = some (as.map enc, E) := by
  have fz := isFzL_map enc hz as
  unfold iSeq
  rw [eVar_fz h (by simp only [isFz, fz])]
  show (if isFzL (as.map enc) = true then some (as.map enc, E) else none) = _
  rw [if_pos fz]
theorem sForQ_tup {α : Type} {enc : α → D} (hz : ∀ a, isFz (enc a) = true) {lk : Lks} {i : Nat} {ts : List Nat} {g : D → Ev → Option Ev} {body : Lks → Ev → Option Out} {E : Ev} {as : List α} (hl : ts.all (fun j => !(lkP lk i) j) = true) (h : E[i]? = some (some (.tup (as.map enc)))) :
    sForQ lk i ts g body E = forL g (body (lkP lk i)) (as.map enc) E := by
  unfold sForQ
  rw [if_pos hl, h]
  show (match iSeq (eVar i) E with | some (xs, E1) => forL g (body (lkP lk i)) xs E1 | none => none) = _
  rw [iSeq_tup hz h]
theorem eCompQ_frz {own : List Nat} {i : Nat} {g : D → Ev → Option Ev} {tt : Ev → Option (Bool × Ev)} {el : Ev → Option (D × Ev)} {E : Ev} {xs : List D} (h : E[i]? = some (some (.lst true xs))) (hz : isFzL xs = false) : eCompQ own i g tt el E = eComp own (iSeq (eVar i)) g tt el E := by
  unfold eCompQ
  rw [h]
  show (if isFzL xs = true then _ else eComp own (iSeq (eVar i)) g tt el E) = _
  rw [if_neg (by rw [hz]; exact Bool.false_ne_true)]
theorem sForQ_lst {lk : Lks} {i : Nat} {ts : List Nat} {g : D → Ev → Option Ev} {body : Lks → Ev → Option Out} {E : Ev} {xs : List D} (hz : isFzL xs = true) (hl : ts.all (fun j => !(lkP lk i) j) = true) (h : E[i]? = some (some (.lst true xs))) :
    sForQ lk i ts g body E = forQ i g (body (lkP lk i)) whileFuel 0 E := by
  unfold sForQ
  rw [if_pos hl, h]
  exact if_pos hz
theorem sFor_of {lk : Lks} {ts : List Nat} {fi : Ev → Option (List D × Ev)} {g : D → Ev → Option Ev} {body : Ev → Option Out} {E E1 : Ev} {xs : List D} {r : Option Out} (hl : ts.all (fun j => !lk j) = true) (h : fi E = some (xs, E1)) (h2 : forL g body xs E1 = r) : sFor lk ts fi g body E = r := by
  unfold sFor
  rw [if_pos hl, h]
  exact h2
/-- a walk over an owned list that stands unchanged -/
theorem forQ_typed {α : Type} {i : Nat} {g : D → Ev → Option Ev} {body : Ev → Option Out} (enc : α → D) (hz : ∀ a, isFz (enc a) = true) (as : List α) (P : List α → Ev → Prop) (Q : Option Out → Prop) (c : Bool) (hP : ∀ ts E, P ts E → E[i]? = some (some (.lst c (as.map enc))))
    (step : ∀ t ts E, P (t :: ts) E → ∃ E1, g (enc t) E = some E1 ∧ ((∃ E2, body E1 = some (.nx E2) ∧ P ts E2) ∨ ∃ d E2, body E1 = some (.ret d E2) ∧ Q (some (.ret d E2)))) (stop : ∀ E, P [] E → Q (some (.nx E))) :
    ∀ (n k : Nat) (E : Ev), k ≤ as.length → as.length < n + k → P (as.drop k) E → Q (forQ i g body n k E) := by
  intro n
  induction n with
  | zero => intro k E h1 h2; omega
  | succ n ih =>
    intro k E h1 h2 h
    unfold forQ
    rw [hP _ E h]
    show Q (match (as.map enc)[k]? with | none => _ | some x => _)
    rw [List.getElem?_map]
    by_cases hk : k < as.length
    · rw [List.drop_eq_getElem_cons hk] at h
      obtain ⟨E1, q1, q2⟩ := step _ _ E h
      rw [List.getElem?_eq_getElem hk]
      show Q (if isFz (enc as[k]) = true then _ else _)
      rw [if_pos (hz _), q1]
      rcases q2 with ⟨E2, q2, q3⟩ | ⟨d, E2, q2, q3⟩
      · show Q (match body E1 with | some (.nx E2) => forQ i g body n (k + 1) E2 | some (.ct E2) => _ | some (.bk E2) => _ | some (.ret d E2) => _ | none => _)
        rw [q2]
        exact ih (k + 1) E2 hk (by omega) q3
      · show Q (match body E1 with | some (.nx E2) => forQ i g body n (k + 1) E2 | some (.ct E2) => _ | some (.bk E2) => _ | some (.ret d E2) => some (.ret d E2) | none => _)
        rw [q2]
        exact q3
    · have e : k = as.length := by omega
      subst e
      rw [List.drop_length] at h
      rw [List.getElem?_eq_none (Nat.le_refl _)]
      exact stop E h
/-! calls whose arguments stay -/
inductive Argd (E : Ev) : List ArgV → List D → Prop
  | nil : Argd E [] []
  | slot {i : Nat} {d : D} {r : List ArgV} {ds : List D} : E[i]? = some (some d) → Argd E r ds → Argd E (.inl i :: r) (d :: ds)
  | val {d : D} {r : List ArgV} {ds : List D} : Argd E r ds → Argd E (.inr d :: r) (d :: ds)
def slotsA : List ArgV → List Nat
  | [] => []
  | .inl i :: r => i :: slotsA r
  | .inr _ :: r => slotsA r
theorem Argd.cong {E E' : Ev} : ∀ {as : List ArgV} {ds : List D}, Argd E as ds → (∀ i ∈ slotsA as, E'[i]? = E[i]?) → Argd E' as ds
  | _, _, .nil, _ => .nil
  | _, _, .slot h r, q => .slot ((q _ List.mem_cons_self).trans h) (Argd.cong r fun i m => q i (List.mem_cons_of_mem _ m))
  | _, _, .val r, q => .val (Argd.cong r q)
theorem gather_of : ∀ {as : List ArgV} {ds : List D} {E : Ev}, Argd E as ds → (slotsA as).Nodup → ∃ E', gather as E = some (ds, E') ∧ E'.length = E.length ∧ ∀ j, j ∉ slotsA as → E'[j]? = E[j]?
  | _, _, E, .nil, _ => ⟨E, rfl, rfl, fun _ _ => rfl⟩
  | .inr d :: r, _ :: ds, E, .val h, n => by
    obtain ⟨E', h1, h2, h3⟩ := gather_of h n
    exact ⟨E', by unfold gather; rw [h1], h2, h3⟩
  | .inl i :: r, d :: ds, E, .slot h hr, n => by
    have n' := List.nodup_cons.mp n
    unfold gather
    rw [h]
    by_cases hz : isFz d = true
    · obtain ⟨E', h1, h2, h3⟩ := gather_of hr n'.2
      refine ⟨E', ?_, h2, fun j hj => h3 j fun m => hj (List.mem_cons_of_mem _ m)⟩
      show (if isFz d = true then _ else _) = _
      rw [if_pos hz, h1]
    · have hr' : Argd (E.set i none) r ds := hr.cong fun j m => List.getElem?_set_ne (fun (e : i = j) => n'.1 (by rw [e]; exact m))
      obtain ⟨E', h1, h2, h3⟩ := gather_of hr' n'.2
      refine ⟨E', ?_, by rw [h2, List.length_set], fun j hj => ?_⟩
      · show (if isFz d = true then _ else _) = _
        rw [if_neg hz, h1]
      · rw [h3 j fun m => hj (List.mem_cons_of_mem _ m)]
        exact List.getElem?_set_ne (fun (e : i = j) => hj (by rw [← e]; exact List.mem_cons_self))
theorem putBack_of : ∀ {as : List ArgV} {ds : List D} {E E' : Ev}, Argd E as ds → (slotsA as).Nodup → E'.length = E.length → (∀ j, j ∉ slotsA as → E'[j]? = E[j]?) → putBack as ds E' = E
  | _, _, E, E', .nil, _, hl, h => List.ext_getElem? fun j => h j (List.not_mem_nil)
  | .inr d :: r, _ :: ds, E, E', .val hr, n, hl, h => by
    unfold putBack
    exact putBack_of hr n hl h
  | .inl i :: r, d :: ds, E, E', .slot hd hr, n, hl, h => by
    have n' := List.nodup_cons.mp n
    unfold putBack
    refine putBack_of hr n'.2 (by rw [List.length_set]; exact hl) fun j hj => ?_
    by_cases e : i = j
    · subst e
      have hi : i < E.length := (List.getElem?_eq_some_iff.mp hd).1
      rw [List.getElem?_set_self (by rw [hl]; exact hi), hd]
    · rw [List.getElem?_set_ne e]
      exact h j fun m => (List.mem_cons.mp m).elim (fun q => e q.symm) hj
theorem eCall_same {g : Fs} {fx : Ev → Option (List ArgV × Ev)} {E E1 : Ev} {as : List ArgV} {ds : List D} {d : D} (h : fx E = some (as, E1)) (ha : Argd E1 as ds) (hn : (slotsA as).Nodup) (hg : g ds = some (d, ds)) : eCall g fx E = some (d, E1) := by
  obtain ⟨E2, h1, h2, h3⟩ := gather_of ha hn
  rw [eCall_of h h1 hg, putBack_of ha hn h2 h3]
theorem eVar_lst {i : Nat} {E : Ev} {xs : List D} (h : E[i]? = some (some (.lst true xs))) (hz : frozL xs = xs) : eVar i E = some (.lst false xs, E.set i (some (.lst false xs))) := by
  unfold eVar
  rw [h]
  show (if isFz (.lst true xs) = true then some (D.lst true xs, E) else some (froz (.lst true xs), E.set i (some (froz (.lst true xs))))) = _
  rw [if_neg (by simp [isFz])]
  show some (D.lst false (frozL xs), E.set i (some (.lst false (frozL xs)))) = _
  rw [hz]
theorem qCons_of {f : Ev → Option D} {g : Ev → Option (List D)} {E : Ev} {d : D} {ds : List D} (h : f E = some d) (h2 : g E = some ds) : qCons f g E = some (d :: ds) := by
  unfold qCons
  rw [h, h2]
end Dm

namespace Dm
open PySem
/-! ### data that == and repr take: depth at most n, its text at most w long -/
structure Nice (n w : Nat) (d : D) : Prop where
  dat : isDat d = true
  lay : (toP d).canLay0 = true
  dep : (toP d).depth ≤ n
  shw : (toP d).showable = true
  len : (toP d).shown.length ≤ w
theorem Nice.mono {n w n' w' : Nat} {d : D} (h : Nice n w d) (hn : n ≤ n') (hw : w ≤ w') : Nice n' w' d := ⟨h.dat, h.lay, Nat.le_trans h.dep hn, h.shw, Nat.le_trans h.len hw⟩
theorem nice_non : Nice 0 4 .non := ⟨rfl, rfl, Nat.le_refl _, rfl, by
  show (PyData.shown .none).length ≤ 4
  rw [PyData.shown_none]; decide⟩
theorem nice_bl (b : Bool) : Nice 0 5 (.bl b) := ⟨rfl, rfl, Nat.le_refl _, rfl, by
  show (PyData.shown (.bool b)).length ≤ 5
  rw [PyData.shown_bool]; cases b <;> decide⟩
theorem nice_int {i : Int} (h : i.natAbs.log2 < 1920) : Nice 0 1921 (.int i) := ⟨rfl, rfl, Nat.le_refl _, by
  show (PyData.int i).showable = true
  simpa [PyData.showable] using h, by
  show (PyData.shown (.int i)).length ≤ 1921
  rw [PyData.shown_int]; exact PyProof.Rows.int_text_len_1921 h⟩
theorem nice_str {x : Str} (h : PyData.strOk x = true) : Nice 0 (10 * x.length + 2) (.str x) := by
  refine ⟨rfl, ?_, Nat.le_refl _, rfl, ?_⟩
  · show (PyData.str x).canLay0 = true
    simpa only [PyData.canLay0] using h
  · show (PyData.shown (.str x)).length ≤ _
    rw [PyData.shown_str]
    refine PySem.StrLaws.reprText_len x fun c m => ?_
    unfold PyData.strOk at h
    have h2 := of_decide_eq_true (Array.all_eq_true_iff_forall_mem.mp h c (by simpa using m))
    exact Nat.lt_trans h2 (by decide)
theorem listText_len (ts : List Str) : (listText ts).length ≤ piled ts + 2 := by
  cases ts with
  | nil => rw [listText_nil]; decide
  | cons t r =>
    have h := textFrom_length_pos r 1 (("[" : Str) ++ (if (0 : Nat) > 0 then ", " else "" : String) ++ t) (Nat.succ_pos 0)
    have e : ((("[" : Str) ++ (if (0 : Nat) > 0 then ", " else "" : String) ++ t)).length = 1 + t.length := by
      rw [strLen_append, strLen_append]; rfl
    have hX : (listText (t :: r)).length = (textFrom 0 "[" (t :: r)).length + 1 := by
      unfold listText; rw [strLen_append]; rfl
    have hY : textFrom 0 "[" (t :: r) = textFrom 1 (("[" : Str) ++ (if (0 : Nat) > 0 then ", " else "" : String) ++ t) r := rfl
    rw [hX, hY, h, e, piled_cons]
    omega
theorem tupleText_len (ts : List Str) : (tupleText ts).length ≤ piled ts + 3 := by
  unfold tupleText
  rw [strLen_append, strLen_append]
  have e1 : ((("(" : String) : Str)).length = 1 := rfl
  have e3 : (((if ts.length == 1 then ",)" else ")" : String) : Str)).length ≤ 2 := by split <;> decide
  rw [e1]
  by_cases h : ts = []
  · subst h
    have : (Str.join ", " []).length = 0 := rfl
    omega
  · have := join_length_add ts h
    omega
theorem nice_all {n w : Nat} : ∀ (ds : List D), (∀ d ∈ ds, Nice n w d) → isDatL ds = true ∧ PyData.canLayAll0 (toPL ds) = true ∧ PyData.depthAll (toPL ds) ≤ n ∧ PyData.showableAll (toPL ds) = true ∧ piled (PyData.shownAll (toPL ds)) ≤ ds.length * (w + 2)
  | [], _ => ⟨rfl, rfl, Nat.zero_le _, rfl, Nat.zero_le _⟩
  | d :: ds, h => by
    obtain ⟨h1, h2, h3, h4, h5⟩ := nice_all ds fun x m => h x (List.mem_cons_of_mem _ m)
    have hd := h d List.mem_cons_self
    refine ⟨by simp only [isDatL, hd.dat, h1]; rfl, by simp only [toPL, PyData.canLayAll0, hd.lay, h2]; rfl, ?_, by simp only [toPL, PyData.showableAll, hd.shw, h4]; rfl, ?_⟩
    · simp only [toPL, PyData.depthAll]
      exact Nat.max_le.mpr ⟨hd.dep, h3⟩
    · simp only [toPL, PyData.shownAll]
      rw [piled_cons, List.length_cons, Nat.succ_mul]
      have := hd.len
      omega
theorem nice_lst {n w : Nat} {ds : List D} (o : Bool) (h : ∀ d ∈ ds, Nice n w d) : Nice (n + 1) (ds.length * (w + 2) + 3) (.lst o ds) := by
  obtain ⟨h1, h2, h3, h4, h5⟩ := nice_all ds h
  refine ⟨by simpa only [isDat] using h1, by simpa only [toP, PyData.canLay0] using h2, by simp only [toP, PyData.depth]; omega, by simpa only [toP, PyData.showable] using h4, ?_⟩
  simp only [toP, PyData.shown]
  have := listText_len (PyData.shownAll (toPL ds))
  omega
theorem nice_tup {n w : Nat} {ds : List D} (h : ∀ d ∈ ds, Nice n w d) : Nice (n + 1) (ds.length * (w + 2) + 3) (.tup ds) := by
  obtain ⟨h1, h2, h3, h4, h5⟩ := nice_all ds h
  refine ⟨by simpa only [isDat] using h1, by simpa only [toP, PyData.canLay0] using h2, by simp only [toP, PyData.depth]; omega, by simpa only [toP, PyData.showable] using h4, ?_⟩
  simp only [toP, PyData.shown]
  have := tupleText_len (PyData.shownAll (toPL ds))
  omega
theorem nice_lstM {α : Type} {n w : Nat} {f : α → D} (o : Bool) {ts : List α} (h : ∀ t ∈ ts, Nice n w (f t)) : Nice (n + 1) (ts.length * (w + 2) + 3) (.lst o (ts.map f)) := by
  have q := nice_lst (ds := ts.map f) o fun d m => by
    obtain ⟨t, m', e⟩ := List.mem_map.mp m
    subst e
    exact h t m'
  rw [List.length_map] at q
  exact q
theorem nice_tupM {α : Type} {n w : Nat} {f : α → D} {ts : List α} (h : ∀ t ∈ ts, Nice n w (f t)) : Nice (n + 1) (ts.length * (w + 2) + 3) (.tup (ts.map f)) := by
  have q := nice_tup (ds := ts.map f) fun d m => by
    obtain ⟨t, m', e⟩ := List.mem_map.mp m
    subst e
    exact h t m'
  rw [List.length_map] at q
  exact q
theorem Nice.eq {n w : Nat} {d : D} (h : Nice n w d) (hn : n ≤ 60) : okEq d = true := by
  unfold okEq SeqAt.shaped
  rw [h.dat, h.lay, decide_eq_true (Nat.le_trans h.dep (by omega))]; rfl
theorem Nice.repr {n w : Nat} {d : D} (h : Nice n w d) (hn : n ≤ 60) (hw : w ≤ sizeLine) : okRepr d = true := by
  unfold okRepr
  rw [h.dat, h.shw, PyData.hasDict_of_canLay _ h.lay, decide_eq_true (Nat.le_trans h.dep hn), decide_eq_true (Nat.le_trans h.len hw)]; rfl
mutual
theorem eqv_refl : ∀ p : PyData, p.canLay0 = true → PyData.eqv p p = true
  | .none, _ => by simp [PyData.eqv]
  | .bool b, _ => by simp [PyData.eqv]
  | .int i, _ => by simp [PyData.eqv]
  | .str x, _ => by simp [PyData.eqv]
  | .list xs, h => by
    simp only [PyData.eqv]
    exact eqvAll_refl xs (by simpa only [PyData.canLay0] using h)
  | .tuple xs, h => by
    simp only [PyData.eqv]
    exact eqvAll_refl xs (by simpa only [PyData.canLay0] using h)
  | .dict _, h => by simp [PyData.canLay0] at h
theorem eqvAll_refl : ∀ xs : List PyData, PyData.canLayAll0 xs = true → PyData.eqvAll xs xs = true
  | [], _ => by simp [PyData.eqvAll]
  | x :: xs, h => by
    simp only [PyData.canLayAll0, Bool.and_eq_true] at h
    simp only [PyData.eqvAll, eqv_refl x h.1, eqvAll_refl xs h.2, Bool.and_self]
end
theorem opEq_same {x y : D} (hx : okEq x = true) (hy : okEq y = true) (h : toP x = toP y) : opEq x y = some (.bl true) := by
  unfold opEq
  split
  · rename_i a b
    have e : a = b := by simpa [toP] using h
    subst e
    simp
  · rw [if_pos ⟨hx, hy⟩, ← h]
    have hl : (toP x).canLay0 = true := by
      unfold okEq SeqAt.shaped at hx
      simp only [Bool.and_eq_true] at hx
      exact hx.2.1
    rw [eqv_refl _ hl]
theorem opRepr_of {d : D} (h : okRepr d = true) : opRepr [d] = some (.str (toP d).shown) := if_pos h
theorem toP_lst (o : Bool) (xs : List D) : toP (.lst o xs) = .list (toPL xs) := by simp only [toP]
theorem xSlot_of {i : Nat} {g : Ev → Option (List ArgV × Ev)} {E E1 : Ev} {d : D} {as : List ArgV} (h : E[i]? = some (some d)) (h2 : g E = some (as, E1)) : xSlot i g E = some (.inl i :: as, E1) := by
  unfold xSlot
  rw [h, h2]
theorem xVal_of {f : Ev → Option (D × Ev)} {g : Ev → Option (List ArgV × Ev)} {E E1 E2 : Ev} {d : D} {as : List ArgV} (h : f E = some (d, E1)) (h2 : g E1 = some (as, E2)) : xVal f g E = some (.inr d :: as, E2) := by
  unfold xVal
  rw [h]
  show (match g E1 with | some (as, E2) => some (Sum.inr d :: as, E2) | none => none) = _
  rw [h2]
theorem eLst_of {g : Ev → Option (List D × Ev)} {E E1 : Ev} {ds : List D} (h : g E = some (ds, E1)) (hl : ds.length ≤ 5000) : eLst g E = some (.lst true ds, E1) := by
  unfold eLst
  rw [h]
  show (if ds.length ≤ sizeLine then some (D.lst true ds, E1) else none) = _
  rw [if_pos (Nat.le_trans hl (by decide))]
theorem eTup_of {g : Ev → Option (List D × Ev)} {E E1 : Ev} {ds : List D} (h : g E = some (ds, E1)) (hl : ds.length ≤ 5000) : eTup g E = some (.tup ds, E1) := by
  unfold eTup
  rw [h]
  show (if ds.length ≤ sizeLine then some (D.tup ds, E1) else none) = _
  rw [if_pos (Nat.le_trans hl (by decide))]
theorem qTup_of {g : Ev → Option (List D)} {E : Ev} {ds : List D} (h : g E = some ds) (hz : isFzL ds = true) (hl : ds.length ≤ 5000) : qTup g E = some (.tup ds) := by
  unfold qTup
  rw [h]
  show (if isFzL ds = true ∧ ds.length ≤ sizeLine then some (D.tup ds) else none) = _
  rw [if_pos ⟨hz, Nat.le_trans hl (by decide)⟩]
end Dm

/-! places within slots; dicts are changed -/
namespace Dm
open PySem PySem.Spec L2
open PyProof.Rows hiding St
/-! ### the place of a key -/
def ixOf {κ : Type} [DecidableEq κ] : List κ → κ → Option Nat
  | [], _ => none
  | x :: xs, k => if x = k then some 0 else (ixOf xs k).map (· + 1)
section
variable {κ α β : Type} [DecidableEq κ]
theorem ixOf_some : ∀ {xs : List κ} {k : κ} {j : Nat}, ixOf xs k = some j → xs[j]? = some k
  | [], _, _, e => by cases e
  | x :: xs, k, j, e => by
    unfold ixOf at e
    by_cases h : x = k
    · rw [if_pos h] at e; cases e; subst h; rfl
    · rw [if_neg h] at e
      obtain ⟨i, h1, h2⟩ := Option.map_eq_some_iff.mp e
      subst h2
      rw [List.getElem?_cons_succ]
      exact ixOf_some h1
theorem ixOf_none : ∀ {xs : List κ} {k : κ}, ixOf xs k = none ↔ k ∉ xs
  | [], k => ⟨fun _ => List.not_mem_nil, fun _ => rfl⟩
  | x :: xs, k => by
    unfold ixOf
    by_cases h : x = k
    · rw [if_pos h]
      exact ⟨fun e => (by cases e), fun n => absurd (by rw [h]; exact List.mem_cons_self) n⟩
    · rw [if_neg h, Option.map_eq_none_iff, ixOf_none, List.mem_cons, not_or]
      exact ⟨fun n => ⟨fun e => h e.symm, n⟩, fun n => n.2⟩
theorem ixOf_lt {xs : List κ} {k : κ} {j : Nat} (e : ixOf xs k = some j) : j < xs.length := (List.getElem?_eq_some_iff.mp (ixOf_some e)).1
theorem any_ixOf (f : α → κ) (k : κ) : ∀ l : List α, (l.any fun x => decide (f x = k)) = (ixOf (l.map f) k).isSome
  | [] => rfl
  | x :: l => by
    rw [List.any_cons, List.map_cons]
    unfold ixOf
    by_cases h : f x = k
    · rw [if_pos h, decide_eq_true h]; rfl
    · rw [if_neg h, decide_eq_false h, Option.isSome_map, ← any_ixOf f k l]; rfl
theorem map_if_set (f : α → κ) (g : α → β) (u : α → α) (v : β) (hg : ∀ x, g (u x) = v) (k : κ) : ∀ (l : List α) (j : Nat), (l.map f).Nodup → ixOf (l.map f) k = some j → (l.map (fun x => if f x = k then u x else x)).map g = (l.map g).set j v
  | [], _, _, e => by cases e
  | x :: l, j, n, e => by
    rw [List.map_cons] at n e
    have n' := List.nodup_cons.mp n
    unfold ixOf at e
    rw [List.map_cons, List.map_cons, List.map_cons]
    by_cases h : f x = k
    · rw [if_pos h] at e ⊢
      cases e
      rw [List.set_cons_zero, hg]
      congr 1
      rw [List.map_map]
      refine List.map_congr_left fun y m => ?_
      show g (if f y = k then u y else y) = g y
      rw [if_neg fun q => n'.1 (List.mem_map.mpr ⟨y, m, q.trans h.symm⟩)]
    · rw [if_neg h] at e ⊢
      obtain ⟨i, h1, h2⟩ := Option.map_eq_some_iff.mp e
      subst h2
      rw [List.set_cons_succ, map_if_set f g u v hg k l i n'.2 h1]
theorem map_if_key (f : α → κ) (u : α → α) (hf : ∀ x, f (u x) = f x) (k : κ) (l : List α) : (l.map (fun x => if f x = k then u x else x)).map f = l.map f := by
  rw [List.map_map]
  refine List.map_congr_left fun x _ => ?_
  show f (if f x = k then u x else x) = f x
  split
  · exact hf x
  · rfl
end
theorem putK_old {κ : Type} [DecidableEq κ] {kvs : List (κ × V)} {k : κ} {v : V} {j : Nat} (n : (kvs.map (·.1)).Nodup) (e : ixOf (kvs.map (·.1)) k = some j) : (putK kvs k v).map (·.1) = kvs.map (·.1) ∧ (putK kvs k v).map (·.2) = (kvs.map (·.2)).set j v := by
  unfold putK
  rw [any_ixOf (fun x : κ × V => x.1) k kvs, e]
  exact ⟨map_if_key (fun x : κ × V => x.1) (fun x => (x.1, v)) (fun _ => rfl) k kvs, map_if_set (fun x : κ × V => x.1) (fun x => x.2) (fun x => (x.1, v)) v (fun _ => rfl) k kvs j n e⟩
theorem putK_add {κ : Type} [DecidableEq κ] {kvs : List (κ × V)} {k : κ} {v : V} (e : ixOf (kvs.map (·.1)) k = none) : putK kvs k v = kvs ++ [(k, v)] := by
  unfold putK
  rw [any_ixOf (fun x : κ × V => x.1) k kvs, e]
  rfl
theorem valX_ix {xs : List (NestedKey × Addr × V)} {k : NestedKey} : (valX xs k).isSome = (ixOf (xs.map (·.1)) k).isSome := by
  rw [← any_ixOf]
  induction xs with
  | nil => rfl
  | cons x xs ih =>
    unfold valX at ih ⊢
    rw [List.find?_cons, List.any_cons]
    by_cases h : x.1 = k
    · rw [decide_eq_true h]; rfl
    · rw [decide_eq_false h]; exact ih
theorem putX_old {xs : List (NestedKey × Addr × V)} {k : NestedKey} {b : Addr} {v : V} {j : Nat} (n : (xs.map (·.1)).Nodup) (e : ixOf (xs.map (·.1)) k = some j) :
    (putX xs k b v).map (·.1) = xs.map (·.1) ∧ (putX xs k b v).map (·.2.2) = (xs.map (·.2.2)).set j v ∧ (putX xs k b v).map (fun x => V.ref x.2.1) = xs.map (fun x => V.ref x.2.1) := by
  unfold putX
  rw [valX_ix, e]
  refine ⟨map_if_key (fun x : NestedKey × Addr × V => x.1) (fun x => (x.1, x.2.1, v)) (fun _ => rfl) k xs, map_if_set (fun x : NestedKey × Addr × V => x.1) (fun x => x.2.2) (fun x => (x.1, x.2.1, v)) v (fun _ => rfl) k xs j n e, ?_⟩
  show (xs.map fun x => if x.1 = k then (x.1, x.2.1, v) else x).map (fun x => V.ref x.2.1) = _
  rw [List.map_map]
  refine List.map_congr_left fun x _ => ?_
  show V.ref (if x.1 = k then (x.1, x.2.1, v) else x).2.1 = V.ref x.2.1
  split <;> rfl
theorem putX_add {xs : List (NestedKey × Addr × V)} {k : NestedKey} {b : Addr} {v : V} (e : ixOf (xs.map (·.1)) k = none) : putX xs k b v = xs ++ [(k, b, v)] := by
  unfold putX
  rw [valX_ix, e]
  rfl
/-! ### d[k] = v as data -/
def dPutG {κ : Type} [DecidableEq κ] (xs : List κ) (ks ds : List D) (x : κ) (k d : D) : Option (List D × List D) :=
  if ds.length < sizeLine then some (match ixOf xs x with | some j => (ks, ds.set j d) | none => (ks ++ [k], ds ++ [d])) else none
def dPut (ks ds : List D) (k d : D) : Option (List D × List D) := match keyK k with
  | some x => (match keysK ks with | some xs => dPutG xs ks ds x k d | none => none)
  | none => (match keyT k with | some x => (match keysT ks with | some xs => dPutG xs ks ds x k d | none => none) | none => none)
theorem dPut_some {ks ds : List D} {k d : D} {r : List D × List D} (e : dPut ks ds k d = some r) : (∃ x xs, keyK k = some x ∧ keysK ks = some xs ∧ dPutG xs ks ds x k d = some r) ∨ (∃ x xs, keyT k = some x ∧ keysT ks = some xs ∧ dPutG xs ks ds x k d = some r) := by
  unfold dPut at e
  split at e
  · rename_i x ex
    split at e
    · rename_i xs exs; exact .inl ⟨x, xs, ex, exs, e⟩
    · cases e
  · split at e
    · rename_i x ex
      split at e
      · rename_i xs exs; exact .inr ⟨x, xs, ex, exs, e⟩
      · cases e
    · cases e
theorem dPutG_some {κ : Type} [DecidableEq κ] {xs : List κ} {ks ds ks' ds' : List D} {x : κ} {k d : D} (e : dPutG xs ks ds x k d = some (ks', ds')) : ds.length < sizeLine ∧ ((∃ j, ixOf xs x = some j ∧ ks' = ks ∧ ds' = ds.set j d) ∨ (ixOf xs x = none ∧ ks' = ks ++ [k] ∧ ds' = ds ++ [d])) := by
  unfold dPutG at e
  split at e
  · rename_i h
    refine ⟨h, ?_⟩
    cases q : ixOf xs x with
    | none => rw [q] at e; cases e; exact .inr ⟨rfl, rfl, rfl⟩
    | some j => rw [q] at e; cases e; exact .inl ⟨j, rfl, rfl, rfl⟩
  · cases e
theorem keysK_snoc : ∀ {ks : List D} {xs : List Key} {k : D} {x : Key}, keysK ks = some xs → keyK k = some x → keysK (ks ++ [k]) = some (xs ++ [x])
  | [], _, k, x, e, e2 => by
    cases e
    show keysK [k] = some [x]
    unfold keysK
    rw [e2]; rfl
  | d :: ds, xs, k, x, e, e2 => by
    unfold keysK at e
    split at e
    · rename_i k1 ks1 q1 q2
      cases e
      show keysK (d :: (ds ++ [k])) = _
      unfold keysK
      rw [q1, keysK_snoc q2 e2]; rfl
    · cases e
theorem keysN_snoc : ∀ {ks : List D} {xs : List NestedKey} {k : D} {x : NestedKey}, keysN ks = some xs → keyN k = some x → keysN (ks ++ [k]) = some (xs ++ [x])
  | [], _, k, x, e, e2 => by
    cases e
    show keysN [k] = some [x]
    unfold keysN
    rw [e2]; rfl
  | d :: ds, xs, k, x, e, e2 => by
    unfold keysN at e
    split at e
    · rename_i k1 ks1 q1 q2
      cases e
      show keysN (d :: (ds ++ [k])) = _
      unfold keysN
      rw [q1, keysN_snoc q2 e2]; rfl
    · cases e
mutual
theorem keyN_fz : ∀ {d : D} {k : NestedKey}, keyN d = some k → isFz d = true
  | .non, _, _ => rfl
  | .bl _, _, _ => rfl
  | .int _, _, _ => rfl
  | .str _, _, _ => rfl
  | .tup xs, _, e => by
    unfold keyN at e
    split at e
    · rename_i q
      simp only [isFz]
      exact keysN_fz q
    · cases e
  | .lst _ _, _, e => by cases e
  | .scr _, _, e => by cases e
  | .dic _ _ _, _, e => by cases e
  | .fn _, _, e => by cases e
  | .ty _, _, e => by cases e
  | .ins _ _ _ _, _, e => by cases e
theorem keysN_fz : ∀ {ds : List D} {ks : List NestedKey}, keysN ds = some ks → isFzL ds = true
  | [], _, _ => rfl
  | d :: ds, _, e => by
    unfold keysN at e
    split at e
    · rename_i q1 q2
      simp only [isFzL, Bool.and_eq_true]
      exact ⟨keyN_fz q1, keysN_fz q2⟩
    · cases e
end
/-! ### an owned object is written -/
section
variable {K : PySem.W.Frag} {mg : Md} {F H F' H' : Hp} {O O' A B C : List Addr} {σ : L2.St} {E : Ev} {i : Nat} {d : D} {v y : V} {vs ws : List V} {ds ks : List D} {a : Addr} {u : HO}
theorem wg_ext {As Bs Cs : List Addr} (hs : ∀ b ∈ Cs, b ∈ (a :: As) ++ Bs) : Ext F H ((a :: As) ++ Bs) F (upd H a u) Cs where
  fle := fun _ _ e => e
  hle := fun b o e n => by
    rw [upd_ne (fun z => n (by rw [z]; exact List.mem_append_left _ List.mem_cons_self))]; exact e
  dom := fun b e => by
    by_cases hb : b = a
    · subst hb; rw [upd_same]; simp
    · rw [upd_ne hb]; exact e
  fdom := fun _ e => .inl e
  odom := fun b m => .inl (hs b m)
theorem wg_own {As Bs Cs : List Addr} (w : Own F H ((a :: As) ++ Bs)) (nd : Cs.Nodup) (hs : ∀ b ∈ Cs, b ∈ (a :: As) ++ Bs) : Own F (upd H a u) Cs where
  le := fun b o e => by
    have n : b ≠ a := fun z => by
      rw [z, w.out a (List.mem_append_left _ List.mem_cons_self)] at e
      cases e
    rw [upd_ne n]
    exact w.le b o e
  nd := nd
  out := fun b m => w.out b (hs b m)
  alive := fun b m => by
    by_cases hb : b = a
    · subst hb; rw [upd_same]; simp
    · rw [upd_ne hb]; exact w.alive b (hs b m)
theorem wg_x (hF : F a = none) : Ext F H [a] F (upd H a u) [a] := ⟨fun _ _ e => e, fun b o e n => by rw [upd_ne (fun z => n (by simp [z]))]; exact e, fun b e => by
    by_cases hb : b = a
    · subst hb; rw [upd_same]; simp
    · rw [upd_ne hb]; exact e, fun _ e => .inl e, fun _ m => .inl m⟩
theorem wg_rpl (n : a ∉ A) (hF : F a = none) (r : RpL K mg F H ws ds A) : RpL K mg F (upd H a u) ws ds A :=
  r.ext (wg_x hF) fun b m q => by
    simp at q
    subst q
    exact n m
theorem wg_rp (n : a ∉ A) (hF : F a = none) (r : Rp K mg F H v d A) : Rp K mg F (upd H a u) v d A :=
  r.ext (wg_x hF) fun b m q => by
    simp at q
    subst q
    exact n m
/-! ### d[k] = v by the machine -/
def rSetY (K : PySem.W.Frag) (mg : Md) : TSet := fun o i v H Q => ∃ a, o = .ref a ∧ ((∃ H', DPut H a i v H' ∧ Q H') ∨
  ∃ xs nk b, DtIs K mg H a xs ∧ i = .ref b ∧ Ky K H i nk ∧ nk.depth ≤ 8 ∧ ((a == sysModules) = false → Q (upd H a (DtO mg a (putX xs nk b v)))))
theorem set_Y {X : Cx} {k : Nat} (hr : Room k X.A) (hp : mg.P = X.prog) (hw : mg.w = X.w) : PSet X (rSetY X.K mg) := by
  intro pins s σ H o i v ov iv u Q I ro ri rv h
  obtain ⟨a, eo, h⟩ := h
  subst eo
  obtain rfl : ov = Value.ref a := ro
  obtain ⟨f, P, w⟩ := mg
  cases hp
  cases hw
  rcases h with ⟨H', g, q⟩ | ⟨xs, nk, b, D, rfl, ky, hd, q⟩
  · exact d_setItem (hu_of hr) I g ri rv fun s' I' => ⟨H', I', q⟩
  · obtain rfl : iv = Value.ref b := ri
    obtain ⟨_, _, _, _, hda, _⟩ := dt_at I D
    exact y_setItem hr I D ky hd rv fun s' I' => ⟨_, I', q hda⟩
/-- the write of a dict -/
theorem dput_core {As : List Addr} {ks' ds' : List D} {k : D} {C0 : List Addr} (w : Own F H ((a :: As) ++ B)) (Dc : DcV K mg F H a ks vs) (rl : RpL K mg F H vs ds As) (rv : Rp K mg F H v d B) (ry : Rp K mg F H y k C0) (e : dPut ks ds k d = some (ks', ds')) {Q : Hp → Prop}
    (hQ : ∀ o' As', As'.Nodup → a ∉ As' → (∀ b ∈ As', b ∈ As ∨ b ∈ B) → Rp K mg F (upd H a o') (.ref a) (.dic true ks' ds') (a :: As') → Q (upd H a o')) : rSetY K mg (.ref a) y v H Q := by
  have hF := w.out a (List.mem_append_left _ List.mem_cons_self)
  have ndA := List.nodup_append.mp w.nd
  have ndc := List.nodup_cons.mp ndA.1
  have naB : a ∉ B := fun m => ndA.2.2 a List.mem_cons_self a m rfl
  have dj : ∀ b ∈ As, b ∉ B := fun b m q => ndA.2.2 b (List.mem_cons_of_mem _ m) b q rfl
  -- the values with one set, or one more
  have vset : ∀ {j : Nat}, j < ds.length → ∃ As', RpL K mg F H (vs.set j v) (ds.set j d) As' ∧ As'.Nodup ∧ a ∉ As' ∧ ∀ b ∈ As', b ∈ As ∨ b ∈ B := fun {j} hj => by
    obtain ⟨As', h1, h2, h3⟩ := rl.set rv hj dj ndc.2 ndA.2.1
    exact ⟨As', h1, h2, fun m => (h3 a m).elim ndc.1 naB, h3⟩
  have vadd : RpL K mg F H (vs ++ [v]) (ds ++ [d]) (As ++ B) ∧ (As ++ B).Nodup ∧ a ∉ As ++ B ∧ ∀ b ∈ As ++ B, b ∈ As ∨ b ∈ B := by
    have q : RpL K mg F H [v] [d] (B ++ []) := .cons rv .nil
    rw [List.append_nil] at q
    refine ⟨rl.append q, List.nodup_append.mpr ⟨ndc.2, ndA.2.1, fun b m c n e => dj b m (e ▸ n)⟩, fun m => ?_, fun b m => List.mem_append.mp m⟩
    rcases List.mem_append.mp m with m | m
    · exact ndc.1 m
    · exact naB m
  have lv := rl.length
  refine ⟨a, rfl, ?_⟩
  rcases dPut_some e with ⟨x, xs, ex, exs, e⟩ | ⟨x, xs, ex, exs, e⟩
  · obtain ⟨hz, e⟩ := dPutG_some e
    have ey := keyK_kV ex ry
    cases Dc with
    | @t ys hd ok hk hr => exact absurd (keysK_refs exs hr) ok.2.2.2.2
    | @k kvs hd hk hn =>
      rw [hk] at exs
      cases exs
      rw [List.length_map] at lv
      refine .inl ⟨_, .inl ⟨kvs, x, hd, ey, by omega, rfl⟩, ?_⟩
      rcases e with ⟨j, ej, e1, e2⟩ | ⟨ej, e1, e2⟩
      · subst e1 e2
        obtain ⟨p1, p2⟩ := putK_old (v := v) hn ej
        have hj := ixOf_lt ej
        rw [List.length_map] at hj
        obtain ⟨As', h1, h2, h3, h4⟩ := vset (j := j) (by omega)
        refine hQ _ As' h2 h3 h4 (.dKO upd_same hF ⟨by rw [p1]; exact hk, by rw [p1]; exact hn⟩ ?_)
        rw [p2]
        exact wg_rpl h3 hF h1
      · subst e1 e2
        rw [putK_add ej]
        obtain ⟨h1, h2, h3, h4⟩ := vadd
        refine hQ _ _ h2 h3 h4 (.dKO upd_same hF ⟨by rw [List.map_append]; exact keysK_snoc hk ex, ?_⟩ ?_)
        · rw [List.map_append]
          exact List.nodup_append.mpr ⟨hn, by simp, fun b m c n q => by simp at n; subst n; subst q; exact ixOf_none.mp ej m⟩
        · rw [List.map_append]
          exact wg_rpl h3 hF h1
  · obtain ⟨hz, e⟩ := dPutG_some e
    obtain ⟨ek, ed, zs, ez⟩ := keyT_some ex
    obtain ⟨b, eb⟩ := (ez ▸ ry).tup_ref
    have ky := Rp.ky w.le ek ry
    have kf := keyN_fz ek
    have c0 := ry.fz kf
    subst c0
    have naC : a ∉ ([] : List Addr) := List.not_mem_nil
    cases Dc with
    | @k kvs hd hk hn =>
      have q := keysKT hk exs
      subst q
      cases exs
      cases kvs with
      | cons p kvs => cases hk
      | nil =>
        rcases e with ⟨j, ej, _⟩ | ⟨ej, e1, e2⟩
        · cases ej
        subst e1 e2
        refine .inr ⟨[], x, b, .e hd, eb, ky, ed, fun hda => ?_⟩
        obtain ⟨h1, h2, h3, h4⟩ := vadd
        refine hQ _ _ h2 h3 h4 (.dTO upd_same hF ⟨by show 1 ≤ sizeLine; rw [sizeLine_eq]; omega, hda, by simp [putX, valX], fun z m => ?_, by simp [putX, valX]⟩ ?_ ?_ ?_)
        · simp [putX, valX] at m; subst m; exact ed
        · show keysN [k] = some [x]
          unfold keysN
          rw [ek]; rfl
        · show RpL K mg F _ [.ref b] [k] []
          rw [← eb]
          exact .cons (O1 := []) (wg_rp naC hF ry) .nil
        · exact wg_rpl h3 hF h1
    | @t ys hd ok hk hr =>
      have z := (keysTN exs).1
      rw [hk] at z
      cases z
      rw [List.length_map] at lv
      refine .inr ⟨ys, x, b, .o hd ok (keysN_keys w.le hk hr), eb, ky, ed, fun hda => ?_⟩
      rcases e with ⟨j, ej, e1, e2⟩ | ⟨ej, e1, e2⟩
      · subst e1 e2
        obtain ⟨p1, p2, p3⟩ := putX_old (b := b) (v := v) ok.2.2.1 ej
        have hj := ixOf_lt ej
        rw [List.length_map] at hj
        obtain ⟨As', h1, h2, h3, h4⟩ := vset (j := j) (by omega)
        have len : (putX ys x b v).length = ys.length := by
          have := congrArg List.length p1
          rwa [List.length_map, List.length_map] at this
        refine hQ _ As' h2 h3 h4 (.dTO upd_same hF ⟨by rw [len]; exact ok.1, ok.2.1, by rw [p1]; exact ok.2.2.1, fun z m => ?_, fun q => ?_⟩ (by rw [p1]; exact hk) ?_ ?_)
        · have m' : z.1 ∈ (putX ys x b v).map (·.1) := List.mem_map.mpr ⟨z, m, rfl⟩
          rw [p1] at m'
          obtain ⟨z', m2, q⟩ := List.mem_map.mp m'
          rw [← q]
          exact ok.2.2.2.1 z' m2
        · rw [q] at len
          exact ok.2.2.2.2 (List.eq_nil_of_length_eq_zero len.symm)
        · rw [p3]
          exact wg_rpl naC hF hr
        · rw [p2]
          exact wg_rpl h3 hF h1
      · subst e1 e2
        rw [putX_add ej]
        obtain ⟨h1, h2, h3, h4⟩ := vadd
        refine hQ _ _ h2 h3 h4 (.dTO upd_same hF ⟨by rw [List.length_append]; show ys.length + 1 ≤ sizeLine; omega, ok.2.1, ?_, fun z m => ?_, by simp⟩ (by rw [List.map_append]; exact keysN_snoc hk ek) ?_ ?_)
        · rw [List.map_append]
          exact List.nodup_append.mpr ⟨ok.2.2.1, by simp, fun b m c n q => by simp at n; subst n; subst q; exact ixOf_none.mp ej m⟩
        · rcases List.mem_append.mp m with m | m
          · exact ok.2.2.2.1 z m
          · simp at m; subst m; exact ed
        · rw [List.map_append]
          have q : RpL K mg F H [.ref b] [k] [] := by rw [← eb]; exact .cons (O1 := []) ry .nil
          have q2 := hr.append q
          rw [List.append_nil] at q2
          exact wg_rpl naC hF q2
        · rw [List.map_append]
          exact wg_rpl h3 hF h1
end
end Dm

/-! places within slots: slot, slot[0], .. -/
namespace Dm
open PySem PySem.Spec L2
open PyProof.Rows hiding St
/-- what stands at a place, and how it is put there -/
abbrev Ln := Ev → Option (D × (D → Ev))
section
variable (K : PySem.W.Frag) (mg : Md)
def PFoc (F H : Hp) (σ : L2.St) (O B : List Addr) (v0 : V) (d : D) (put : D → Ev) : Prop := ∃ A0, Rp K mg F H v0 d A0 ∧ Own F H (A0 ++ B) ∧
  ∀ (F' H' : Hp) (d' : D) (A' C : List Addr), Ext F H (A0 ++ B) F' H' (A' ++ C) → Own F' H' (A' ++ C) → Rp K mg F' H' v0 d' A' →
    ∃ O', RpS K mg F' H' σ (put d') O' ∧ Own F' H' (C ++ O') ∧ Ext F H (B ++ O) F' H' (C ++ O')
def Lt (t : TE) (l : Ln) : Prop := ∀ (F H : Hp) (O B : List Addr) (σ : L2.St) (E : Ev) (d : D) (put : D → Ev), l E = some (d, put) → Own F H (B ++ O) → RpS K mg F H σ E O →
  ∀ Q : VK, (∀ v0, PFoc K mg F H σ O B v0 d put → Q v0 H) → t σ H Q
end
def LN (Y : Fm) (e : Expr) (l : Ln) : Prop := ∃ t, (∀ X, Y.Is X → PE X e t) ∧ Lt Y.K Y.mg t l
def lnVar (i : Nat) : Ln := fun E => match E[i]? with | some (some d) => some (d, fun d' => E.set i (some d')) | _ => none
def lnIx (k : Int) (l : Ln) : Ln := fun E => match l E with | some (.tup xs, put) => (match ixN xs.length k with | some j => (match xs[j]? with | some d => some (d, fun d' => put (.tup (xs.set j d'))) | none => none) | none => none) | _ => none
section
variable {K : PySem.W.Frag} {mg : Md} {F H F' H' : Hp} {O O' A B C : List Addr} {σ : L2.St} {E : Ev} {i : Nat} {d : D} {v y v0 : V} {vs ws : List V} {ds ks : List D} {a : Addr} {put : D → Ev}
/-- a list of values by itself: one changes, the others stay -/
theorem RpL.focus : ∀ {ds : List D} {vs : List V} {O : List Addr} {j : Nat} {d : D}, RpL K mg F H vs ds O → ds[j]? = some d →
    ∃ v O1 A O2, O = O1 ++ (A ++ O2) ∧ vs[j]? = some v ∧ Rp K mg F H v d A ∧
      ∀ (F' H' : Hp) (d' : D) (A' : List Addr), (∀ {x y B}, Rp K mg F H x y B → (∀ b ∈ B, b ∈ O1 ++ O2) → Rp K mg F' H' x y B) → Rp K mg F' H' v d' A' →
        RpL K mg F' H' vs (ds.set j d') (O1 ++ (A' ++ O2))
  | _, _, _, j, d, .nil, e => by simp at e
  | _, _, _, 0, d, .cons (v := v) (O1 := P1) (O2 := P2) h1 h2, e => by
    simp at e
    subst e
    refine ⟨v, [], P1, P2, rfl, rfl, h1, fun F' H' d' A' st r' => ?_⟩
    have rest : ∀ {ds : List D} {vs : List V} {A : List Addr}, RpL K mg F H vs ds A → (∀ b ∈ A, b ∈ P2) → RpL K mg F' H' vs ds A := by
      intro ds
      induction ds with
      | nil => intro vs A h _; cases h; exact .nil
      | cons d ds ih =>
        intro vs A h m
        cases h with
        | cons k1 k2 => exact .cons (st k1 fun b q => m b (List.mem_append_left _ q)) (ih k2 fun b q => m b (List.mem_append_right _ q))
    show RpL K mg F' H' _ _ (A' ++ P2)
    exact .cons r' (rest h2 fun _ m => m)
  | _, _, _, j + 1, d, .cons (O1 := P1) (O2 := P2) h1 h2, e => by
    obtain ⟨v, Q1, A, Q2, eq, es, r, go⟩ := RpL.focus (j := j) h2 (by simpa using e)
    subst eq
    refine ⟨v, P1 ++ Q1, A, Q2, by rw [List.append_assoc], by simpa using es, r, fun F' H' d' A' st r' => ?_⟩
    rw [List.append_assoc]
    refine .cons (st h1 fun b m => List.mem_append_left _ (List.mem_append_left _ m)) (go F' H' d' A' (fun k m => st k fun b q => ?_) r')
    rw [List.append_assoc]
    exact List.mem_append_right _ (m b q)
/-- an item's place within a place -/
theorem PFoc.item {xs : List D} {A0 : List Addr} {j : Nat} {d1 : D} {f : D → List Addr → Prop} (rl : RpL K mg F H vs xs A0) (ej : xs[j]? = some d1) (w : Own F H (A0 ++ B))
    (go : ∀ (F' H' : Hp) (xs' : List D) (A' C : List Addr), Ext F H (A0 ++ B) F' H' (A' ++ C) → Own F' H' (A' ++ C) → RpL K mg F' H' vs xs' A' → ∃ O', RpS K mg F' H' σ (put (.tup xs')) O' ∧ Own F' H' (C ++ O') ∧ Ext F H (B ++ O) F' H' (C ++ O')) :
    ∃ v1, vs[j]? = some v1 ∧ PFoc K mg F H σ O B v1 d1 (fun d' => put (.tup (xs.set j d'))) := by
  obtain ⟨v1, O1, A, O2, eq, es, r, go2⟩ := rl.focus ej
  subst eq
  have p : ((O1 ++ (A ++ O2)) ++ B).Perm ((O1 ++ O2) ++ (A ++ B)) := by
    rw [List.append_assoc, List.append_assoc, List.append_assoc]
    refine List.Perm.append_left O1 ?_
    rw [← List.append_assoc, ← List.append_assoc]
    exact List.Perm.append_right B List.perm_append_comm
  have w1 := w.perm p
  refine ⟨v1, es, A, r, w1.right, fun F' H' d' A' C x w' r' => ?_⟩
  have q := go2 F' H' d' A' (fun k m => k.ext x fun b hb => w1.apart b (m b hb)) r'
  have p' : ((O1 ++ O2) ++ (A' ++ C)).Perm ((O1 ++ (A' ++ O2)) ++ C) := by
    rw [List.append_assoc, List.append_assoc, List.append_assoc]
    refine List.Perm.append_left O1 ?_
    rw [← List.append_assoc, ← List.append_assoc]
    exact List.Perm.append_right C List.perm_append_comm
  exact go F' H' (xs.set j d') (O1 ++ (A' ++ O2)) C ((x.frame w1).perm p.symm p') ((w1.frame x w').perm p') q
end
/-! ### the places -/
section
variable {Y : Fm} {pos : Pos}
theorem ln_var {i : Nat} {x : Str} {px : Pos} (hN : Y.N[i]? = some x) (hv : Vis Y.sc x) (hd : (x == ("__debug__" : Str)) = false := by decide) (hcd : (x == ("__classdict__" : Str)) = false := by decide) : LN Y (.Name x px) (lnVar i) := by
  refine ⟨_, fun X h => pe_var (h.nm hN) (h.vis hv) hd hcd, fun F H O B σ E d put e w s Q hQ => ?_⟩
  unfold lnVar at e
  split at e
  · rename_i d0 e0
    cases e
    obtain ⟨v, A, es, r, wA, go⟩ := s.changeB w e0
    exact ⟨v, es, hQ v ⟨A, r, wA, go⟩⟩
  · cases e
theorem ln_ix {e : Expr} {l : Ln} {k : Int} {j1 p1} (h : LN Y e l) (hs : PlainIx (.Constant (.int k) j1 p1) := by intro _ _; rfl) : LN Y (.Subscript e (.Constant (.int k) j1 p1) pos) (lnIx k l) := by
  obtain ⟨t, p, q⟩ := h
  refine ⟨_, fun X h => pe_ix (ix_Y h) (p X h) pe_int hs, fun F H O B σ E d put e w s Q hQ => ?_⟩
  unfold lnIx at e
  split at e
  · rename_i xs put0 el
    split at e
    · rename_i j ej
      split at e
      · rename_i d1 ed
        cases e
        refine q F H O B σ E _ _ el w s _ fun v0 ⟨A0, r, wA, go⟩ => ?_
        cases r with
        | @tup a vs _ _ h z rl =>
          obtain ⟨v1, e1, foc⟩ := PFoc.item (put := put0) (O := O) (σ := σ) (f := fun _ _ => True) rl ed wA fun F' H' xs' A' C x w' r' => go F' H' (.tup xs') A' C x w' (.tup (SqT.up x.fle h) z r')
          refine .inl (.inr (.inl ⟨a, vs, k, v1, rfl, rfl, SqT.up w.le h, ?_, hQ v1 foc⟩))
          unfold atI
          rw [rl.length, ej]
          exact e1
      · cases e
    · cases e
  · cases e
end
/-! ### writes -/
def setC (c k d : D) : Option D := match c with
  | .lst true xs => (setAt xs k d).map (.lst true)
  | .dic true ks ds => (dPut ks ds k d).map fun p => .dic true p.1 p.2
  | _ => none
abbrev rSetX (K : PySem.W.Frag) (mg : Md) : TSet := fun o i v H Q => rSetL o i v H Q ∨ rSetY K mg o i v H Q
theorem set_X {X : Cx} {mg : Md} {k : Nat} (hr : Room k X.A) (hp : mg.P = X.prog) (hw : mg.w = X.w) : PSet X (rSetX X.K mg) := by
  intro pins s σ H o i v ov iv u Q I ro ri rv h
  rcases h with h | h
  · exact set_list pins s σ H o i v ov iv u Q I ro ri rv h
  · exact set_Y hr hp hw pins s σ H o i v ov iv u Q I ro ri rv h
def gdPut (l : Ln) (fi : Ev → Option D) : D → Ev → Option Ev := fun d E => match l E with
  | some (c, put) => (match fi E with | some k => (match setC c k d with | some c' => some (put c') | none => none) | none => none)
  | none => none
section
variable {K : PySem.W.Frag} {mg : Md} {F H F' H' F1 H1 : Hp} {O O' A B C C0 : List Addr} {σ : L2.St} {E : Ev} {i : Nat} {d c c' k : D} {v y v0 : V} {vs ws : List V} {ds ks : List D} {a : Addr} {put : D → Ev}
theorem set_coreL (p : PFoc K mg F H σ O B v0 c put) (x : Qx F H F1 H1) (e : setC c k d = some c') (rv : Rp K mg F1 H1 v d B) (ry : Rp K mg F1 H1 y k C0) {Q : Hp → Prop}
    (hQ : ∀ H' O', Ext F H (B ++ O) F1 H' O' → Own F1 H' O' → RpS K mg F1 H' σ (put c') O' → Q H') : rSetX K mg v0 y v H1 Q := by
  obtain ⟨A0, r, w, go⟩ := p
  have r1 := x.rp r
  have w1 := x.own w
  have fin : ∀ {a : Addr} {As As' : List Addr} {o' : HO}, A0 = a :: As → As'.Nodup → a ∉ As' → (∀ b ∈ As', b ∈ As ∨ b ∈ B) → Rp K mg F1 (upd H1 a o') v0 c' (a :: As') → Q (upd H1 a o') := by
    intro a As As' o' eA nd na hs r'
    subst eA
    have hs' : ∀ b ∈ (a :: As') ++ [], b ∈ (a :: As) ++ B := fun b m => by
      rw [List.append_nil] at m
      rcases List.mem_cons.mp m with z | m
      · rw [z]; exact List.mem_append_left _ List.mem_cons_self
      · rcases hs b m with m | m
        · exact List.mem_append_left _ (List.mem_cons_of_mem _ m)
        · exact List.mem_append_right _ m
    have nd2 : ((a :: As') ++ []).Nodup := by rw [List.append_nil]; exact List.nodup_cons.mpr ⟨na, nd⟩
    obtain ⟨O', s', w', x'⟩ := go F1 (upd H1 a o') c' (a :: As') [] (x.extO.trans (wg_ext hs')) (wg_own w1 nd2 hs') r'
    exact hQ _ O' x' w' s'
  unfold setC at e
  split at e
  · rename_i xs
    obtain ⟨ys, ey, e2⟩ := Option.map_eq_some_iff.mp e
    subst e2
    obtain ⟨n, j, en, ej, eys⟩ := setAt_some ey
    subst en eys
    obtain ⟨a, us, As, eva, eA, h1, z1, rl⟩ := r1.lstO_inv
    rw [eA] at w1
    have hF := w1.out a (List.mem_append_left _ List.mem_cons_self)
    have ndA := List.nodup_append.mp w1.nd
    have ndc := List.nodup_cons.mp ndA.1
    have hj := ixN_some ej
    obtain ⟨As', rl', nd', m'⟩ := rl.set rv hj (fun b m => fun q => ndA.2.2 b (List.mem_cons_of_mem _ m) b q rfl) ndc.2 ndA.2.1
    have nA : a ∉ As' := fun m => by
      rcases m' a m with m | m
      · exact ndc.1 m
      · exact ndA.2.2 a List.mem_cons_self a m rfl
    refine .inl ⟨a, us, n, j, eva, ry.int_inv, h1, by rw [rl.length]; exact ej, fin eA nd' nA m' ?_⟩
    rw [eva]
    exact .lstO upd_same hF (by rw [List.length_set]; exact z1) (wg_rpl nA hF rl')
  · rename_i ks ds
    obtain ⟨⟨ks', ds'⟩, ey, e2⟩ := Option.map_eq_some_iff.mp e
    subst e2
    obtain ⟨a, us, As, eva, Dc, rl, ho, _⟩ := r1.dic_inv w1.le
    obtain ⟨eA, _⟩ := ho rfl
    rw [eA] at w1
    rw [eva]
    refine .inr (dput_core w1 Dc rl rv ry ey fun o' As' nd na hs r' => fin eA nd na hs ?_)
    rw [eva]
    exact r'
  · cases e
end
section
variable {Y : Fm} {pos : Pos}
/-- e[ix] as a target, e a place -/
theorem gd_put {e ix : Expr} {l : Ln} {fi} (hl : LN Y e l) (hi : PQ Y ix fi)
    (ha : ∀ X : Cx, ∀ v, assign (.Subscript e ix pos) X.env v = (do
      let ov ← holding [v] (eval e X.env)
      let iv ← holding [v, ov] (eval ix X.env)
      standAt pos
      holding [v, ov, iv] (setItem ov iv v)
      release [v, ov, iv] []) := by intro _ _; rfl) : GD Y (.Subscript e ix pos) [] (gdPut l fi) := by
  obtain ⟨_, pl, ql⟩ := hl
  obtain ⟨_, p, q⟩ := hi
  refine ⟨_, fun X h => pg_sub (t := rSetX Y.K Y.mg) (pl X h) (p X h) (by rw [← h.K]; exact set_X h.room h.prog.symm h.w.symm) (ha X), fun F H A O σ E E' v d e w r s Q h => ?_⟩
  unfold gdPut at e
  split at e
  · rename_i c put el
    split at e
    · rename_i k ek
      split at e
      · rename_i c' ec
        cases e
        refine ql F H O A σ E c put el w s _ fun v0 foc => q F H O σ E k ek w.right s _ fun kv F1 H1 A1 x1 r1 => ?_
        exact set_coreL foc x1 ec (x1.rp r) r1 fun H' O' x' w' s' => h σ F1 H' O' Tch.refl x' w' s'
      · cases e
    · cases e
  · cases e
/-- a method of a list that stands at a place; quiet, frozen arguments -/
def eMtL (l : Ln) (op : List D → List D → Option (D × List D)) (g : Ev → Option (List D)) : Ev → Option (D × Ev) := fun E => match l E with
  | some (.lst true xs, put) => (match g E with
    | some ds => (if isFzL ds = true then (match op xs ds with | some (d, xs') => some (d, put (.lst true xs')) | none => none) else none)
    | none => none)
  | _ => none
theorem de_mtL {K : PySem.W.Frag} {mg : Md} {tl : TE} {t : TA} {l g} {r : V → List V → Hp → VK → Prop} {op} (hr : RMok K mg r op) (ql : Lt K mg tl l) (q : Qa K mg t g) : De K mg (tBM K "list" r tl t) (eMtL l op g) := by
  intro F H O σ E d E' e w s Q hQ
  unfold eMtL at e
  split at e
  · rename_i xs put el
    split at e
    · rename_i ds eg
      split at e
      · rename_i hz
        split at e
        · rename_i d' xs' eo
          cases e
          have w0 : Own F H ([] ++ O) := w
          refine ql F H O [] σ E _ put el w0 s _ fun v0 ⟨A0, r0, wA, go⟩ => ?_
          obtain ⟨a0, us0, As0, ev0, _, h0, _, _⟩ := r0.lstO_inv
          refine ⟨by rw [ev0]; exact .inl ⟨rfl, _, SqL.of h0⟩, q F H O σ E ds eg w s _ fun vs F1 H1 B x1 r1 => ?_⟩
          have rn := r1.nilOf hz
          have rv := x1.rp r0
          have w1 := x1.own wA
          obtain ⟨a, us, As, eva, eA, h1, z1, rl⟩ := rv.lstO_inv
          rw [eA] at w1
          rw [eva]
          have hF := w1.out a (List.mem_append_left _ List.mem_cons_self)
          have ndA := List.nodup_append.mp w1.nd
          refine hr F1 H1 a us xs vs ds d xs' As [] eo w1 h1 z1 rl rn Q fun u us' As' C z2 nd hs rl' ru => ?_
          have nA : a ∉ As' ++ C := fun m => by
            rcases hs a m with m | m
            · exact (List.nodup_cons.mp ndA.1).1 m
            · cases m
          have hs' : ∀ b ∈ (a :: As') ++ C, b ∈ (a :: As) ++ [] := fun b m => by
            rw [List.cons_append] at m
            rcases List.mem_cons.mp m with z | m
            · rw [z]; exact List.mem_append_left _ List.mem_cons_self
            · rcases hs b m with m | m
              · exact List.mem_append_left _ (List.mem_cons_of_mem _ m)
              · cases m
          have nd' : ((a :: As') ++ C).Nodup := by rw [List.cons_append]; exact List.nodup_cons.mpr ⟨nA, nd⟩
          have xw := wg_ext (F := F1) (H := H1) (u := .lst us') hs'
          have ww := wg_own (u := .lst us') w1 nd' hs'
          have rn := wg_rpl (u := .lst us') (fun m => nA (List.mem_append_left _ m)) hF rl'
          have ru' := wg_rp (u := .lst us') (fun m => nA (List.mem_append_right _ m)) hF ru
          rw [← eA] at xw
          obtain ⟨O', s', w', x'⟩ := go F1 _ (.lst true xs') (a :: As') C (x1.extO.trans xw) ww (by rw [eva]; exact .lstO upd_same hF z2 rn)
          exact hQ u F1 _ C O' x' w' ru' s'
        · cases e
      · cases e
    · cases e
  · cases e
section
variable {o a : Expr} {e : Expr} {es : List Expr} {apos cpos : Pos} {name : Str} {id : String} {l : Ln} {g} {r : V → List V → Hp → VK → Prop} {op : List D → List D → Option (D × List D)}
theorem pd_mtL1 (slot : Slot "list" name id) (hty : typeOf (.builtin id) = pure (.type "method_descriptor")) (hm : ∀ X, Y.Is X → MtR X id r) (hr : RMok Y.K Y.mg r op) (hl : LN Y o l) (ha : PQa Y (e :: es) g)
    (hbase : ∀ X : Cx, attributeBase o name X.env (eval o X.env) = eval o X.env := by intro _; rfl)
    (hfew : ∀ X : Cx, ((backTo cpos (starEach (e :: es) X.env)).all (fun x => !x.1) && (backToKw cpos (keywordEach [] X.env)).all (fun x => x.1.isSome)
      && decide ((e :: es).length + ([] : List Keyword).length + (if ([] : List Keyword).isEmpty then 0 else 1) < 30)) = true := by intro _; rfl)
    (hline : (apos.endLine == cpos.line) = true := by rfl) (hs : ∀ X : Cx, starEach (e :: es) X.env = (false, eval e X.env) :: starEach es X.env := by intro _; rfl) (hplain : ∀ X : Cx, (backTo cpos (starEach es X.env)).any (·.1) = false := by intro _; rfl) :
    PD Y (.Call (.Attribute o name apos) (e :: es) [] cpos) (eMtL l op g) := by
  obtain ⟨_, pl, ql⟩ := hl
  obtain ⟨_, pa, qa⟩ := ha
  refine ⟨_, fun X h => ?_, de_mtL hr ql qa⟩
  have q := pe_bm (name := name) (apos := apos) (cpos := cpos) PySem.F.plainAttrs_list slot hty (hm X h) (pl X h) (pa X h) (hbase X) (hfew X) hline (hs X) (hplain X)
  rw [h.K] at q
  exact q
end
/-! ### {} -/
def eDic0 : Ev → Option (D × Ev) := fun E => some (.dic true [] [], E)
theorem pd_dic0 : PD Y (.Dict [] [] pos) eDic0 := by
  refine ⟨_, fun X h => pe_dnewK, fun F H O σ E d E' e w s Q hQ => ?_⟩
  cases e
  intro p hp
  have y : Qx F H F (upd H p (.dK [])) := Qx.new w.le hp
  refine hQ (.ref p) F _ [p] O ?_ (own_new (A := []) w hp) (.dKO (kvs := []) upd_same (none_of_le w.le hp) ⟨rfl, List.nodup_nil⟩ .nil) (y.rps s)
  exact Ext.fresh (C := [p]) (O := O) y fun c m => by simp at m; subst m; exact hp
end
end Dm

/-! sorted over lists of data: by the library's sorted_data -/
namespace Dm
open PySem PySem.Spec L2
open PyProof.Rows hiding St
/-! ### sorted -/
/-- all these data can be compared with one another, and are told apart by it -/
def sortOk (xs : List D) : Bool := isDatL xs && isFzL xs && (xs.all fun x => xs.all fun y => PySem.W.alike (toP x) (toP y)) &&
  ((xs.all fun x => match x with | .tup (_ :: _) => true | _ => false) || (xs.all fun x => match x with | .non => false | .tup _ => false | _ => true)) && (xs.all fun x => decide ((toP x).depth ≤ 60))
def leD (x y : D) : Bool := PySem.W.dataLe false toP x y
def rSortedX (K : PySem.W.Frag) : List V → Hp → VK → Prop := fun vs H Q => ∃ (l : Addr) (us : List V) (xs : List D), vs = [.ref l] ∧ SqL K H l us ∧ us.length = xs.length ∧ DpAll K H us (toPL xs) ∧ sortOk xs = true ∧
  ∀ p, H p = none → Q (.ref p) (upd H p (.lst (((us.zip xs).mergeSort (PySem.W.dataLe false fun b => toP b.2)).map (·.1))))
theorem sortOk_parts {xs : List D} (h : sortOk xs = true) : isDatL xs = true ∧ isFzL xs = true ∧ PySem.W.AllAlike (toPL xs) ∧ PySem.W.Sortable (toPL xs) ∧ ∀ x ∈ xs, (toP x).depth ≤ 60 := by
  unfold sortOk at h
  simp only [Bool.and_eq_true, Bool.or_eq_true, List.all_eq_true, decide_eq_true_eq] at h
  obtain ⟨⟨⟨⟨h1, h2⟩, h3⟩, h4⟩, h5⟩ := h
  refine ⟨h1, h2, ?_, ?_, h5⟩
  · rw [toPL_map]
    intro d hd d' hd'
    obtain ⟨x, hx, rfl⟩ := List.mem_map.mp hd
    obtain ⟨y, hy, rfl⟩ := List.mem_map.mp hd'
    exact h3 x hx y hy
  · rw [toPL_map]
    rcases h4 with h4 | h4
    · refine .inl fun d hd => ?_
      obtain ⟨x, hx, rfl⟩ := List.mem_map.mp hd
      have q := h4 x hx
      split at q
      · exact ⟨_, _, by simp only [toP, toPL]; rfl⟩
      · cases q
    · refine .inr fun d hd => ?_
      obtain ⟨x, hx, rfl⟩ := List.mem_map.mp hd
      have q := h4 x hx
      have q1 := (List.all_eq_true.mp (by rw [isDatL_all] at h1; exact h1)) x hx
      cases x <;> simp [toP, isDat] at q q1 ⊢
section
variable {X : Cx} {mg : Md} {k : Nat}
theorem zip_fst {α β : Type} : ∀ {l : List α} {m : List β}, l.length = m.length → (l.zip m).map (·.1) = l
  | [], [], _ => rfl
  | x :: l, y :: m, h => by rw [List.zip_cons_cons, List.map_cons, zip_fst (by simpa using h)]
  | [], _ :: _, h => by simp at h
  | _ :: _, [], h => by simp at h
theorem zip_snd {α β : Type} : ∀ {l : List α} {m : List β}, l.length = m.length → (l.zip m).map (·.2) = m
  | [], [], _ => rfl
  | x :: l, y :: m, h => by rw [List.zip_cons_cons, List.map_cons, zip_snd (by simpa using h)]
  | [], _ :: _, h => by simp at h
  | _ :: _, [], h => by simp at h
theorem each_zip {us : List V} {xs : List D} {its : List Value} : Vals us its → us.length = xs.length → PySem.W.EachIs (fun (u : Value) (b : V × D) => RelV b.1 u) its (us.zip xs) := by
  intro h
  induction h generalizing xs with
  | nil => intro _; cases xs <;> exact .nil
  | cons r t ih =>
    intro hl
    cases xs with
    | nil => simp at hl
    | cons x xs => exact .cons r (ih (by simpa using hl))
theorem each_vals {its : List Value} {bs : List (V × D)} (h : PySem.W.EachIs (fun (u : Value) (b : V × D) => RelV b.1 u) its bs) : Vals (bs.map (·.1)) its := by
  induction h with
  | nil => exact .nil
  | cons r t ih => exact .cons r ih
theorem each_reads {h : Heap} : ∀ {us : List V} {xs : List D} {its : List Value} {as : List Addr}, us.length = xs.length → ReadsAll h its (toPL xs) as → PySem.W.EachIs (fun (v : Value) (b : V × D) => ∃ as, Reads h v (toP b.2) as) its (us.zip xs)
  | [], [], its, _, _, r => by
    have r' : ReadsAll h its [] _ := r
    cases r'
    exact .nil
  | u :: us, x :: xs, its, _, hl, r => by
    have r' : ReadsAll h its (toP x :: toPL xs) _ := r
    cases r' with
    | cons h1 h2 => exact .cons ⟨_, h1⟩ (each_reads (by simpa using hl) h2)
  | [], _ :: _, _, _, h, _ => by simp at h
  | _ :: _, [], _, _, h, _ => by simp at h
/-- sorted(xs), xs a list of data that can be compared -/
theorem cr_sortedX (hr : Room k X.A) : CallR X (.builtin "sorted") (rSortedX X.K) := by
  rintro pins s σ H vs us0 Q I r ⟨l, us, xs, rfl, hq, hl, dp, ok, q⟩
  obtain ⟨u, rfl, ru⟩ := vals1 r
  cases ru
  obtain ⟨its, hv, pl, hz⟩ := I.list hq
  obtain ⟨o1, o2, o3, o4, o5⟩ := sortOk_parts ok
  obtain ⟨as, rd⟩ := Dp.readsAll I (toPL xs) us its dp hv
  have em : ((us.zip xs).map fun b => toP b.2) = toPL xs := by
    rw [toPL_map, ← congrArg (List.map toP) (zip_snd hl), List.map_map]; rfl
  have zl : (us.zip xs).length = us.length := by rw [List.length_zip, ← hl, Nat.min_self]
  refine PySem.W.sorted_data pl.isList (each_zip hv hl) (each_reads hl rd) (by rw [em]; exact o3) (by rw [em]; exact o4) (by rw [zl]; exact hz) (fun b hb => ?_) fun out ho eo => ?_
  · have d := o5 b.2 (List.of_mem_zip hb).2
    have := hr.un
    omega
  · obtain ⟨n, at'⟩ := sortedAll_at s.heap its out.toArray
    refine ⟨.ref _, upd H _ (.lst _), I.laid (t' := s.toks) (fun b o e => sortedAll_old e) (Nat.le_succ _) ⟨?_, out, n, each_vals eo, at'⟩, rfl, q _ (I.hok.fresh (Nat.le_succ _))⟩
    rw [List.length_map, List.length_mergeSort, zl]; exact hz
end
end Dm

/-! classes: attributes read, written, as places -/
namespace Dm
open PySem PySem.Spec L2
open PyProof.Rows hiding St
/-- a class of the module, none of whose classes has the name -/
def AtOk (K : PySem.W.Frag) (mg : Str → Option Value) (c f : Str) : Prop := ∃ C, mg c = some (.ref C) ∧ Cls K C ∧ NoAttr K C f
abbrev AtsOk (K : PySem.W.Frag) (mg : Str → Option Value) (cs : List Str) (f : Str) : Prop := ∀ c ∈ cs, AtOk K mg c f
theorem ats_nil {K : PySem.W.Frag} {mg : Str → Option Value} {f : Str} : AtsOk K mg [] f := fun _ m => by cases m
theorem ats_cons {K : PySem.W.Frag} {mg : Str → Option Value} {c f : Str} {cs : List Str} (h : AtOk K mg c f) (t : AtsOk K mg cs f) : AtsOk K mg (c :: cs) f := fun x m => by
  rcases List.mem_cons.mp m with e | m
  · subst e; exact h
  · exact t x m
def opAt (cs : List Str) (f : Str) : D → Option D
  | .ins _ c fs vs => if c ∈ cs then lookK fs vs f else none
  | _ => none
def qAt (cs : List Str) (f : Str) (g : Ev → Option D) : Ev → Option D := fun E => match g E with | some d => opAt cs f d | none => none
def setF (cs : List Str) (f : Str) (d : D) : D → Option D
  | .ins true c fs vs => if c ∈ cs ∧ fs.length < 1000 then some (match ixOf fs f with | some j => .ins true c fs (vs.set j d) | none => .ins true c (fs ++ [f]) (vs ++ [d])) else none
  | _ => none
def sSetAt (l : Ln) (cs : List Str) (f : Str) (g : Ev → Option (D × Ev)) : Ev → Option Out := fun E => match g E with
  | some (d, E1) => (match l E1 with | some (c, put) => (match setF cs f d c with | some c' => some (.nx (put c')) | none => none) | none => none)
  | none => none
def lnAt (cs : List Str) (f : Str) (l : Ln) : Ln := fun E => match l E with
  | some (.ins true c fs vs, put) => if c ∈ cs then (match ixOf fs f with | some j => (match vs[j]? with | some d => some (d, fun d' => put (.ins true c fs (vs.set j d'))) | none => none) | none => none) else none
  | _ => none
section
variable {K : PySem.W.Frag} {mg : Md} {F H F' H' : Hp} {O A B C : List Addr} {σ : L2.St} {v v0 : V} {vs : List V} {ds : List D} {a : Addr} {put : D → Ev} {f : Str} {kvs : List (Str × V)}
theorem lookK_ix {κ : Type} [DecidableEq κ] : ∀ {ks : List κ} {ds : List D} {k : κ} {d : D}, lookK ks ds k = some d → ∃ j, ixOf ks k = some j ∧ ds[j]? = some d
  | [], _, _, _, e => by simp [lookK] at e
  | _ :: _, [], _, _, e => by simp [lookK] at e
  | x :: ks, d0 :: ds, k, d, e => by
    unfold lookK at e
    unfold ixOf
    by_cases h : x = k
    · rw [if_pos h] at e ⊢; cases e; exact ⟨0, rfl, rfl⟩
    · rw [if_neg h] at e ⊢
      obtain ⟨j, h1, h2⟩ := lookK_ix e
      exact ⟨j + 1, by rw [h1]; rfl, by simpa using h2⟩
theorem lookup_ix : ∀ {kvs : List (Str × V)} {j : Nat} {v : V}, ixOf (kvs.map (·.1)) f = some j → (kvs.map (·.2))[j]? = some v → kvs.lookup f = some v
  | [], _, _, e, _ => by simp [ixOf] at e
  | (x, u) :: kvs, j, v, e, e2 => by
    rw [List.map_cons] at e
    unfold ixOf at e
    by_cases h : x = f
    · rw [if_pos h] at e
      cases e
      have hb : (f == x) = true := beq_iff_eq.mpr h.symm
      simp only [List.lookup, hb]
      simpa using e2
    · rw [if_neg h] at e
      obtain ⟨i, h1, h2⟩ := Option.map_eq_some_iff.mp e
      subst h2
      have hb : (f == x) = false := beq_eq_false_iff_ne.mpr fun q => h q.symm
      simp only [List.lookup, hb]
      exact lookup_ix h1 (by simpa using e2)
theorem lookup_ixN : ∀ {kvs : List (Str × V)}, f ∉ kvs.map (·.1) → kvs.lookup f = none
  | [], _ => rfl
  | (x, u) :: kvs, n => by
    rw [List.map_cons, List.mem_cons, not_or] at n
    have hb : (f == x) = false := beq_eq_false_iff_ne.mpr n.1
    simp only [List.lookup, hb]
    exact lookup_ixN n.2
/-- the one who stands there: an instance of a class of the module -/
inductive InV (mg : Md) (F H : Hp) (a : Addr) (c : Str) : List Str → List V → Prop
  | mk {C dx : Addr} {kvs : List (Str × V)} : mg c = some (.ref C) → H a = some (.ins C dx kvs) → InV mg F H a c (kvs.map (·.1)) (kvs.map (·.2))
theorem Rp.ins_inv {o : Bool} {c : Str} {fs : List Str} (f : ∀ a o, F a = some o → H a = some o) (r : Rp K mg F H v (.ins o c fs ds) A) : ∃ a vs As, v = .ref a ∧ InV mg F H a c fs vs ∧ RpL K mg F H vs ds As := by
  cases r with
  | insF e e1 e2 h => exact ⟨_, _, [], rfl, .mk e (f _ _ e1), h⟩
  | insO e e1 _ _ _ h => exact ⟨_, _, _, rfl, .mk e e1, h⟩
theorem at_core {o : Bool} {c : Str} {cs fs : List Str} {d : D} (le : ∀ a o, F a = some o → H a = some o) (hc : AtsOk K mg.f cs f) (r : Rp K mg F H v (.ins o c fs ds) A) (e : opAt cs f (.ins o c fs ds) = some d) {Q : VK} (hQ : ∀ u C, Rp K mg F H u d C → Q u H) :
    ∃ a C dx kvs u, v = .ref a ∧ H a = some (.ins C dx kvs) ∧ Cls K C ∧ NoAttr K C f ∧ kvs.lookup f = some u ∧ Q u H := by
  by_cases m : c ∈ cs
  · have e : lookK fs ds f = some d := by simpa only [opAt, if_pos m] using e
    obtain ⟨C, hm, cl, na⟩ := hc c m
    obtain ⟨a, vs, As, ev, iv, rl⟩ := r.ins_inv le
    cases iv with
    | @mk C' dx kvs hm' e1 =>
      have q : some (Value.ref C) = some (.ref C') := hm.symm.trans hm'
      cases q
      obtain ⟨j, j1, j2⟩ := lookK_ix e
      obtain ⟨u, Cs, eu, ru, _⟩ := rl.get j2
      exact ⟨a, C, dx, kvs, u, ev, e1, cl, na, lookup_ix j1 eu, hQ u _ ru⟩
  · simp only [opAt, if_neg m] at e
    cases e
/-- a part's place within a place -/
theorem PFoc.part {xs : List D} {A0 Ex : List Addr} {j : Nat} {d1 : D} {mk : List D → D} (rl : RpL K mg F H vs xs A0) (ej : xs[j]? = some d1) (w : Own F H ((Ex ++ A0) ++ B))
    (go : ∀ (F' H' : Hp) (xs' : List D) (A' C : List Addr), (∀ b ∈ Ex, ∀ o, H b = some o → H' b = some o) → Ext F H ((Ex ++ A0) ++ B) F' H' ((Ex ++ A') ++ C) → Own F' H' ((Ex ++ A') ++ C) → RpL K mg F' H' vs xs' A' → ∃ O', RpS K mg F' H' σ (put (mk xs')) O' ∧ Own F' H' (C ++ O') ∧ Ext F H (B ++ O) F' H' (C ++ O')) :
    ∃ v1, vs[j]? = some v1 ∧ PFoc K mg F H σ O B v1 d1 (fun d' => put (mk (xs.set j d'))) := by
  obtain ⟨v1, O1, A, O2, eq, es, r, again⟩ := rl.focus ej
  subst eq
  have reorder : ∀ M N : List Addr, ((Ex ++ (O1 ++ (M ++ O2))) ++ N).Perm ((Ex ++ (O1 ++ O2)) ++ (M ++ N)) := fun M N => List.perm_iff_count.mpr fun z => by simp only [List.count_append]; omega
  have w1 := w.perm (reorder A B)
  refine ⟨v1, es, A, r, w1.right, fun F' H' d' A' C x w' r' => ?_⟩
  exact go F' H' (xs.set j d') (O1 ++ (A' ++ O2)) C (fun b m o e => x.hle b o e (w1.apart b (List.mem_append_left _ m))) ((x.frame w1).perm (reorder A B).symm (reorder A' C).symm) ((w1.frame x w').perm (reorder A' C).symm)
    (again F' H' d' A' (fun k m => k.ext x fun b hb => w1.apart b (List.mem_append_right _ (m b hb))) r')
theorem putF_old {y : V} : ∀ {kvs : List (Str × V)} {j : Nat}, ixOf (kvs.map (·.1)) f = some j → (putF f y kvs).map (·.1) = kvs.map (·.1) ∧ (putF f y kvs).map (·.2) = (kvs.map (·.2)).set j y
  | [], _, e => by simp [ixOf] at e
  | (x, u) :: kvs, j, e => by
    rw [List.map_cons] at e
    unfold ixOf at e
    rw [show putF f y ((x, u) :: kvs) = (if x = f then (x, y) :: kvs else (x, u) :: putF f y kvs) from rfl]
    by_cases h : x = f
    · rw [if_pos h] at e ⊢
      cases e
      exact ⟨rfl, rfl⟩
    · rw [if_neg h] at e ⊢
      obtain ⟨i, h1, h2⟩ := Option.map_eq_some_iff.mp e
      subst h2
      obtain ⟨p1, p2⟩ := putF_old (y := y) h1
      exact ⟨by rw [List.map_cons, p1]; rfl, by rw [List.map_cons, p2]; rfl⟩
theorem putF_add {y : V} : ∀ {kvs : List (Str × V)}, ixOf (kvs.map (·.1)) f = none → putF f y kvs = kvs ++ [(f, y)]
  | [], _ => rfl
  | (x, u) :: kvs, e => by
    rw [List.map_cons] at e
    unfold ixOf at e
    rw [show putF f y ((x, u) :: kvs) = (if x = f then (x, y) :: kvs else (x, u) :: putF f y kvs) from rfl]
    by_cases h : x = f
    · rw [if_pos h] at e; cases e
    · rw [if_neg h] at e ⊢
      rw [Option.map_eq_none_iff] at e
      rw [putF_add e]; rfl
/-- an instance is written -/
theorem setF_core {c c' d : D} {cs : List Str} {y : V} (p : PFoc K mg F H σ O B v0 c put) (hc : AtsOk K mg.f cs f) (e : setF cs f d c = some c') (rv : Rp K mg F H y d B) (le : ∀ a o, F a = some o → H a = some o) {Q : Hp → Prop}
    (hQ : ∀ H' O', Ext F H (B ++ O) F H' O' → Own F H' O' → RpS K mg F H' σ (put c') O' → Q H') : ∃ a C dx fs, v0 = .ref a ∧ H a = some (.ins C dx fs) ∧ Cls K C ∧ NoAttr K C f ∧ fs.length < 1000 ∧ Q (upd H a (.ins C dx (putF f y fs))) := by
  obtain ⟨A0, r, w, go⟩ := p
  unfold setF at e
  split at e
  · rename_i c0 fs vs
    split at e
    · rename_i hm
      cases r with
      | @insO a C dx _ kvs vs' O' hC h1 h2 n1 n2 rl =>
        obtain ⟨C', hm', cl, na⟩ := hc c0 hm.1
        have q : some (Value.ref C') = some (.ref C) := hm'.symm.trans hC
        cases q
        have nd := List.nodup_append.mp w.nd
        have ndc := List.nodup_cons.mp nd.1
        have ndd := List.nodup_cons.mp ndc.2
        have nda : dx ≠ a := fun z => ndc.1 (z ▸ List.mem_cons_self)
        have apB : ∀ b ∈ O', b ∉ B := fun b m q => nd.2.2 b (List.mem_cons_of_mem _ (List.mem_cons_of_mem _ m)) b q rfl
        have aB : a ∉ B := fun m => nd.2.2 a List.mem_cons_self a m rfl
        have dB : dx ∉ B := fun m => nd.2.2 dx (List.mem_cons_of_mem _ List.mem_cons_self) dx m rfl
        have aO : a ∉ O' := fun m => ndc.1 (List.mem_cons_of_mem _ m)
        refine ⟨a, C, dx, kvs, rfl, h1, cl, na, by simpa using hm.2, ?_⟩
        have fin : ∀ {Os : List Addr} {fs' : List Str} {ds' : List D}, (putF f y kvs).map (·.1) = fs' → RpL K mg F H ((putF f y kvs).map (·.2)) ds' Os → Os.Nodup → (∀ b ∈ Os, b ∈ O' ∨ b ∈ B) → RpL K mg F H ((putF f y kvs).map (·.2)) ds' Os →
            (put c' = put (.ins true c0 fs' ds')) → Q (upd H a (.ins C dx (putF f y kvs))) := by
          intro Os fs' ds' e1 r1 ndO hs _ ep
          have nA : a ∉ Os := fun m => (hs a m).elim aO aB
          have nD : dx ∉ Os := fun m => (hs dx m).elim ndd.1 dB
          have hs' : ∀ b ∈ (a :: dx :: Os) ++ [], b ∈ (a :: dx :: O') ++ B := fun b m => by
            rw [List.append_nil] at m
            rcases List.mem_cons.mp m with z | m
            · subst z; exact List.mem_append_left _ List.mem_cons_self
            · rcases List.mem_cons.mp m with z | m
              · subst z; exact List.mem_append_left _ (List.mem_cons_of_mem _ List.mem_cons_self)
              · rcases hs b m with m | m
                · exact List.mem_append_left _ (List.mem_cons_of_mem _ (List.mem_cons_of_mem _ m))
                · exact List.mem_append_right _ m
          have nd2 : ((a :: dx :: Os) ++ []).Nodup := by
            rw [List.append_nil]
            refine List.nodup_cons.mpr ⟨fun m => ?_, List.nodup_cons.mpr ⟨nD, ndO⟩⟩
            rcases List.mem_cons.mp m with z | m
            · exact nda z.symm
            · exact nA m
          obtain ⟨O2, s2, w2, x2⟩ := go F (upd H a (.ins C dx (putF f y kvs))) (.ins true c0 fs' ds') (a :: dx :: Os) [] (wg_ext hs') (wg_own w nd2 hs') (by
            rw [← e1]
            exact .insO hC upd_same (by rw [upd_ne nda]; exact h2) n1 n2 (wg_rpl nA n1 r1))
          rw [← ep] at s2
          exact hQ _ O2 x2 w2 s2
        cases q : ixOf (kvs.map (·.1)) f with
        | some j =>
          rw [q] at e
          cases e
          obtain ⟨p1, p2⟩ := putF_old (y := y) q
          have hj : j < vs.length := by
            have := ixOf_lt q
            have l := rl.length
            rw [List.length_map] at this l
            omega
          obtain ⟨As', rl', nd', m'⟩ := rl.set rv hj apB ndd.2 nd.2.1
          rw [← p2] at rl'
          exact fin p1 rl' nd' m' rl' rfl
        | none =>
          rw [q] at e
          cases e
          have pa := putF_add (y := y) q
          have q1 : RpL K mg F H [y] [d] (B ++ []) := .cons rv .nil
          rw [List.append_nil] at q1
          have rl' := rl.append q1
          have p2 : (putF f y kvs).map (·.2) = kvs.map (·.2) ++ [y] := by rw [pa, List.map_append]; rfl
          rw [← p2] at rl'
          exact fin (by rw [pa, List.map_append]; rfl) rl' (List.nodup_append.mpr ⟨ndd.2, nd.2.1, fun b m c n z => apB b m (z ▸ n)⟩) (fun b m => List.mem_append.mp m) rl' rfl
    · cases e
  · cases e
end
section
variable {Y : Fm} {pos pos' : Pos} {o e : Expr} {cs : List Str} {f : Str} {lk : Lks}
theorem pq_at {fa} (h : PQ Y e fa) (hc : AtsOk Y.K Y.mgf cs f) (hb : ∀ X : Cx, attributeBase e f X.env (eval e X.env) = eval e X.env := by intro _; rfl) : PQ Y (.Attribute e f pos) (qAt cs f fa) := by
  obtain ⟨_, p, q⟩ := h
  refine ⟨tFld Y.K _ f, fun X h => by rw [← h.K]; exact pe_fld (p X h) (hb X), fun F H O σ E d e w s Q hQ => ?_⟩
  unfold qAt at e
  split at e
  · rename_i d0 e0
    refine q F H O σ E d0 e0 w s _ fun v F1 H1 A x1 r1 => ?_
    cases d0 <;> try (simp [opAt] at e; done)
    exact at_core x1.le hc r1 e fun u C r => hQ u F1 H1 C x1 r
  · cases e
theorem ln_at {l : Ln} (h : LN Y e l) (hc : AtsOk Y.K Y.mgf cs f) (hb : ∀ X : Cx, attributeBase e f X.env (eval e X.env) = eval e X.env := by intro _; rfl) : LN Y (.Attribute e f pos) (lnAt cs f l) := by
  obtain ⟨_, p, q⟩ := h
  refine ⟨tFld Y.K _ f, fun X h => by rw [← h.K]; exact pe_fld (p X h) (hb X), fun F H O B σ E d put e w s Q hQ => ?_⟩
  unfold lnAt at e
  split at e
  · rename_i c0 fs vs put0 el
    split at e
    · rename_i hm
      split at e
      · rename_i j ej
        split at e
        · rename_i d1 ed
          cases e
          refine q F H O B σ E _ _ el w s _ fun v0 ⟨A0, r, wA, go⟩ => ?_
          cases r with
          | @insO a C dx _ kvs _ O' hC h1 h2 n1 n2 rl =>
            obtain ⟨C', hm', cl, na⟩ := hc c0 hm
            have q : some (Value.ref C') = some (.ref C) := hm'.symm.trans hC
            cases q
            obtain ⟨v1, e1, foc⟩ := PFoc.part (put := put0) (O := O) (B := B) (σ := σ) (Ex := [a, dx]) (mk := fun xs => .ins true c0 (kvs.map (·.1)) xs) rl ed wA fun F' H' xs' A' C2 st x w' r' => by
              have wA' : Own F H ((a :: dx :: O') ++ B) := wA
              have n1' : F' a = none := w'.out a (List.mem_append_left _ (List.mem_append_left _ (by simp)))
              have n2' : F' dx = none := w'.out dx (List.mem_append_left _ (List.mem_append_left _ (by simp)))
              exact go F' H' (.ins true c0 (kvs.map (·.1)) xs') (a :: dx :: A') C2 x w' (.insO hC (st a (by simp) _ h1) (st dx (by simp) _ h2) n1' n2' r')
            exact ⟨a, C, dx, kvs, v1, rfl, h1, cl, na, lookup_ix ej e1, hQ v1 foc⟩
        · cases e
      · cases e
    · cases e
  · cases e
theorem sd_setAt {value : Expr} {l : Ln} {g} (hl : LN Y o l) (hv : PD Y value g) (hc : AtsOk Y.K Y.mgf cs f) (hs : ∀ X : Cx, swapsWith value (some (.Attribute o f pos')) pos.line X.env = pure false := by intro _; rfl) :
    SD Y (.Assign [.Attribute o f pos'] value pos) lk (sSetAt l cs f g) := by
  obtain ⟨_, p, q⟩ := hl
  obtain ⟨_, p2, q2⟩ := hv
  refine ⟨sFld Y.K _ _ f, fun X h => by rw [← h.K]; exact ps_fld (p X h) (p2 X h) (hs X), fun F H O σ E o e w s N h => ?_⟩
  unfold sSetAt at e
  split at e
  · rename_i d E1 ed
    split at e
    · rename_i c put el
      split at e
      · rename_i c' ec
        cases e
        refine q2 F H O σ E d E1 ed w s _ fun y F1 H1 A O1 x1 w1 r1 s1 => q F1 H1 O1 A σ E1 c put el w1 s1 _ fun v0 foc => ?_
        exact setF_core foc hc ec r1 w1.le fun H' O' x' w' s' => h σ F1 H' O' .refl (x1.trans x') w' s'
      · cases e
    · cases e
  · cases e
end
end Dm

/-! methods are called, instances are made -/
namespace Dm
open PySem PySem.Spec L2
open PyProof.Rows hiding St
section
variable {P : Program} {w : World} {K : PySem.W.Frag} {mg : Str → Option Value} {base : Heap}
def Cm (P : Program) (w : World) (K : PySem.W.Frag) (mg : Str → Option Value) (base : Heap) (k : Nat) (c m : Str) (ps : List Str) (g : Fs) : Prop :=
  ∃ C a fd, mg c = some (.ref C) ∧ Cls K C ∧ Meth K C m a ∧ FnG P w K mg base k a fd ps g ∧ Binds K fd ps []
def Ck (P : Program) (w : World) (K : PySem.W.Frag) (mg : Str → Option Value) (base : Heap) (k : Nat) (c : Str) (ps : List Str) (g : Fs) : Prop :=
  ∃ C a fd j, mg c = some (.ref C) ∧ Mk K C a ∧ j + 1 ≤ k ∧ FnG P w K mg base j a fd ps g ∧ Binds K fd ps []
theorem Cm.mono {j k : Nat} {c m : Str} {ps : List Str} {g : Fs} (h : Cm P w K mg base j c m ps g) (l : j ≤ k) : Cm P w K mg base k c m ps g :=
  let ⟨C, a, fd, h1, h2, h3, G, b⟩ := h; ⟨C, a, fd, h1, h2, h3, G.mono l, b⟩
theorem Ck.mono {j k : Nat} {c : Str} {ps : List Str} {g : Fs} (h : Ck P w K mg base j c ps g) (l : j ≤ k) : Ck P w K mg base k c ps g :=
  let ⟨C, a, fd, i, h1, h2, h3, G, b⟩ := h; ⟨C, a, fd, i, h1, h2, Nat.le_trans h3 l, G, b⟩
end
def eMeth (c m : Str) (g : Fs) (i : Nat) (fx : Ev → Option (List ArgV × Ev)) : Ev → Option (D × Ev) := fun E => match E[i]? with
  | some (some (.ins _ c' fs _)) => if c' = c ∧ m ∉ fs then eCall g (xSlot i fx) E else none
  | _ => none
def eMake (c : Str) (g : Fs) (fx : Ev → Option (List ArgV × Ev)) : Ev → Option (D × Ev) := fun E => match fx E with
  | some (as, E1) => (match gather as E1 with
    | some (ds, E2) => (match g (.ins true c [] [] :: ds) with | some (.non, d :: outs) => some (d, putBack as outs E2) | _ => none)
    | none => none)
  | none => none
section
variable {Y : Fm} {X : Cx} {f : Addr} {fd : FuncData} {ps : List Str} {g : Fs} {pins : List (Addr × Obj)} {σ : L2.St} {H : Hp} {s : Shared} {us : List Value} {vs : List V} {Q : VK}
/-- a def runs, called with values -/
theorem run_g (h : Y.Is X) (G : FnG Y.prog Y.w Y.K Y.mgf Y.base Y.k f fd ps g) (b : Binds Y.K fd ps []) (I : Inv X pins σ H s) (r : Vals vs us) (q : SpD Y.K Y.mg g ps.length vs H Q) :
    wpAny (model X.prog X.w) X.A (call (.ref f) us) (EP X pins σ Q) X.xe s := by
  have len : (us ++ []).length = ps.length := by
    obtain ⟨_, _, _, _, _, _, l, _, rl, _⟩ := q
    rw [List.append_nil, ← r.length, rl.length, l]
  have bind := b s us (h.K ▸ I.kIn) len
  rw [List.append_nil] at bind
  obtain ⟨P, w, K, mg, base, N, sc, fn, k⟩ := Y
  obtain ⟨rfl, rfl, rfl, rfl, rfl, _, _, _, _, room, gd, _⟩ := h
  exact wpAny_call (codeAny_mono (G.run X.A X.stack s H ⟨us, []⟩ us vs Q room gd I.env0 bind r q) fun t s' z => match t, z with | .ok (.ret _), z => I.after z)
/-- an instance is made, its __init__ runs -/
theorem run_new {C : Addr} {j : Nat} (h : Y.Is X) (M : Mk Y.K C f) (le : j + 1 ≤ Y.k) (G : FnG Y.prog Y.w Y.K Y.mgf Y.base j f fd ps g) (b : Binds Y.K fd ps []) (I : Inv X pins σ H s) (r : Vals vs us)
    (q : ∀ x dx, H x = none → H dx = none → dx ≠ x → SpD Y.K Y.mg g ps.length (.ref x :: vs) (upd (upd H dx (.own x)) x (.ins C dx [])) fun v H2 => v = .non ∧ Q (.ref x) H2) :
    wpAny (model X.prog X.w) X.A (call (.ref C) us) (EP X pins σ Q) X.xe s := by
  have q := q _ _ (I.hok.fresh (Nat.le_succ _)) (I.hok.fresh (Nat.le_refl _)) (Nat.succ_ne_self _).symm
  have J := Inv.made (C := C) I
  have rr : Vals (V.ref (s.heap.objs.size + 1) :: vs) (Value.ref (s.heap.objs.size + 1) :: us) := .cons rfl r
  have len : (Value.ref (s.heap.objs.size + 1) :: us ++ []).length = ps.length := by
    obtain ⟨_, _, _, _, _, _, l, _, rl, _⟩ := q
    rw [List.append_nil, ← rr.length, rl.length, l]
  have bind := b _ (Value.ref (s.heap.objs.size + 1) :: us) (h.K ▸ J.kIn) len
  rw [List.append_nil] at bind
  obtain ⟨P, w, K, mg, base, N, sc, fn, k⟩ := Y
  obtain ⟨rfl, rfl, rfl, rfl, rfl, _, _, _, _, room, gd, _⟩ := h
  refine wpAny_call (make_map (f := f) I.kIn M.makes M.init (beq_iff_eq.mp M.fn) (codeAny_mono (G.run _ X.stack _ _ ⟨Value.ref (s.heap.objs.size + 1) :: us, []⟩ (Value.ref (s.heap.objs.size + 1) :: us) _ _ ((room.mono le).make C us []) gd (J.env0.make C us []) bind rr q) fun t s' z => ?_))
  match t, z with
  | .ok (.ret u), z =>
    obtain ⟨v, H', I3, rv, ev, q3⟩ := J.after z
    subst ev
    exact ⟨rv, ⟨V.ref (s.heap.objs.size + 1), H', I3, rfl, q3⟩⟩
end
section
variable {Y : Fm} {ps : List Str} {g : Fs} {x c m : Str} {p px apos pos : Pos} {e : Expr} {es : List Expr} {fx : Ev → Option (List ArgV × Ev)} {i : Nat}
theorem pd_make (G : Ck Y.prog Y.w Y.K Y.mgf Y.base Y.k x ps g) (hg : GlY Y x) (ha : PX Y (e :: es) fx)
    (hdb : (x == ("__debug__" : Str)) = false := by decide) (he : ∀ X : Cx, starEach (e :: es) X.env = (false, eval e X.env) :: starEach es X.env := by intro _; rfl) (hpl : ∀ X : Cx, (backTo pos (starEach es X.env)).any (·.1) = false := by intro _; rfl) 
    (hlen : ∀ ds r, g ds = some r → ds.length = ps.length) : PD Y (.Call (.Name x p) (e :: es) [] pos) (eMake x g fx) := by
  obtain ⟨C, a, fd, j, hm, M, le, G, b⟩ := G
  obtain ⟨t, pa, q⟩ := ha
  refine ⟨fun σ H Q => t σ H fun vs H1 => ∀ x dx, H1 x = none → H1 dx = none → dx ≠ x → SpD Y.K Y.mg g ps.length (.ref x :: vs) (upd (upd H1 dx (.own x)) x (.ins C dx [])) fun v H2 => v = .non ∧ Q (.ref x) H2, fun X h => ⟨fun pins s σ H Q I hw => ?_⟩, fun F H O σ E d E' ec w s Q hQ => ?_⟩
  · refine wpAny_Call_Name_kw (ld_glob I (h.gl hg) (h.mgN hm) ?_ hdb)
    exact PySem.W.callWith_K (h₀ := X.base) I.ok.mod.kin (by rw [h.K]; exact M.kp) (thn ((pa X h).run pos pins s σ H _ I hw) fun us s1 ⟨vs, H1, I1, r1, q1⟩ => ⟨I1.kIn, run_new h M le G b I1 r1 q1⟩) (he X) (hpl X)
  · unfold eMake at ec
    split at ec
    · rename_i as E1 ea
      split at ec
      · rename_i ds E2 eg
        split at ec
        · rename_i d' outs er
          cases ec
          refine q F H O σ E as E1 ea w s _ fun vs F1 H1 A O1 x1 w1 r1 s1 z dz nz ndz ne => ?_
          obtain ⟨B, O2, r2, s2, pm⟩ := gather_ok r1 s1 eg
          have w2 := w1.perm pm.symm
          -- behind the making
          have fz : F1 z = none := none_of_le w1.le nz
          have fdz : F1 dz = none := none_of_le w1.le ndz
          have y0 : Qx F1 H1 F1 (upd H1 dz (.own z)) := Qx.new w1.le ndz
          have y1 : Qx F1 H1 F1 (upd (upd H1 dz (.own z)) z (.ins C dz [])) := y0.trans (Qx.new y0.le (by rw [upd_ne ne.symm]; exact nz))
          have ri : Rp Y.K Y.mg F1 (upd (upd H1 dz (.own z)) z (.ins C dz [])) (.ref z) (.ins true x [] []) [z, dz] := .insO (kvs := []) hm upd_same (by rw [upd_ne ne, upd_same]) fz fdz .nil
          have hf : ∀ c ∈ [z, dz], H1 c = none := fun c m => by
            rcases List.mem_cons.mp m with q | m
            · rw [q]; exact nz
            · rw [List.mem_singleton.mp m]; exact ndz
          have w3 := w2.fresh y1 (List.nodup_cons.mpr ⟨fun m => ne (List.mem_singleton.mp m).symm, by simp⟩) hf ri.alive
          have pA : ([z, dz] ++ (B ++ O2)).Perm (O2 ++ ([z, dz] ++ B)) := List.perm_iff_count.mpr fun u => by simp only [List.count_append]; omega
          have w4 := w3.perm pA
          refine ⟨F1, .ins true x [] [] :: ds, [z, dz] ++ B, .non, d :: outs, er, hlen _ _ er, w4.right, .cons ri (y1.rpl r2), fun v F3 H3 A3 O3 x3 w5 rv ro => ⟨rv.non_inv, ?_⟩⟩
          cases ro with
          | @cons _ _ _ _ Z1 Z2 rz ro =>
            have w6 := w4.frame x3 w5
            have s4 := (y1.rps s2).ext x3 w4.apart
            have pB : (O2 ++ (A3 ++ (Z1 ++ Z2))).Perm (A3 ++ (Z1 ++ (Z2 ++ O2))) := List.perm_iff_count.mpr fun u => by simp only [List.count_append]; omega
            have w7 := (w6.perm pB).right
            obtain ⟨O', s', w', m⟩ := putBack_ok r1 ro s4 w7.right
            refine hQ (.ref z) F3 H3 Z1 O' ?_ (w7.frame (Ext.refl.sub (fun b h => h) fun b h => .inr (m b h)) w') rz s'
            have e1 : Ext F1 H1 (A ++ O1) F1 _ (O2 ++ ([z, dz] ++ B)) := (Ext.fresh (O := B ++ O2) y1 hf).perm pm pA
            refine (x1.trans (e1.trans (x3.frame w4))).sub (fun _ m => m) fun b mb => .inl (pB.mem_iff.mpr (List.mem_append_right _ ?_))
            rcases List.mem_append.mp mb with z | z
            · exact List.mem_append_left _ z
            · exact List.mem_append_right _ (m b z)
        · cases ec
      · cases ec
    · cases ec
theorem pd_meth (G : Cm Y.prog Y.w Y.K Y.mgf Y.base Y.k c m ps g) (hN : Y.N[i]? = some x) (hv : Vis Y.sc x) (ha : PX Y (e :: es) fx)
    (hd : (x == ("__debug__" : Str)) = false := by decide) (hcd : (x == ("__classdict__" : Str)) = false := by decide)
    (he : ∀ X : Cx, starEach (e :: es) X.env = (false, eval e X.env) :: starEach es X.env := by intro _; rfl) (hpl : ∀ X : Cx, (backTo pos (starEach es X.env)).any (·.1) = false := by intro _; rfl) {pl : Cx → Sem Bool}
    (ht : ∀ X : Cx, eval (.Call (.Attribute (.Name x px) m apos) (e :: es) [] pos) X.env = (do
      let ov ← eval (.Name x px) X.env
      standAt apos.atName
      let (f, first) ← holding [ov] (getMethod ov m (pl X))
      callWith pos f first (backTo pos (starEach (e :: es) X.env)) (backToKw pos (keywordEach [] X.env))) := by intro _; rfl)
    (hlen : ∀ ds r, g ds = some r → ds.length = ps.length) : PD Y (.Call (.Attribute (.Name x px) m apos) (e :: es) [] pos) (eMeth c m g i fx) := by
  obtain ⟨C, a, fd, hm, cl, me, G, b⟩ := G
  obtain ⟨t, pa, q⟩ := ha
  refine ⟨fun σ H Q => ∃ v, σ[i]? = some (some v) ∧ (∃ a dx fs, v = .ref a ∧ H a = some (.ins C dx fs) ∧ fs.lookup m = none) ∧ t σ H fun vs H1 => SpD Y.K Y.mg g ps.length (v :: vs) H1 Q, fun X h => ⟨fun pins s σ H Q I hw => ?_⟩, fun F H O σ E d E' ec w s Q hQ => ?_⟩
  · obtain ⟨_, ev, ⟨o, dx, fs, rfl, hi, l⟩, z⟩ := hw
    refine methcall_of (pl := pl X) (pe_var (h.nm hN) (h.vis hv) hd hcd) I ⟨_, ev, o, C, dx, fs, a, rfl, hi, by rw [h.K]; exact cl, by rw [h.K]; exact me, l, fun s1 I1 => ?_⟩ (ht X)
    exact PySem.W.callWith_K (first := [.ref o]) (h₀ := X.base) I.ok.mod.kin (by rw [h.K]; exact me.kp) (thn ((pa X h).run pos pins s1 σ H _ I1 z) fun us s2 ⟨vs, H2, I2, r2, q2⟩ => ⟨I2.kIn, run_g (us := .ref o :: us) (vs := .ref o :: vs) h G b I2 (.cons rfl r2) q2⟩) (he X) (hpl X)
  · unfold eMeth at ec
    split at ec
    · rename_i o c' fs vs e0
      split at ec
      · rename_i hc
        obtain ⟨v, A0, es0, r0⟩ := s.get w e0
        have slot : Dx Y.K Y.mg (fun σ H Q => ∃ v, σ[i]? = some (some v) ∧ t σ H fun vs H1 => Q (v :: vs) H1) (xSlot i fx) := fun F H O σ E as E' e w s Q hQ => by
          unfold xSlot at e
          split at e
          · rename_i d0 e0
            split at e
            · rename_i as' E1 eg
              cases e
              obtain ⟨v, A0, es0, _⟩ := s.get w e0
              exact ⟨v, es0, q F H O σ E as' _ eg w s _ fun vs F1 H1 A O1 x1 w1 r1 s1 => hQ (v :: vs) F1 H1 A O1 x1 w1 (.slot es0 r1) s1⟩
            · cases e
          · cases e
        obtain ⟨v', ev', rest⟩ := call_core hlen slot F H O σ E d E' ec w s Q hQ
        refine ⟨v', ev', ?_, rest⟩
        have q : some (some v) = some (some v') := es0.symm.trans ev'
        cases q
        obtain ⟨z, vs', As, ez, iv, rl⟩ := r0.ins_inv w.le
        cases iv with
        | @mk C' dx kvs hm' e1 =>
          rw [hc.1] at hm'
          have q : some (Value.ref C) = some (.ref C') := hm.symm.trans hm'
          cases q
          exact ⟨z, dx, kvs, ez, e1, lookup_ixN hc.2⟩
      · cases ec
    · cases ec
end
end Dm

/-! sorted(..) of a tuple -/
namespace Dm
open PySem PySem.Calls PySem.Spec L2
open PyProof.Rows hiding St
/-- what collecting a thing gives; all that stood is kept -/
def Coll (prog : Program) (w : World) (r : Addr) (vs : List Value) (s : Shared) : Prop := ∀ (A : Around) (E : Value → Shared → Prop) (R : List Value → Shared → Prop), A.handled = none →
  (∀ h' tk, (∀ b o, s.heap.get? b = some o → h'.get? b = some o) → s.heap.objs.size ≤ h'.objs.size → R vs { s with heap := h', toks := tk }) → wpAny (model prog w) A (collect (.ref r)) R E s
section
variable {prog : Program} {w : World} {s : Shared} {r : Addr} {vs : List Value}
theorem coll_tup (ht : s.heap.IsTuple r vs.toArray) (hz : vs.length ≤ sizeLine) : Coll prog w r vs s := by
  intro A E R hh h
  obtain ⟨o, ho, hc, n, hd⟩ := ht
  have hS : (s.heap.push { cls := .type "list", data := .seq ([] : List Value).toArray }).get? s.heap.objs.size = some { cls := .type "list", data := .seq #[] 0 } := Heap.get?_push_size _ rfl
  unfold collect
  refine wpAny_bind (wpAny_runValue (codeAny_builtin entry_proto_collect' ?_))
  show wpAny _ _ (newList [] >>= fun l => again (.builtin "list.__iadd__" ⟨[l, .ref r], []⟩)) _ _ s
  refine wpAny_bind (wpAny_newList (wpAny_pure ⟨Code.quiet_builtin _ (by decide +kernel), codeAny_builtin entry_list_iadd' ?_⟩))
  rw [Around.under_plainId PySem.F.plain_list_iadd _]
  have fin := wpAny_extend_seq (prog := prog) (w := w) (A := A) (s := { s with heap := s.heap.push { cls := .type "list", data := .seq ([] : List Value).toArray } }) (T := "tuple") (items := vs.toArray) (n := n)
    (R := fun q s' => q = .ok (.ret (.ref s.heap.objs.size)) ∧ s' = { s with heap := (s.heap.push { cls := .type "list", data := .seq ([] : List Value).toArray }).update s.heap.objs.size (Obj.mapSeq (· ++ vs.toArray)) })
    s.heap.objs.size r (.ref s.heap.objs.size) 0 (.inr rfl) hS (Heap.get?_push_of_some _ ho) hc hd ⟨rfl, rfl⟩ (by rw [List.size_toArray]; exact hz)
  have hS2 := Heap.get?_update_self (Obj.mapSeq (· ++ vs.toArray)) hS rfl
  have give : wpAny (model prog w) A (load s.heap.objs.size >>= fun o => match o.data with | .seq xs _ => pure xs.toList | _ => unsupported "internal:collect") R E { s with heap := (s.heap.push { cls := .type "list", data := .seq ([] : List Value).toArray }).update s.heap.objs.size (Obj.mapSeq (· ++ vs.toArray)) } := by
    refine wpAny_bind (wpAny_load hS2 (wpAny_pure ?_))
    have e : ((#[] : Array Value) ++ vs.toArray).toList = vs := by simp
    show R ((#[] : Array Value) ++ vs.toArray).toList _
    rw [e]
    exact h _ s.toks (fun b o e => (Heap.get?_update_other _ _ (Nat.ne_of_lt (Heap.lt_size e)).symm).trans (Heap.get?_push_of_some _ e)) (by rw [Heap.size_update, Heap.size_push]; exact Nat.le_succ _)
  refine wpAny_mono fin (fun f s' x => ?_) fun e s' x => (by cases x.1)
  cases f with
  | done f => obtain ⟨e, rfl⟩ := x; cases e; exact give
  | again c => exact ⟨x.1, codeAny_mono x.2 fun q s2 ⟨e, e2⟩ => by subst e e2; exact give⟩
/-- sorted(r), by what collecting r gives -/
theorem sorted_coll {A : Around} {E : Value → Shared → Prop} {Q : Value → Shared → Prop} {β : Type} {bs : List β} {enc : β → PyData} {R : Value → β → Prop} (C : Coll prog w r vs s) (hh : A.handled = none) (er : PySem.W.EachIs R vs bs) (rd : PySem.W.EachIs (fun v b => ∃ as, Reads s.heap v (enc b) as) vs bs)
    (al : PySem.W.AllAlike (bs.map enc)) (so : PySem.W.Sortable (bs.map enc)) (hz : vs.length ≤ sizeLine) (hu : ∀ b ∈ bs, A.units + 2 + (enc b).depth < cLine)
    (h : ∀ a h' tk out n, (∀ b o, s.heap.get? b = some o → h'.get? b = some o) → s.heap.objs.size ≤ a → h'.get? a = some (seqObj "list" (List.toArray out) n) → PySem.W.EachIs R out (bs.mergeSort (PySem.W.dataLe false enc)) → Q (.ref a) { s with heap := h', toks := tk }) :
    wpAny (model prog w) A (call (.builtin "sorted") [.ref r]) Q E s := by
  refine call_function_entry kind_sorted plain_sorted entry_sorted (args_sorted1 _) (wpAny_bind (m := checkCount "sorted" 1 1 _) (wpAny_pure (wpAny_bind (C A.in1 _ _ hh fun h1 tk old sz => wpAny_bind (wpAny_newList (wpAny_bind (wpAny_holding ?_)) hz)))))
  have new : (h1.push { cls := .type "list", data := .seq vs.toArray }).get? h1.objs.size = some (seqObj "list" vs.toArray 0) := Heap.get?_push_size _ rfl
  have far : ∀ {b o}, s.heap.get? b = some o → b < h1.objs.size := fun e => Heap.lt_size (old _ _ e)
  have rd' := rd.mono fun v b (⟨as, x⟩ : ∃ as, Reads s.heap v (enc b) as) => (⟨as, PyProof.Rows.Reads.keeps (fun b o e => PySem.W.sortingHeap_old (Nat.ne_of_lt (far e)) (Heap.get?_push_of_some _ (old b o e))) x⟩ : ∃ as, Reads (PySem.W.sortingHeap (h1.push { cls := .type "list", data := .seq vs.toArray }) h1.objs.size vs) v (enc b) as)
  refine wpAny_call_entry slot_list_sort ⟨_, new, rfl⟩ entry_list_sort (PySem.W.list_sort_vals (κ := PySem.W.dataKind (PySem.W.sortingHeap (h1.push { cls := .type "list", data := .seq vs.toArray }) h1.objs.size vs) (bs.map enc)) new
    (PySem.W.SortsAt.data (s := { s with heap := PySem.W.sortingHeap (h1.push { cls := .type "list", data := .seq vs.toArray }) h1.objs.size vs, toks := tk }) (PySem.W.each_map (R := fun v d => ∃ as, Reads (PySem.W.sortingHeap (h1.push { cls := .type "list", data := .seq vs.toArray }) h1.objs.size vs) v d as) enc rd') al so
      (fun d m => by obtain ⟨b, hb, rfl⟩ := List.mem_map.mp m; exact hu b hb)) hz ⟨.none, rfl, wpAny_pure ⟨_, rfl, ?_⟩⟩) (args_list_sort _)
  obtain ⟨n, at'⟩ := sortedHeap_at (out := (PySem.W.sortVals (PySem.W.dataKind (PySem.W.sortingHeap (h1.push { cls := .type "list", data := .seq vs.toArray }) h1.objs.size vs) (bs.map enc)) false vs vs).toArray) new
  refine h _ _ tk _ n (fun b o e => ?_) sz at' (PySem.W.sortVals_data false er rd' al)
  · rw [sortedHeap_old (Nat.ne_of_lt (far e)) (by rw [Heap.size_push]; exact Nat.lt_succ_of_lt (far e))]
    exact Heap.get?_push_of_some _ (old b o e)
end
end Dm

/-! sorted(..) as data -/
namespace Dm
open PySem PySem.Spec L2
open PyProof.Rows hiding St
def rSortedT (K : PySem.W.Frag) : List V → Hp → VK → Prop := fun vs H Q => ∃ (l : Addr) (us : List V) (xs : List D), vs = [.ref l] ∧ SqT K H l us ∧ us.length = xs.length ∧ DpAll K H us (toPL xs) ∧ sortOk xs = true ∧
  ∀ p, H p = none → Q (.ref p) (upd H p (.lst (((us.zip xs).mergeSort (PySem.W.dataLe false fun b => toP b.2)).map (·.1))))
def rSortedK : List V → Hp → VK → Prop := fun xs H Q => ∃ (a : Addr) (kvs : List (Key × V)) (ks : List Int), xs = [.ref a] ∧ Rd H a (.dK kvs) ∧ kvs.map (·.1) = ks.map Sum.inl ∧ ks.length < 64 ∧
    ∀ (ys : List Int) (p : Addr), ys.Perm ks → ys.Pairwise (· ≤ ·) → H p = none → Q (.ref p) (upd H p (.lst (ys.map V.int)))
abbrev rSortedY (K : PySem.W.Frag) : List V → Hp → VK → Prop := fun xs H Q => rSortedX K xs H Q ∨ (rSortedT K xs H Q ∨ rSortedK xs H Q)
section
variable {X : Cx} {k : Nat}
theorem cr_sortedU (hr : Room k X.A) : CallR X (.builtin "sorted") (rSortedT X.K) := by
  rintro pins s σ H vs us0 Q I r ⟨l, us, xs, rfl, hq, hl, dp, ok, q⟩
  obtain ⟨u, rfl, ru⟩ := vals1 r
  cases ru
  obtain ⟨its, hv, pl, hz⟩ := I.tuple hq
  obtain ⟨_, _, al, so, dep⟩ := sortOk_parts ok
  obtain ⟨as, rd⟩ := Dp.readsAll I (toPL xs) us its dp hv
  have em : ((us.zip xs).map fun b => toP b.2) = toPL xs := by
    rw [toPL_map, ← congrArg (List.map toP) (zip_snd hl), List.map_map]; rfl
  have lz : its.length = us.length := hv.length.symm
  refine sorted_coll (coll_tup pl (by rw [lz]; exact hz)) hr.hd (each_zip hv hl) (each_reads hl rd) (by rw [em]; exact al) (by rw [em]; exact so) (by rw [lz]; exact hz) (fun b m => ?_) fun a h' tk out n old far at' each => ?_
  · have := dep b.2 (List.of_mem_zip m).2
    have := hr.un
    omega
  · refine ⟨.ref a, upd H a (.lst _), I.laid (t' := tk) old far ⟨?_, out, n, each_vals each, at'⟩, rfl, q a (I.hok.fresh far)⟩
    rw [List.length_map, List.length_mergeSort, List.length_zip, ← hl, Nat.min_self]
    exact hz
theorem cr_sortedY (hc : X.calm = true) (hr : Room k X.A) : CallR X (.builtin "sorted") (rSortedY X.K) := (cr_sortedX hr).or ((cr_sortedU hr).or (call_sortedDI hc))
end
def opSorted : List D → Option D
  | [.lst _ xs] => if sortOk xs = true then some (.lst true (xs.mergeSort leD)) else none
  | [.tup xs] => if sortOk xs = true then some (.lst true (xs.mergeSort leD)) else none
  | [.dic _ ks _] => match intsOf ks with
    | some is => if is.length < 64 then some (.lst true ((is.mergeSort fun x y => decide (x ≤ y)).map .int)) else none
    | none => none
  | _ => none
section
variable {K : PySem.W.Frag} {mg : Md} {F H : Hp} {vs : List V} {ds ks : List D} {A : List Addr} {Q : VK} {d : D}
theorem pairs_rpl : ∀ {l : List (V × D)}, (∀ p ∈ l, Rp K mg F H p.1 p.2 []) → RpL K mg F H (l.map (·.1)) (l.map (·.2)) []
  | [], _ => .nil
  | p :: l, h => .cons (O1 := []) (h p List.mem_cons_self) (pairs_rpl fun q m => h q (List.mem_cons_of_mem _ m))
theorem rpl_pairs : ∀ {vs : List V} {ds : List D}, RpL K mg F H vs ds [] → ∀ p ∈ vs.zip ds, Rp K mg F H p.1 p.2 []
  | [], [], _, p, m => by cases m
  | v :: vs, d :: ds, r, p, m => by
    rw [List.zip_cons_cons] at m
    generalize e : ([] : List Addr) = B at r
    cases r with
    | cons r1 r2 =>
      obtain ⟨e1, e2⟩ := List.append_eq_nil_iff.mp e.symm
      subst e1 e2
      rcases List.mem_cons.mp m with q | m
      · subst q; exact r1
      · exact rpl_pairs r2 p m
theorem keysK_ints : ∀ {ks : List D} {is : List Int}, intsOf ks = some is → keysK ks = some (is.map Sum.inl)
  | [], _, e => by cases e; rfl
  | d :: ks, is, e => by
    cases d <;> simp only [intsOf] at e <;> try (cases e; done)
    split at e
    · rename_i js ej
      cases e
      unfold keysK
      rw [keysK_ints ej]
      rfl
    · cases e
theorem sorted_give (f : ∀ a o, F a = some o → H a = some o) (r : RpL K mg F H vs ds []) (z : vs.length ≤ sizeLine) (hQ : ∀ v F' H' C, Qx F H F' H' → C.Nodup → (∀ c ∈ C, H c = none) → Rp K mg F' H' v (.lst true (ds.mergeSort leD)) C → Q v H') :
    ∀ p, H p = none → Q (.ref p) (upd H p (.lst (((vs.zip ds).mergeSort (PySem.W.dataLe false fun b => toP b.2)).map (·.1)))) := fun p hp => by
  have l := r.length
  have e : ((vs.zip ds).mergeSort (PySem.W.dataLe false fun b => toP b.2)).map (·.2) = ds.mergeSort leD := by
    exact (List.map_mergeSort (r := PySem.W.dataLe false fun b : V × D => toP b.2) (s := leD) (f := fun b : V × D => b.2) fun _ _ _ _ => rfl).trans (by rw [zip_snd l])
  refine mk_lst f hp (by rw [List.length_map, List.length_mergeSort, List.length_zip, ← l, Nat.min_self]; exact z) ?_ hQ
  rw [← e]
  exact pairs_rpl fun p m => rpl_pairs r p ((List.mergeSort_perm _ _).mem_iff.mp m)
theorem ok_sorted : RLok K mg (rSortedY K) opSorted := by
  intro F H vs ds d A e f r Q hQ
  unfold opSorted at e
  split at e
  · split at e
    · cases e
      rename_i so
      obtain ⟨v, ev, r1⟩ := r.one_inv
      obtain ⟨a, us, _, ea, e1, z1, r2, _⟩ := r1.lst_inv f
      obtain ⟨p1, p2, _⟩ := sortOk_parts so
      have r3 := r2.nilOf p2
      subst ev
      exact .inl ⟨a, us, _, by rw [ea], SqL.of e1, r3.length, r3.dp f p1, so, sorted_give f r3 z1 hQ⟩
    · cases e
  · split at e
    · cases e
      rename_i so
      obtain ⟨v, ev, r1⟩ := r.one_inv
      obtain ⟨a, us, ea, _, e1, z1, r2⟩ := r1.tup_inv f
      obtain ⟨p1, p2, _⟩ := sortOk_parts so
      have r3 := r2.nilOf p2
      subst ev
      exact .inr (.inl ⟨a, us, _, by rw [ea], e1, r3.length, r3.dp f p1, so, sorted_give f r3 z1 hQ⟩)
    · cases e
  · split at e
    · rename_i is ei
      split at e
      · cases e
        rename_i lt
        obtain ⟨v, ev, r1⟩ := r.one_inv
        obtain ⟨a, us, As, ea, Dc, _⟩ := r1.dic_inv f
        subst ev
        have kk := keysK_ints ei
        cases Dc with
        | @t ys hd ok hk hr => exact absurd (keysK_refs kk hr) ok.2.2.2.2
        | @k kvs hd hk hn =>
          rw [kk] at hk
          refine .inr (.inr ⟨a, kvs, is, by rw [ea], .inl hd, (Option.some.inj hk).symm, lt, fun ys p pm pw hp => ?_⟩)
          rw [PySem.W.os_sorted_mergeSort pm pw]
          refine mk_lst f hp ?_ ?_ hQ
          · rw [List.length_map, List.length_mergeSort, sizeLine_eq]; omega
          · exact ints_rpl _
      · cases e
    · cases e
  · cases e
end
theorem bb_sorted : bootBuiltins "sorted" = some (.builtin "sorted") := by decide +kernel
theorem cy_sorted {Y : Fm} : CallY Y (.builtin "sorted") (rSortedY Y.K) := fun X h => by rw [← h.K]; exact cr_sortedY h.calm h.room
end Dm

/-! dict comprehensions, whatever the keys: the machine -/
namespace Dm
open PySem PySem.Spec L2
open PyProof.Rows hiding St
/-- a key is put into the dict that a comprehension fills -/
def rDset (K : PySem.W.Frag) (mg : Md) (D : Addr) (y v : V) (H : Hp) (Q : Hp → Prop) : Prop :=
  (∃ kvs k, y = kV k ∧ H D = some (.dK kvs) ∧ kvs.length < sizeLine ∧ Q (upd H D (.dK (putK kvs k v)))) ∨
  ∃ xs nk b, DtIs K mg H D xs ∧ y = .ref b ∧ Ky K H y nk ∧ nk.depth ≤ 8 ∧ ((D == sysModules) = false → Q (upd H D (DtO mg D (putX xs nk b v))))
theorem dset_Y {Y : Fm} {X : Cx} {pins : List (Addr × Obj)} {σ : L2.St} {H : Hp} {s : Shared} {D : Addr} {y v : V} {u r : Value} {Q : Hp → Prop} {E : Value → Shared → Prop} (h : Y.Is X) (I : Inv X pins σ H s) (ry : RelV y u) (rv : RelV v r) (q : rDset Y.K Y.mg D y v H Q) :
    wpAny (model X.prog X.w) X.A (dictSet D u r) (fun _ s' => ∃ H', Inv X pins σ H' s' ∧ Q H') E s := by
  rcases q with ⟨kvs, k, rfl, hD, hz, q⟩ | ⟨xs, nk, b, ds, rfl, ky, hd, q⟩
  · exact d_dictSet I hD hz ry rv fun s' I' => ⟨_, I', q⟩
  · obtain rfl : u = Value.ref b := ry
    have ds' : DtIs X.K ⟨Y.mgf, X.prog, X.w⟩ H D xs := by rw [h.K, h.prog, h.w]; exact ds
    have ky' : Ky X.K H (.ref b) nk := by rw [h.K]; exact ky
    obtain ⟨ys, hall, dd, hz, hda, mu⟩ := dt_at I ds'
    have room : (nestedKind X.prog X.w).room X.A := by
      have := h.room.un
      show X.A.units + 8 < cLine
      omega
    refine wpAny_dictSet_heap (hsz := by rw [← PySem.Paired.length hall]; exact hz) room ⟨ky'.is I rfl, hd⟩ dd fun h' dd' sb => ?_
    have live : ∃ o, h'.get? D = some o := let ⟨o, _, _, e, _⟩ := dd'; ⟨o, e⟩
    have I' := d_write (t' := s.toks + (nestedKind X.prog X.w).draws nk) I mu sb live (dtO_ok (mg := ⟨Y.mgf, X.prog, X.w⟩) (hall.put nk b rv) dd')
    refine ⟨_, I', ?_⟩
    have z := q hda
    rw [show Y.mg = ⟨Y.mgf, X.prog, X.w⟩ by rw [h.prog, h.w]] at z
    exact z
def tDy (K : PySem.W.Frag) (mg : Md) (wi : TI) (g : TG) (tt : TT) (tk tv : TE) (own : List Nat) : TE := fun σ H Q => wi σ H fun J H1 => ∀ D, H1 D = none → ∃ W : Nat → Nat → Hp → Prop, (∃ m, W 0 m (upd H1 D (.dK []))) ∧
  ∀ i m H2, W i m H2 → (J.stop i H2 ∧ Q (.ref D) H2) ∨ (J.go i H2 ∧ ∀ x H3, J.yld i H2 x H3 → g x (L2.wipe σ own) H3 fun σ4 H4 => L2.wipe σ4 own = L2.wipe σ own ∧ tt σ4 H4 fun b H5 =>
    if b = true then tk σ4 H5 fun y H6 => tv σ4 H6 fun z H7 => rDset K mg D y z H7 fun H8 => ∃ m', m' < m ∧ W (i + 1) m' H8 else ∃ m', m' < m ∧ W (i + 1) m' H5)
/-- where the loop of a block stands ahead of its i-th turn -/
structure LoopAt (B : Cx) (fp : List Addr) (tn : Nat → Heap → Prop) (σw : L2.St) (i : Nat) (H : Hp) (s : Shared) : Prop where
  inv : Inv B [] σw H s
  st : tn i s.heap
  free : ∀ b ∈ fp, H b = none
section
variable {Y : Fm} {B : Cx} {fp : List Addr} {tn : Nat → Heap → Prop} {σw : L2.St} {i : Nat} {H : Hp} {s : Shared} {tg kx vx : Expr} {ifs : List Expr} {J : It} {it D : Addr} {g : TG} {tt : TT} {tk tv : TE} {own : List Nat}
/-- behind a turn: what the turn has left, with the comprehension's own names wiped -/
theorem LoopAt.next {σ2 : L2.St} {s' : Shared} {h7 : Heap} {H' : Hp} (T : Turn B.prog B.w B.K tg J fp it tn) (I : Inv B ([] ++ pinsAt fp h7) σ2 H' s') (st : tn (i + 1) h7) (e : L2.wipe σ2 own = σw) : LoopAt B fp tn σw (i + 1) H' s' := by
  have pin : ∀ b ∈ fp, ∀ o, h7.get? b = some o → s'.heap.get? b = some o ∧ H' b = none := fun b m o q =>
    have z := I.pin (b, o) (List.mem_append_right _ (List.mem_append_right _ (mem_pinsAt m q)))
    ⟨z.1, z.2.1⟩
  refine ⟨I.unpinned.weak (by rw [← e, wipe_length]) fun j v q => (wipe_some (vs := own) (by rw [e]; exact q)).1, T.keep _ _ _ st fun b m o q => (pin b m o q).1, fun b m => ?_⟩
  obtain ⟨o, q, _⟩ := T.obj _ _ st b m
  exact (pin b m o q).2
theorem LoopAt.fpOk (L : LoopAt B fp tn σw i H s) (ex : B.ex = fp) (pn : B.pn = []) : ∀ b ∈ fp, FpOk B [] H b := fun b m => by
  have m' : b ∈ B.ex := by rw [ex]; exact m
  exact ⟨L.free b m, (L.inv.ok.exf b m').1, L.inv.ok.exfs b m', .inl m', fun x c e => (L.inv.ok.exf b m').2 x c e, fun p hp => by rw [pn] at hp; cases hp⟩
/-- one turn that comes -/
theorem dy_turn (h : Y.Is B) (ex : B.ex = fp) (pn : B.pn = []) (T : Turn B.prog B.w B.K tg J fp it tn) (pg : PG B tg g) (pt : PTs B ifs tt) (pk : PE B kx tk) (pv : PE B vx tv)
    (xe : B.xe = fun _ _ => False) (L : LoopAt B fp tn σw i H s) (go : J.go i H) {Nx : Hp → Prop}
    (step : ∀ x H3, J.yld i H x H3 → g x σw H3 fun σ4 H4 => L2.wipe σ4 own = σw ∧ tt σ4 H4 fun b H5 => if b = true then tk σ4 H5 fun y H6 => tv σ4 H6 fun z H7 => rDset Y.K Y.mg D y z H7 Nx else Nx H5) :
    wpAny (model B.prog B.w) B.A (pyNext (.ref it)) (fun r s1 => ∃ u, r = some u ∧ wpAny (model B.prog B.w) B.A (letOwnedTupleGo tg (.ref it) u) (fun _ s2 => wpAny (model B.prog B.w) B.A (assign tg B.env u) (fun _ s3 =>
      wpAny (model B.prog B.w) B.A (forIn ifs true fun c r => if r = true then do let ok ← isTrue c B.env (eval c B.env); pure (ForInStep.yield ok) else pure (ForInStep.yield r)) (fun ok s4 =>
        if ok = true then wpAny (model B.prog B.w) B.A (eval kx B.env) (fun kv s5 => wpAny (model B.prog B.w) B.A (eval vx B.env) (fun vv s6 => wpAny (model B.prog B.w) B.A (dictSet D kv vv) (fun _ s7 => ∃ H', Nx H' ∧ LoopAt B fp tn σw (i + 1) H' s7) (fun _ _ => False) s6) (fun _ _ => False) s5) (fun _ _ => False) s4
        else ∃ H', Nx H' ∧ LoopAt B fp tn σw (i + 1) H' s4) (fun _ _ => False) s3) (fun _ _ => False) s2) (fun _ _ => False) s1) (fun _ _ => False) s := by
  refine wpAny_mono (T.item B rfl rfl rfl h.calm i [] s _ H (fun _ _ => False) L.inv (L.fpOk ex pn) L.st go) (fun r s1 ⟨u, er, h1⟩ => ⟨u, er, wpAny_mono h1 (fun _ s2 ⟨x, H2, I2, rx, yl, st2, fr2⟩ => ?_) fun _ _ z => z⟩) fun _ _ z => z
  have L2 : LoopAt B fp tn σw (i + 1) H2 s2 := ⟨I2, st2, fr2⟩
  have I2' := I2.pinned (L2.fpOk ex pn) (T.obj _ _ st2)
  have no : ∀ {e : Value} {s' : Shared}, B.xe e s' → False := fun z => by rw [xe] at z; exact z
  refine wpAny_mono (pg.run _ s2 _ H2 x u _ I2' rx (step x H2 yl)) (fun _ s3 ⟨σ4, H4, I4, ew, q4⟩ => wpAny_mono (pt.run _ s3 σ4 H4 _ I4 q4) (fun b s4 ⟨H5, I5, q5⟩ => ?_) fun _ _ z => no z) fun _ _ z => no z
  cases b with
  | false => exact ⟨H5, q5, L2.st |> fun st => LoopAt.next T I5 st ew⟩
  | true =>
    rw [if_pos rfl] at q5 ⊢
    refine wpAny_mono (pk.run _ s4 σ4 H5 _ I5 q5) (fun kv s5 ⟨y, H6, I6, ry, q6⟩ => wpAny_mono (pv.run _ s5 σ4 H6 _ I6 q6) (fun vv s6 ⟨z, H7, I7, rz, q7⟩ => ?_) fun _ _ z => no z) fun _ _ z => no z
    -- the key may have moved the heap on: it is still that key's value
    exact wpAny_mono (dset_Y h I7 ry rz q7) (fun _ s7 ⟨H8, I8, q8⟩ => ⟨H8, q8, LoopAt.next T I8 L2.st ew⟩) fun _ _ z => z
end
section
variable {Y : Fm} {tg iter kx vx : Expr} {ifs : List Expr} {scope : Scope} {own : List (Str × Nat)} {pos : Pos} {wi : TI} {g : TG} {tt : TT} {tk tv : TE} {X : Cx}
/-- the loop within its block -/
theorem dy_loop {B : Cx} {fp : List Addr} {tn : Nat → Heap → Prop} {σw : L2.St} {H : Hp} {s : Shared} {J : It} {it D : Addr} {vs : List Nat} {W : Nat → Nat → Hp → Prop} {Q : Hp → Prop} {m0 : Nat} {R : Result → Shared → Prop} (h : Y.Is B) (ex : B.ex = fp) (pn : B.pn = []) (xe : B.xe = fun _ _ => False)
    (T : Turn B.prog B.w B.K tg J fp it tn) (pg : PG B tg g) (pt : PTs B ifs tt) (pk : PE B kx tk) (pv : PE B vx tv) (L : LoopAt B fp tn σw 0 H s) (w0 : W 0 m0 H)
    (turn : ∀ i m H2, W i m H2 → (J.stop i H2 ∧ Q H2) ∨ (J.go i H2 ∧ ∀ x H3, J.yld i H2 x H3 → g x σw H3 fun σ4 H4 => L2.wipe σ4 vs = σw ∧ tt σ4 H4 fun b H5 =>
      if b = true then tk σ4 H5 fun y H6 => tv σ4 H6 fun z H7 => rDset Y.K Y.mg D y z H7 fun H8 => ∃ m', m' < m ∧ W (i + 1) m' H8 else ∃ m', m' < m ∧ W (i + 1) m' H5))
    (fin : ∀ H' s', Inv B [] σw H' s' → Q H' → R (.ok .next) s') : codeAny (model B.prog B.w) B.A (.compLoop (.DictComp kx vx [⟨tg, iter, ifs, 0⟩] scope pos) 0 (.ref it) (.ref D) B.env) R s := by
  refine compLoop_anyD (fun n s' => ∃ i H', W i n H' ∧ LoopAt B fp tn σw i H' s') ?_ m0 ⟨0, H, w0, L⟩
  rintro n s1 ⟨i, H1, w1, L1⟩
  rcases turn i n H1 w1 with ⟨stop, q⟩ | ⟨go, step⟩
  · exact wpAny_mono (T.done B rfl rfl rfl h.calm i [] s1 _ H1 (fun _ _ => False) L1.inv (L1.fpOk ex pn) L1.st stop) (fun r s2 ⟨er, I2⟩ => by subst er; exact fin _ _ I2 q) fun _ _ z => z.elim
  · refine wpAny_mono (dy_turn h ex pn T pg pt pk pv xe L1 go step) (fun r s2 ⟨u, er, h2⟩ => ?_) fun _ _ z => z.elim
    subst er
    refine wpAny_mono h2 (fun _ s3 h3 => wpAny_mono h3 (fun _ s4 h4 => wpAny_mono h4 (fun ok s5 h5 => ?_) fun _ _ z => z.elim) fun _ _ z => z.elim) fun _ _ z => z.elim
    cases ok with
    | false =>
      obtain ⟨H', ⟨m', lt, w'⟩, L'⟩ := h5
      exact ⟨m', lt, _, H', w', L'⟩
    | true =>
      rw [if_pos rfl] at h5 ⊢
      exact wpAny_mono h5 (fun kv s6 h6 => wpAny_mono h6 (fun vv s7 h7 => wpAny_mono h7 (fun _ s8 ⟨H', ⟨m', lt, w'⟩, L'⟩ => ⟨m', lt, _, H', w', L'⟩) fun _ _ z => z.elim) fun _ _ z => z.elim) fun _ _ z => z.elim
/-- {k: v for ..} -/
theorem pe_dy (h : Y.Is X) (hN : X.N.Nodup) (hi : PI X tg iter wi) (ok : BlkOk X.N X.env.scope scope own) (hg : ∀ B, (Y.blk scope).Is B → PG B tg g) (ht : ∀ B, (Y.blk scope).Is B → PTs B ifs tt) (hk : ∀ B, (Y.blk scope).Is B → PE B kx tk) (hv : ∀ B, (Y.blk scope).Is B → PE B vx tv)
    (hs : ∀ x, foldedSetIterable iter X.env x = pure x) : PE X (.DictComp kx vx [⟨tg, iter, ifs, 0⟩] scope pos) (tDy Y.K Y.mg wi g tt tk tv (own.map (·.2))) := by
  refine ⟨fun pins s σ H Q I hw => ?_⟩
  rw [arm_eval_DictComp]
  have cl : ∀ y ∈ scope.names, y.2 = .free → ∃ c, X.env.cells.lookup y.1 = some c := fun y hy e => I.ok.has _ ((ok.free y hy e).imp id id)
  refine wpAny_comprehension_free (use := none) rfl hs (closure_ok cl) ok.kind (fun y hy e => by rw [ok.uniq y hy, e]) (thn (hi.run pins s σ H _ I hw) fun xv s1 h1 => thn h1 fun itv s2 ⟨it, fp, tn, J, H2, e, I2, T, st2, f2, q⟩ => ?_)
  subst e
  refine wpAny_newObj_type (newEnv_comp ?_)
  have hD : H2 s2.heap.objs.size = none := I2.hok.fresh (Nat.le_refl _)
  obtain ⟨W, ⟨m0, w0⟩, turn⟩ := q _ hD
  have size : ∀ b ∈ fp, b < s2.heap.objs.size := fun b m => let ⟨o, e, _⟩ := T.obj _ _ st2 b m; Heap.lt_size e
  have I3 := I2.laid (t' := s2.toks) (o := .dK []) (fun b o e => Heap.get?_push_of_some _ e) (Nat.le_refl _) (dk_empty s2.heap I2.big)
  have f3 : ∀ b ∈ fp, FpOk X pins (upd H2 s2.heap.objs.size (.dK [])) b ∧ b < (s2.heap.push { cls := .type "dict", data := .dict #[] }).objs.size := fun b m =>
    ⟨⟨(upd_ne (Nat.ne_of_lt (size b m))).trans (f2 b m).1, (f2 b m).2⟩, by rw [Heap.size_push]; exact Nat.lt_succ_of_lt (size b m)⟩
  have I4 := block_start I3 ok hN f3
  have hB := h.blk (scope := scope) { s2 with heap := s2.heap.push { cls := .type "dict", data := .dict #[] }, toks := s2.toks } (upd H2 s2.heap.objs.size (.dK [])) (s2.heap.push { cls := .type "dict", data := .dict #[] }).objs.size
    (cellsFrom ((s2.heap.push { cls := .type "dict", data := .dict #[] }).objs.size + 1) scope.names (cloFrom X.env.cells scope.names [])) fp
  have st4 : tn 0 (pushCells ((s2.heap.push { cls := .type "dict", data := .dict #[] }).push { cls := .type "dict", data := .dict #[] }) scope.names) := T.keep _ _ _ st2 fun b _ o e => pushCells_keeps _ _ _ _ (Heap.get?_push_of_some _ (Heap.get?_push_of_some _ e))
  have loop := dy_loop (iter := iter) (scope := scope) (pos := pos) (J := J) (W := W) (vs := own.map (·.2)) (Q := Q (.ref s2.heap.objs.size)) (R := compPost (model X.prog X.w) X.A X.xe none (EP X pins σ Q) (.ref s2.heap.objs.size) (s2.heap.push { cls := .type "dict", data := .dict #[] }).objs.size)
    hB rfl rfl rfl T (hg _ hB) (ht _ hB) (hk _ hB) (hv _ hB) ⟨I4, st4, fun b m => (f3 b m).1.1⟩ w0 turn fun H' s' I' q' => by
      obtain ⟨m, ns, _⟩ := I'.loc
      refine ⟨m, ns, fun h' sb => ?_⟩
      have J' : Inv X pins σ H' s' := I3.call' (ch := fp) I'.os I'.base I'.hok I'.bare fun b m => let z := (f3 b m).1.2; ⟨z.2.2.1, z.1, z.2.2.2.1, z.2.2.2.2⟩
      obtain ⟨z0, z1, _, z3, z4, z5⟩ := I3.fpOk (Nat.le_refl _) (show H' (s2.heap.push { cls := .type "dict", data := .dict #[] }).objs.size = none from I'.free)
      exact ⟨.ref s2.heap.objs.size, H', J'.turned (t' := s'.toks) (fun b o ne e => (sb.2 b ne).trans e) z0 z1 z3 z4 z5, rfl, q'⟩
  exact codeAny_compStart_dict loop (T.self X.A 0 _ _ _ st4 loop)
end
end Dm

/-! dict comprehensions as data -/
namespace Dm
open PySem PySem.Spec L2
open PyProof.Rows hiding St
def dcompL (own : List Nat) (g : D → Ev → Option Ev) (tt : Ev → Option (Bool × Ev)) (fk : Ev → Option D) (fv : Ev → Option (D × Ev)) : List D → Ev → List D × List D → Option ((List D × List D) × Ev)
  | [], E, kd => some (kd, E)
  | x :: xs, E, kd => match g x E with
    | some E1 => (match tt E1 with
      | some (false, E2) => dcompL own g tt fk fv xs (wipeE E2 own) kd
      | some (true, E2) => (match fk E2 with
        | some k => (match fv E2 with
          | some (d, E3) => (match dPut kd.1 kd.2 k d with
            | some kd' => dcompL own g tt fk fv xs (wipeE E3 own) kd'
            | none => none)
          | none => none)
        | none => none)
      | none => none)
    | none => none
def eDComp (own : List Nat) (fi : Ev → Option (List D × Ev)) (g : D → Ev → Option Ev) (tt : Ev → Option (Bool × Ev)) (fk : Ev → Option D) (fv : Ev → Option (D × Ev)) : Ev → Option (D × Ev) := fun E => match fi E with
  | some (xs, E1) => (if ownFz E1 own = true then (match dcompL own g tt fk fv xs (wipeE E1 own) ([], []) with
    | some (kd, E2) => some (.dic true kd.1 kd.2, backE E1 E2 own)
    | none => none) else none)
  | none => none
theorem rDset_of {K : PySem.W.Frag} {mg : Md} {F H : Hp} {a : Addr} {ks : List D} {vs : List V} {y v : V} {Q : Hp → Prop} (h : rSetY K mg (.ref a) y v H Q) (Dc : DcV K mg F H a ks vs) : rDset K mg a y v H Q := by
  obtain ⟨a', ea, h⟩ := h
  cases ea
  rcases h with ⟨H', p, q⟩ | ⟨xs, nk, b, p⟩
  · rcases p with ⟨kvs, k, e1, e2, e3, rfl⟩ | ⟨kvs, k, b, e1, _⟩
    · exact .inl ⟨kvs, k, e2, e1, e3, q⟩
    · cases Dc with
      | k e => rw [e] at e1; cases e1
      | t e => rw [e] at e1; cases e1
  · exact .inr ⟨xs, nk, b, p⟩
theorem wipe_wipe {own : List Nat} {σ : L2.St} : L2.wipe (L2.wipe σ own) own = L2.wipe σ own :=
  wipe_tch (ts := own) (σ := σ) (σ' := L2.wipe σ own) ⟨wipe_length σ own, fun i h => wipe_get h⟩ fun _ m => m
theorem dcomp_core {K : PySem.W.Frag} {mg : Md} {wi : TI} {tg : TG} {tt : TT} {tk tv : TE} {own ts : List Nat} {fi g ft fk fv} (qi : Di K mg wi fi) (qg : Dg K mg tg ts g) (qt : Td K mg tt ft) (qk : Qt K mg tk fk) (qv : De K mg tv fv) (hts : ∀ i ∈ ts, i ∈ own) (hnd : own.Nodup) :
    De K mg (tDy K mg wi tg tt tk tv own) (eDComp own fi g ft fk fv) := by
  intro F H O σ E d E' e w s Q hQ
  unfold eDComp at e
  split at e
  · rename_i xs E1 ei
    split at e
    · rename_i hz
      split at e
      · rename_i kd E2 ec
        cases e
        refine qi F H O σ E xs E1 ei w s _ fun J F1 H1 O1 x1 w1 s1 ok => ?_
        intro Dn hD
        obtain ⟨Ow, sw, ww, mw⟩ := s1.wipe w1 own
        have y1 : Qx F1 H1 F1 (upd H1 Dn (.dK [])) := Qx.new w1.le hD
        refine ⟨fun i m H2 => ∃ F2 O2 Ec kc A, m = xs.length - i ∧ i ≤ xs.length ∧ (∀ a u, F1 a = some u → F2 a = some u) ∧ Own F2 H2 ((Dn :: A) ++ O2) ∧ RpS K mg F2 H2 (L2.wipe σ own) Ec O2 ∧ Rp K mg F2 H2 (.ref Dn) (.dic true kc.1 kc.2) (Dn :: A) ∧
            dcompL own g ft fk fv (xs.drop i) Ec kc = some (kd, E2) ∧ Ext F1 H1 Ow F2 H2 ((Dn :: A) ++ O2),
          ⟨xs.length, F1, Ow, wipeE E1 own, ([], []), [], rfl, Nat.zero_le _, fun _ _ e => e, own_new (A := []) ww hD, y1.rps sw, .dKO (kvs := []) upd_same (none_of_le w1.le hD) ⟨rfl, List.nodup_nil⟩ .nil, ec, Ext.fresh (C := [Dn]) y1 fun c m => by simp at m; subst m; exact hD⟩, ?_⟩
        rintro i m H2 ⟨F2, O2, Ec, kc, A, rfl, hi, f2, w2, s2, rD, e2, x2⟩
        by_cases hlt : i < xs.length
        · have hx : xs[i]? = some xs[i] := List.getElem?_eq_getElem hlt
          obtain ⟨go, yl⟩ := ok.go F2 H2 i _ f2 w2.le hx
          rw [List.drop_eq_getElem_cons hlt] at e2
          refine .inr ⟨go, fun v H3 y => ?_⟩
          obtain ⟨F3, q3, r3⟩ := yl v H3 y
          unfold dcompL at e2
          split at e2
          · rename_i E4 eg
            refine qg F3 H3 [] O2 (L2.wipe σ own) Ec E4 v _ eg (q3.own w2.right) r3 (q3.rps s2) _ fun σ4 F4 H4 O4 c4 x4 w4 s4 => ?_
            have x24 : Ext F2 H2 O2 F4 H4 O4 := (q3.extO (O := O2)).trans x4
            have wt : L2.wipe σ4 own = L2.wipe σ own := (wipe_tch c4 hts).trans wipe_wipe
            refine ⟨wt, ?_⟩
            have w24 := w2.frame x24 w4
            have rD4 := rD.ext x24 w2.apart
            have xx4 := x2.trans (x24.frame w2)
            have f4 : ∀ a u, F1 a = some u → F4 a = some u := fun a u z => x24.fle a u (f2 a u z)
            split at e2
            · rename_i E5 et
              refine qt F4 H4 O4 σ4 E4 false E5 et w4 s4 _ fun F5 H5 O5 x5 w5 s5 => ?_
              rw [if_neg Bool.false_ne_true]
              obtain ⟨O6, s6, w6, m6⟩ := s5.wipe w5 own
              rw [wt] at s6
              have x6 : Ext F4 H4 O4 F5 H5 O6 := x5.sub (fun _ m => m) fun b m => .inl (m6 b m)
              exact ⟨xs.length - (i + 1), by omega, F5, O6, wipeE E5 own, kc, A, rfl, hlt, fun a u z => x5.fle a u (f4 a u z), w24.frame x6 w6, s6, rD4.ext x5 w24.apart, e2, xx4.trans (x6.frame w24)⟩
            · rename_i E5 et
              split at e2
              · rename_i k ek
                split at e2
                · rename_i dv E6 ev
                  split at e2
                  · rename_i kc' ep
                    refine qt F4 H4 O4 σ4 E4 true E5 et w4 s4 _ fun F5 H5 O5 x5 w5 s5 => ?_
                    rw [if_pos rfl]
                    have w25 := w24.frame x5 w5
                    refine qk F5 H5 O5 σ4 E5 k ek w5 s5 _ fun ky F6 H6 Ak q6 rk => ?_
                    have w26 := q6.own w25
                    refine qv F6 H6 O5 σ4 E5 dv E6 ev w26.right (q6.rps s5) _ fun y F7 H7 Ay O7 x7 w7 r7 s7 => ?_
                    have w27 := w26.frame x7 w7
                    have rD7 := (q6.rp (rD4.ext x5 w24.apart)).ext x7 w26.apart
                    have xx7 := ((xx4.trans (x5.frame w24)).trans (q6.extO (O := (Dn :: A) ++ O5))).trans (x7.frame w26)
                    have rk7 : ∃ Bk, Rp K mg F7 H7 ky k Bk := by
                      have fz : isFz k = true := by
                        rcases dPut_some (r := kc') ep with ⟨x, _, ex, _⟩ | ⟨x, _, ex, _⟩
                        · cases k <;> simp [keyK] at ex <;> rfl
                        · exact keyN_fz (keyT_some ex).1
                      have z := rk.fz fz
                      subst z
                      exact ⟨[], rk.ext x7 fun _ m => by cases m⟩
                    obtain ⟨Bk, rk7⟩ := rk7
                    have pm : ((Dn :: A) ++ (Ay ++ O7)).Perm (((Dn :: A) ++ Ay) ++ O7) := by rw [List.append_assoc]
                    have w28 := w27.perm pm
                    obtain ⟨Dn', vs, As, eD, Dc, rl, ho, _⟩ := rD7.dic_inv w27.le
                    cases eD
                    obtain ⟨eA, hF⟩ := ho rfl
                    cases eA
                    obtain ⟨O8, s8, w8, m8⟩ := s7.wipe w7.right own
                    rw [wt] at s8
                    have ap := w28.apart
                    refine rDset_of (dput_core (ks' := kc'.1) (ds' := kc'.2) w28.left Dc rl r7 rk7 ep fun o' As' nd na hs rD8 => ?_) Dc
                    have hs' : ∀ b ∈ (Dn :: As') ++ O8, b ∈ (Dn :: A) ++ (Ay ++ O7) := fun b m => by
                      refine pm.mem_iff.mpr ?_
                      rcases List.mem_append.mp m with m | m
                      · refine List.mem_append_left _ ?_
                        rcases List.mem_cons.mp m with z | m
                        · rw [z]; exact List.mem_append_left _ List.mem_cons_self
                        · rcases hs b m with m | m
                          · exact List.mem_append_left _ (List.mem_cons_of_mem _ m)
                          · exact List.mem_append_right _ m
                      · exact List.mem_append_right _ (m8 b m)
                    have nd' : ((Dn :: As') ++ O8).Nodup := by
                      refine List.nodup_append.mpr ⟨List.nodup_cons.mpr ⟨na, nd⟩, w8.nd, fun b m c n z => ap b ?_ (m8 b (z ▸ n))⟩
                      rcases List.mem_cons.mp m with z | m
                      · rw [z]; exact List.mem_append_left _ List.mem_cons_self
                      · rcases hs b m with m | m
                        · exact List.mem_append_left _ (List.mem_cons_of_mem _ m)
                        · exact List.mem_append_right _ m
                    refine ⟨xs.length - (i + 1), by omega, F7, O8, wipeE E6 own, kc', As', rfl, hlt, fun a u z => x7.fle a u (q6.ext.fle a u (x5.fle a u (f4 a u z))), wg_own w27 nd' hs', s8.ext (wg_x hF) fun b m q => ?_, rD8, e2, xx7.trans (wg_ext hs')⟩
                    exact ap b (by rw [List.mem_singleton.mp q]; exact List.mem_append_left _ List.mem_cons_self) (m8 b m)
                  · cases e2
                · cases e2
              · cases e2
            · cases e2
          · cases e2
        · have ei' : i = xs.length := by omega
          subst ei'
          rw [List.drop_length] at e2
          unfold dcompL at e2
          cases e2
          refine .inl ⟨ok.stop F2 H2 _ f2 w2.le rfl, ?_⟩
          have frz : ∀ j ∈ own, RpO K mg F2 H2 (σ[j]?.join) (E1[j]?.join) [] := fun j m => by
            obtain ⟨B, r⟩ := s1.getO j
            have zj := List.all_eq_true.mp hz j m
            rcases q : E1[j]? with _ | _ | dj
            · exact .none
            · exact .none
            · rw [q] at r zj
              cases eq : σ[j]?.join with
              | none => rw [eq] at r; cases r
              | some v =>
                rw [eq] at r
                cases (show RpO K mg F1 H1 (some v) (some dj) B from r) with
                | some r =>
                  cases r.fz zj
                  exact .some (r.up f2)
          obtain ⟨O3, s3, w3, m3⟩ := RpS.back hnd w2.right s2 frz
          have sub : ∀ b ∈ (Dn :: A) ++ O3, b ∈ (Dn :: A) ++ O2 := fun b m => List.mem_append.mpr ((List.mem_append.mp m).imp id (m3 b))
          have nd := List.nodup_append.mp w2.nd
          exact hQ (.ref Dn) F2 H2 (Dn :: A) O3 (x1.trans (x2.sub mw fun b m => .inl (sub b m))) (w2.sub (List.nodup_append.mpr ⟨nd.1, w3.nd, fun a x b y => nd.2.2 a x b (m3 b y)⟩) sub) rD s3
      · cases e
    · cases e
  · cases e
theorem pd_dcomp {Y : Fm} {kx vx tg iter : Expr} {ifs : List Expr} {scope : Scope} {own : List (Str × Nat)} {ts : List Nat} {pos : Pos} {fi g ft fk fv} (hN : Y.N.Nodup) (hi : ID Y tg iter fi) (ok : BlkOk Y.N Y.sc scope own)
    (hg : GD (Y.blk scope) tg ts g) (ht : TsD (Y.blk scope) ifs ft) (hk : PQ (Y.blk scope) kx fk) (hv : PD (Y.blk scope) vx fv)
    (hts : ∀ i ∈ ts, i ∈ own.map (·.2)) (hnd : (own.map (·.2)).Nodup) (hs : ∀ X : Cx, ∀ x, foldedSetIterable iter X.env x = pure x := by intro _ _; rfl) :
    PD Y (.DictComp kx vx [⟨tg, iter, ifs, 0⟩] scope pos) (eDComp (own.map (·.2)) fi g ft fk fv) := by
  obtain ⟨_, pi, qi⟩ := hi
  obtain ⟨_, pg, qg⟩ := hg
  obtain ⟨_, pt, qt⟩ := ht
  obtain ⟨_, pk, qk⟩ := hk
  obtain ⟨_, pv, qv⟩ := hv
  exact ⟨_, fun X h => pe_dy h (h.nd hN) (pi X h) (by rw [h.N, h.sc]; exact ok) pg pt pk pv (hs X), dcomp_core qi qg qt qk qv hts hnd⟩
end Dm

/-! dict.get, str.index, list.extend with a tuple, constants of the module, dict(..) of pairs, what is never come to -/
namespace Dm
open PySem PySem.Spec L2
open PyProof.Rows hiding St
/-! ### quiet methods -/
/-- at a stands a dict -/
def IsDc (K : PySem.W.Frag) (mg : Md) (H : Hp) (a : Addr) : Prop := (∃ kvs, H a = some (.dK kvs)) ∨ ∃ xs, DtIs K mg H a xs
def tDm (K : PySem.W.Frag) (mg : Md) (r : V → List V → Hp → VK → Prop) (to : TE) (t : TA) : TE := fun σ H Q => to σ H fun x H1 => (∃ a, x = .ref a ∧ IsDc K mg H1 a) ∧ t σ H1 fun xs H2 => r x xs H2 Q
section
variable {X : Cx} {mg : Md} {k : Nat} {o e : Expr} {es : List Expr} {to : TE} {t : TA} {name : Str} {apos cpos : Pos} {id : String} {r : V → List V → Hp → VK → Prop}
theorem pe_dm (hp : mg.P = X.prog) (hw : mg.w = X.w) (slot : Slot "dict" name id) (hty : typeOf (.builtin id) = pure (.type "method_descriptor")) (hm : MtR X id r) (ho : PE X o to) (ha : PA X (e :: es) t)
    (hbase : attributeBase o name X.env (eval o X.env) = eval o X.env)
    (hfew : ((backTo cpos (starEach (e :: es) X.env)).all (fun x => !x.1) && (backToKw cpos (keywordEach [] X.env)).all (fun x => x.1.isSome)
      && decide ((e :: es).length + ([] : List Keyword).length + (if ([] : List Keyword).isEmpty then 0 else 1) < 30)) = true)
    (hline : (apos.endLine == cpos.line) = true) (hs : starEach (e :: es) X.env = (false, eval e X.env) :: starEach es X.env) (hpl : (backTo cpos (starEach es X.env)).any (·.1) = false) :
    PE X (.Call (.Attribute o name apos) (e :: es) [] cpos) (tDm X.K mg r to t) := by
  refine ⟨fun pins s σ H Q I h => wpAny_Call_method_late hbase hfew hline rfl (thn (ho.run pins s σ H _ I h) fun v s1 ⟨x, H1, I1, r1, ⟨a, ex, dc⟩, q1⟩ => ?_)⟩
  subst ex
  obtain rfl : v = Value.ref a := r1
  have ty : s1.TypeIs (.ref a) "dict" ∧ ∀ b, Value.ref a = .ref b → ∃ ob, s1.heap.get? b = some ob ∧ ob.dict = none := by
    rcases dc with ⟨kvs, e⟩ | ⟨xs, D⟩
    · exact ⟨(isD_at I1 (.inl ⟨kvs, .inl e⟩)).1, (isD_at I1 (.inl ⟨kvs, .inl e⟩)).2.1⟩
    · obtain ⟨f, P, w⟩ := mg
      cases hp
      cases hw
      obtain ⟨ys, _, dd, _, _, _⟩ := dt_at I1 D
      refine ⟨dd.typeIs, fun b q => ?_⟩
      cases q
      obtain ⟨ob, _, _, h1, h2, _⟩ := dd
      exact ⟨ob, h1, h2.2.1⟩
  refine ⟨"dict", id, PySem.F.plainAttrs_dict, slot, hty, ty.1, ty.2, ?_⟩
  have args := ha.run cpos pins s1 σ H1 _ I1 q1
  rw [hs] at args ⊢
  exact Calls.callWith_builtin (by show (false || (backTo cpos (starEach es X.env)).any (·.1)) = false; rw [hpl] <;> rfl) (Calls.evalArgs_plain (thn args fun us s2 ⟨vs, H2, I2, r2, q2⟩ => hm pins s2 σ H2 (.ref a) vs (.ref a) us Q I2 rfl r2 q2))
end
def opGet : D → List D → Option D
  | .dic _ ks ds, [k] => match dGet ks ds k with | some o => some (o.getD .non) | none => none
  | .dic _ ks ds, [k, z] => match dGet ks ds k with | some o => some (o.getD z) | none => none
  | _, _ => none
def q1M (op : D → List D → Option D) (f : Ev → Option D) (g : Ev → Option (List D)) : Ev → Option D := fun E => match f E with | some d => (match g E with | some ds => op d ds | none => none) | none => none
section
variable {K : PySem.W.Frag} {mg : Md} {F H : Hp} {v : V} {vs : List V} {d : D} {ds ks : List D} {A B : List Addr}
theorem isDc_of {o : Bool} (f : ∀ a o, F a = some o → H a = some o) (r : Rp K mg F H v (.dic o ks ds) A) : ∃ a, v = .ref a ∧ IsDc K mg H a := by
  obtain ⟨a, us, As, ev, Dc, _⟩ := r.dic_inv f
  refine ⟨a, ev, ?_⟩
  cases Dc with
  | k e => exact .inl ⟨_, e⟩
  | t e ok hk hr => exact .inr ⟨_, .o e ok (keysN_keys f hk hr)⟩
theorem ok_get1 {o : Bool} {k : D} {u : V} (f : ∀ a o, F a = some o → H a = some o) (r : Rp K mg F H v (.dic o ks ds) A) (ry : Rp K mg F H u k B) {x : Option D} (e : dGet ks ds k = some x) {Q : VK} (hQ : ∀ w C, Rp K mg F H w (x.getD .non) C → Q w H) : rGet1 K mg v [u] H Q := by
  obtain ⟨a, us, As, ev, Dc, rl, _⟩ := r.dic_inv f
  obtain ⟨ov, g, n, s⟩ := dic_get f Dc rl ry e
  refine ⟨a, u, ov, ev, rfl, g, ?_⟩
  cases x with
  | none => rw [n rfl]; exact hQ .non [] .non
  | some d => obtain ⟨w, C, eo, rw'⟩ := s d rfl; rw [eo]; exact hQ w C rw'
theorem ok_get2 {o : Bool} {k z : D} {u y : V} {C0 : List Addr} (f : ∀ a o, F a = some o → H a = some o) (r : Rp K mg F H v (.dic o ks ds) A) (ry : Rp K mg F H u k B) (rz : Rp K mg F H y z C0) {x : Option D} (e : dGet ks ds k = some x) {Q : VK} (hQ : ∀ w C, Rp K mg F H w (x.getD z) C → Q w H) : rGet2 K mg v [u, y] H Q := by
  obtain ⟨a, us, As, ev, Dc, rl, _⟩ := r.dic_inv f
  obtain ⟨ov, g, n, s⟩ := dic_get f Dc rl ry e
  refine ⟨a, u, y, ov, ev, rfl, g, ?_⟩
  cases x with
  | none => rw [n rfl]; exact hQ y _ rz
  | some d => obtain ⟨w, C, eo, rw'⟩ := s d rfl; rw [eo]; exact hQ w C rw'
end
section
variable {Y : Fm} {o a b : Expr} {apos cpos : Pos} {f : Ev → Option D} {g : Ev → Option (List D)}
theorem pq_get1 (ho : PQ Y o f) (ha : PQa Y [a] g) (hbase : ∀ X : Cx, attributeBase o "get" X.env (eval o X.env) = eval o X.env := by intro _; rfl)
    (hfew : ∀ X : Cx, ((backTo cpos (starEach [a] X.env)).all (fun x => !x.1) && (backToKw cpos (keywordEach [] X.env)).all (fun x => x.1.isSome) && decide ([a].length + ([] : List Keyword).length + (if ([] : List Keyword).isEmpty then 0 else 1) < 30)) = true := by intro _; rfl)
    (hline : (apos.endLine == cpos.line) = true := by rfl) (hs : ∀ X : Cx, starEach [a] X.env = [(false, eval a X.env)] := by intro _; rfl) (hl : ∀ E ds, g E = some ds → ds.length = 1) : PQ Y (.Call (.Attribute o "get" apos) [a] [] cpos) (q1M opGet f g) := by
  obtain ⟨_, p, q⟩ := ho
  obtain ⟨_, p2, q2⟩ := ha
  refine ⟨tDm Y.K Y.mg (rGet1 Y.K Y.mg) _ _, fun X h => by rw [← h.K]; exact pe_dm h.prog.symm h.w.symm PySem.F.slot_dict_get PySem.F.type_dict_get (mt_get1 h.room h.prog.symm h.w.symm) (p X h) (p2 X h) (hbase X) (hfew X) hline (hs X) rfl, fun F H O σ E d e w s Q hQ => ?_⟩
  unfold q1M at e
  split at e
  · rename_i d0 e0
    split at e
    · rename_i ds e1
      have len := hl _ _ e1
      refine q F H O σ E d0 e0 w s _ fun v F1 H1 A x1 r1 => ?_
      unfold opGet at e
      split at e
      · refine ⟨isDc_of x1.le r1, q2 F1 H1 O σ E _ e1 (x1.own w) (x1.rps s) _ fun vs F2 H2 B x2 r2 => ?_⟩
        split at e
        · rename_i x ex
          cases e
          obtain ⟨u, eu, ru⟩ := r2.one_inv
          subst eu
          exact ok_get1 x2.le (x2.rp r1) ru ex fun w C r => hQ w F2 H2 C (x1.trans x2) r
        · cases e
      · simp at len
      · cases e
    · cases e
  · cases e
theorem pq_get2 (ho : PQ Y o f) (ha : PQa Y [a, b] g) (hbase : ∀ X : Cx, attributeBase o "get" X.env (eval o X.env) = eval o X.env := by intro _; rfl)
    (hfew : ∀ X : Cx, ((backTo cpos (starEach [a, b] X.env)).all (fun x => !x.1) && (backToKw cpos (keywordEach [] X.env)).all (fun x => x.1.isSome) && decide ([a, b].length + ([] : List Keyword).length + (if ([] : List Keyword).isEmpty then 0 else 1) < 30)) = true := by intro _; rfl)
    (hline : (apos.endLine == cpos.line) = true := by rfl) (hs : ∀ X : Cx, starEach [a, b] X.env = (false, eval a X.env) :: starEach [b] X.env := by intro _; rfl) (hpl : ∀ X : Cx, (backTo cpos (starEach [b] X.env)).any (·.1) = false := by intro _; rfl)
    (hl : ∀ E ds, g E = some ds → ds.length = 2) : PQ Y (.Call (.Attribute o "get" apos) [a, b] [] cpos) (q1M opGet f g) := by
  obtain ⟨_, p, q⟩ := ho
  obtain ⟨_, p2, q2⟩ := ha
  refine ⟨tDm Y.K Y.mg (rGet2 Y.K Y.mg) _ _, fun X h => by rw [← h.K]; exact pe_dm h.prog.symm h.w.symm PySem.F.slot_dict_get PySem.F.type_dict_get (mt_get2 h.room h.prog.symm h.w.symm) (p X h) (p2 X h) (hbase X) (hfew X) hline (hs X) (hpl X), fun F H O σ E d e w s Q hQ => ?_⟩
  unfold q1M at e
  split at e
  · rename_i d0 e0
    split at e
    · rename_i ds e1
      have len := hl _ _ e1
      refine q F H O σ E d0 e0 w s _ fun v F1 H1 A x1 r1 => ?_
      unfold opGet at e
      split at e
      · simp at len
      · refine ⟨isDc_of x1.le r1, q2 F1 H1 O σ E _ e1 (x1.own w) (x1.rps s) _ fun vs F2 H2 B x2 r2 => ?_⟩
        split at e
        · rename_i x ex
          cases e
          obtain ⟨u, y, B1, B2, eu, ru, rz⟩ := r2.two_inv
          subst eu
          exact ok_get2 x2.le (x2.rp r1) ru rz ex fun w C r => hQ w F2 H2 C (x1.trans x2) r
        · cases e
      · cases e
    · cases e
  · cases e
theorem len_qNil : ∀ (E : Ev) (ds : List D), qNil E = some ds → ds.length = 0 := fun E ds e => by cases e; rfl
theorem len_qCons {f : Ev → Option D} {g : Ev → Option (List D)} {n : Nat} (h : ∀ E ds, g E = some ds → ds.length = n) : ∀ (E : Ev) (ds : List D), qCons f g E = some ds → ds.length = n + 1 := fun E ds e => by
  unfold qCons at e
  split at e
  · split at e
    · rename_i eg
      cases e
      rw [List.length_cons, h _ _ eg]
    · cases e
  · cases e
/-! str.index -/
def opIndex : D → List D → Option D
  | .str x, [.str y] => match Builtin.Str.occurrences x y 0 x.length 1 with | i :: _ => some (.int (i : Nat)) | [] => none
  | _, _ => none
theorem pq_index (ho : PQ Y o f) (ha : PQa Y [a] g) (hbase : ∀ X : Cx, attributeBase o "index" X.env (eval o X.env) = eval o X.env := by intro _; rfl)
    (hfew : ∀ X : Cx, ((backTo cpos (starEach [a] X.env)).all (fun x => !x.1) && (backToKw cpos (keywordEach [] X.env)).all (fun x => x.1.isSome) && decide ([a].length + ([] : List Keyword).length + (if ([] : List Keyword).isEmpty then 0 else 1) < 30)) = true := by intro _; rfl)
    (hline : (apos.endLine == cpos.line) = true := by rfl) (hs : ∀ X : Cx, starEach [a] X.env = [(false, eval a X.env)] := by intro _; rfl) : PQ Y (.Call (.Attribute o "index" apos) [a] [] cpos) (q1M opIndex f g) := by
  obtain ⟨_, p, q⟩ := ho
  obtain ⟨_, p2, q2⟩ := ha
  refine ⟨_, fun X h => by
    have z := pe_bm (name := "index") (apos := apos) (cpos := cpos) PySem.F.plainAttrs_str PySem.F.slot_str_index PySem.F.type_str_index (mt_sindex (X := X)) (p X h) (p2 X h) (hbase X) (hfew X) hline (hs X) rfl
    rw [h.K] at z
    exact z, fun F H O σ E d e w s Q hQ => ?_⟩
  unfold q1M at e
  split at e
  · rename_i d0 e0
    split at e
    · rename_i ds e1
      refine q F H O σ E d0 e0 w s _ fun v F1 H1 A x1 r1 => ?_
      unfold opIndex at e
      split at e
      · split at e
        · rename_i x y i rest ei
          cases e
          have ev := r1.str_inv
          subst ev
          refine ⟨rfl, q2 F1 H1 O σ E _ e1 (x1.own w) (x1.rps s) _ fun vs F2 H2 B x2 r2 => ?_⟩
          obtain ⟨u, eu, ru⟩ := r2.one_inv
          have eu2 := ru.str_inv
          subst eu eu2
          exact ⟨_, _, i, rest, rfl, rfl, ei, hQ _ F2 H2 [] (x1.trans x2) (.int _)⟩
        · cases e
      · cases e
    · cases e
  · cases e
end
/-! ### a constant of the module -/
def Cst (mg : Str → Option Value) (x : Str) (d : D) : Prop := ∃ u v, mg x = some u ∧ RelV v u ∧ ∀ (K : PySem.W.Frag) (md : Md) (F H : Hp), Rp K md F H v d []
theorem cst_int {mg : Str → Option Value} {x : Str} {i : Int} {t : Tok} (h : mg x = some (.int i t)) : Cst mg x (.int i) := ⟨_, .int i, h, ⟨t, rfl⟩, fun _ _ _ _ => .int i⟩
theorem cst_str {mg : Str → Option Value} {x z : Str} {t : Tok} (h : mg x = some (.str z t)) : Cst mg x (.str z) := ⟨_, .str z, h, ⟨t, rfl⟩, fun _ _ _ _ => .str z⟩
theorem pq_con {Y : Fm} {x : Str} {d : D} {pos : Pos} (hg : GlY Y x) (h : Cst Y.mgf x d) (hd : (x == ("__debug__" : Str)) = false := by decide) : PQ Y (.Name x pos) (qC d) := by
  obtain ⟨u, v, hm, rv, r⟩ := h
  exact ⟨_, fun X h => pe_glob (h.gl hg) (h.mgN hm) rv hd, qt_c fun F H => r _ _ F H⟩
/-! ### never come to -/
def sNever : Ev → Option Out := fun _ => none
theorem sd_never {Y : Fm} {st : Stmt} {lk : Lks} : SD Y st lk sNever := ⟨_, fun _ _ => ps_never, fun F H O σ E o e => by cases e⟩
end Dm

/-! list.extend with a tuple, dict(..) of pairs -/
namespace Dm
open PySem PySem.Calls PySem.Spec L2
open PyProof.Rows hiding St
def rExtendT (K : PySem.W.Frag) : V → List V → Hp → VK → Prop := fun x vs H Q => ∃ l b xs zs, x = .ref l ∧ vs = [.ref b] ∧ H l = some (.lst xs) ∧ SqT K H b zs ∧ xs.length + zs.length ≤ sizeLine ∧ Q .non (upd H l (.lst (xs ++ zs)))
theorem mt_extendT {X : Cx} : MtR X "list.extend" (rExtendT X.K) := by
  intro pins s σ H x vs v us Q I rx rv h
  obtain ⟨l, b, xs, zs, rfl, rfl, hl, hb, hz, q⟩ := h
  cases rx
  obtain ⟨u, rfl, ru⟩ := vals1 rv
  cases ru
  obtain ⟨_, its, n, r, len, e⟩ := I.lstM hl
  obtain ⟨its2, r2, ⟨o, e2, c2, n2, d2⟩, _⟩ := I.tuple hb
  have len2 := r2.length
  refine wpAny_call_entry PySem.F.slot_list_extend ⟨_, e, rfl⟩ PySem.F.entry_list_extend ?_ (PySem.F.args_list_extend_2 _ _)
  show wpAny _ X.A.in1 (Builtin.List.listExtendWith (.ref l) (.ref b) .none) _ _ s
  unfold Builtin.List.listExtendWith
  refine wpAny_bind (wpAny_typeOf ⟨o, e2, c2⟩ ?_)
  have yes : (Builtin.List.listSameRef (.ref l) (.ref b) || Value.type "tuple" == Value.type "list" || Value.type "tuple" == Value.type "tuple") = true := by simp
  rw [if_pos yes]
  refine wpAny_bind (listItems_at e2 d2 (wpAny_bind (listItems_at e rfl ?_)))
  have few : ¬ (!its.toArray.isEmpty && Builtin.List.listTooLong (its.toArray.size + its2.toArray.size)) = true := by
    rw [notLongL (by rw [List.size_toArray, List.size_toArray]; omega), Bool.and_false]
    exact Bool.false_ne_true
  rw [if_neg few]
  refine wpAny_bind (listUpdate_at e rfl ?_ (by rw [List.size_toArray]; omega) (by rw [Array.size_append, List.size_toArray, List.size_toArray]; omega))
  exact wpAny_pure ⟨_, rfl, .non, _, I.lset (t' := s.toks) (its' := its ++ its2) hl e (by simp) (r.append r2) (by rw [List.length_append]; omega), rfl, q⟩
def mExtendX : List D → List D → Option (D × List D) := fun xs ds => match ds with
  | [.tup ys] => (if xs.length + ys.length ≤ sizeLine ∧ isFzL ys = true then some (.non, xs ++ ys) else none)
  | ds => mExtend xs ds
abbrev rExtendX (K : PySem.W.Frag) : V → List V → Hp → VK → Prop := fun x xs H Q => rExtend x xs H Q ∨ rExtendT K x xs H Q
theorem my_extendX {Y : Fm} : ∀ X, Y.Is X → MtR X "list.extend" (rExtendX Y.K) := fun X h => by
  rw [← h.K]
  intro pins s σ H x xs v us Q I rx rv z
  rcases z with z | z
  · exact mt_extend pins s σ H x xs v us Q I rx rv z
  · exact mt_extendT pins s σ H x xs v us Q I rx rv z
theorem ok_extendX {K : PySem.W.Frag} {mg : Md} : RMok K mg (rExtendX K) mExtendX := by
  intro F H a us xs vs ds d xs' As Bs e w h z r rd Q hQ
  unfold mExtendX at e
  split at e
  · split at e
    · cases e
      rename_i hl
      obtain ⟨v, ev, rv⟩ := rd.one_inv
      obtain ⟨b, ws, eb, _, h2, z2, r2⟩ := rv.tup_inv w.le
      subst ev
      have hn := r2.nilOf hl.2
      have l1 := r.length
      have l2 := hn.length
      have q := r.append hn
      rw [List.append_nil] at q
      refine .inr ⟨a, b, us, ws, rfl, by rw [eb], h, h2, by omega, hQ .non (us ++ ws) As [] (by rw [List.length_append]; omega) ?_ (fun b m => ?_) q .non⟩
      · rw [List.append_nil]
        exact (List.nodup_cons.mp (List.nodup_append.mp w.nd).1).2
      · rw [List.append_nil] at m
        exact .inl m
    · cases e
  · exact .inl (ok_extend F H a us xs vs _ d xs' As Bs e w h z r rd Q hQ)
/-! ### dict(..) of a list of pairs -/
def pairsK : List D → Option (List (D × D))
  | [] => some []
  | .tup [k, d] :: xs => if (keyK k).isSome = true ∧ isFz d = true then (match pairsK xs with | some l => some ((k, d) :: l) | none => none) else none
  | _ :: _ => none
def putAll : List (D × D) → List D × List D → Option (List D × List D)
  | [], kd => some kd
  | (k, d) :: r, kd => match dPut kd.1 kd.2 k d with | some kd' => putAll r kd' | none => none
def opDict : List D → Option D
  | [.lst _ xs] => match pairsK xs with | some l => (match putAll l ([], []) with | some kd => some (.dic true kd.1 kd.2) | none => none) | none => none
  | _ => none
def rDictP (K : PySem.W.Frag) : List V → Hp → VK → Prop := fun xs H Q => ∃ (a : Addr) (ps : List Addr) (kvs : List (Key × V)), xs = [.ref a] ∧ SqL K H a (ps.map V.ref) ∧ Paired (fun p kv => SqT K H p [kV kv.1, kv.2]) ps kvs ∧
    ∀ p, H p = none → Q (.ref p) (upd H p (.dK (mergeK [] kvs)))
section
variable {K : PySem.W.Frag} {mg : Md} {F H : Hp} {vs : List V} {ds ks : List D}
theorem pairs_ok (f : ∀ a o, F a = some o → H a = some o) : ∀ {xs : List D} {vs : List V} {l : List (D × D)}, pairsK xs = some l → RpL K mg F H vs xs [] →
    ∃ ps kvs, vs = ps.map V.ref ∧ Paired (fun p kv => SqT K H p [kV kv.1, kv.2]) ps kvs ∧ Paired (fun (kd : D × D) (kv : Key × V) => keyK kd.1 = some kv.1 ∧ Rp K mg F H kv.2 kd.2 []) l kvs
  | [], _, _, e, .nil => by cases e; exact ⟨[], [], rfl, .nil, .nil⟩
  | x :: xs, vs, l, e, r => by
    unfold pairsK at e
    split at e
    · cases ‹_ :: _ = []›
    · rename_i k d xs' ex
      injection ex with e1 e2
      subst e1 e2
      split at e
      · rename_i hk
        split at e
        · rename_i l' el
          cases e
          generalize eB : ([] : List Addr) = B at r
          cases r with
          | @cons v vs _ _ B1 B2 r1 r2 =>
            obtain ⟨z1, z2⟩ := List.append_eq_nil_iff.mp eB.symm
            subst z1 z2
            obtain ⟨ps, kvs, ev, pa, pb⟩ := pairs_ok f el r2
            obtain ⟨a, ws, ea, _, sq, _, rw'⟩ := r1.tup_inv f
            obtain ⟨u, w, A1, A2, ew, ru, rd⟩ := rw'.two_inv
            subst ea ev ew
            obtain ⟨key, ek⟩ := Option.isSome_iff_exists.mp hk.1
            have eu := keyK_kV ek ru
            have zd := rd.fz hk.2
            subst eu zd
            exact ⟨a :: ps, (key, w) :: kvs, rfl, .cons sq pa, .cons ⟨ek, rd⟩ pb⟩
        · cases e
      · cases e
    · cases e
theorem putAll_ok : ∀ {l : List (D × D)} {kvs acc : List (Key × V)} {ks ds ks' ds' : List D}, putAll l (ks, ds) = some (ks', ds') → Paired (fun (kd : D × D) (kv : Key × V) => keyK kd.1 = some kv.1 ∧ Rp K mg F H kv.2 kd.2 []) l kvs →
    keysK ks = some (acc.map (·.1)) → (acc.map (·.1)).Nodup → RpL K mg F H (acc.map (·.2)) ds [] →
    keysK ks' = some ((mergeK acc kvs).map (·.1)) ∧ ((mergeK acc kvs).map (·.1)).Nodup ∧ RpL K mg F H ((mergeK acc kvs).map (·.2)) ds' []
  | [], _, _, _, _, _, _, e, .nil, h1, h2, h3 => by cases e; exact ⟨h1, h2, h3⟩
  | (k, d) :: l, _, acc, ks, ds, ks', ds', e, .cons (b := kv) (l₂ := kvs) ⟨ek, rd⟩ t, h1, h2, h3 => by
    unfold putAll at e
    split at e
    · rename_i kd ep
      obtain ⟨ks1, ds1⟩ := kd
      have step : keysK ks1 = some ((putK acc kv.1 kv.2).map (·.1)) ∧ ((putK acc kv.1 kv.2).map (·.1)).Nodup ∧ RpL K mg F H ((putK acc kv.1 kv.2).map (·.2)) ds1 [] := by
        rcases dPut_some ep with ⟨x, xs, ex, exs, e⟩ | ⟨x, xs, ex, _, _⟩
        · rw [ek] at ex
          cases ex
          have z : some (acc.map (·.1)) = some xs := h1.symm.trans exs
          cases z
          obtain ⟨_, ⟨j, ej, e1, e2⟩ | ⟨ej, e1, e2⟩⟩ := dPutG_some e
          · subst e1 e2
            obtain ⟨p1, p2⟩ := putK_old (v := kv.2) h2 ej
            have hj := ixOf_lt ej
            have hl := h3.length
            rw [List.length_map] at hj hl
            obtain ⟨As', rl, _, m⟩ := h3.set (j := j) rd (by omega) (fun b m => by cases m) List.nodup_nil List.nodup_nil
            have zA : As' = [] := List.eq_nil_iff_forall_not_mem.mpr fun b q => by rcases m b q with q | q <;> cases q
            subst zA
            exact ⟨by rw [p1]; exact exs, by rw [p1]; exact h2, by rw [p2]; exact rl⟩
          · subst e1 e2
            rw [putK_add ej]
            refine ⟨by rw [List.map_append]; exact keysK_snoc exs ek, ?_, ?_⟩
            · rw [List.map_append]
              exact List.nodup_append.mpr ⟨h2, by simp, fun b m c n q => by simp at n; subst n; subst q; exact ixOf_none.mp ej m⟩
            · rw [List.map_append]
              exact h3.append (.cons (O1 := []) rd .nil)
        · obtain ⟨_, _, zs, ez⟩ := keyT_some ex
          simp only at ek
          rw [ez] at ek
          cases ek
      exact putAll_ok (acc := putK acc kv.1 kv.2) (kvs := kvs) e t step.1 step.2.1 step.2.2
    · cases e
theorem ok_dict : RLok K mg (rDictP K) opDict := by
  intro F H vs ds d A e f r Q hQ
  unfold opDict at e
  split at e
  · split at e
    · rename_i l el
      split at e
      · rename_i kd ep
        cases e
        obtain ⟨v, ev, r1⟩ := r.one_inv
        obtain ⟨a, us, _, ea, e1, z1, r2, _⟩ := r1.lst_inv f
        have fz : ∀ {xs : List D} {l : List (D × D)}, pairsK xs = some l → isFzL xs = true := by
          intro xs
          induction xs with
          | nil => intro _ _; rfl
          | cons x xs ih =>
            intro l e
            unfold pairsK at e
            split at e
            · cases ‹_ :: _ = []›
            · rename_i k d xs' ex
              injection ex with e1 e2
              subst e1 e2
              split at e
              · rename_i hk
                split at e
                · rename_i l' el
                  have hk1 : isFz k = true := by
                    have z := hk.1
                    cases k <;> simp [keyK] at z <;> rfl
                  simp only [isFzL, isFz, Bool.and_true, Bool.and_eq_true]
                  exact ⟨⟨hk1, hk.2⟩, ih el⟩
                · cases e
              · cases e
            · cases e
        obtain ⟨ps, kvs, eu, pa, pb⟩ := pairs_ok f el (r2.nilOf (fz el))
        subst ev eu
        refine ⟨a, ps, kvs, by rw [ea], SqL.of e1, pa, fun p hp => ?_⟩
        obtain ⟨m1, m2, m3⟩ := putAll_ok (acc := []) (ks' := kd.1) (ds' := kd.2) ep pb rfl List.nodup_nil .nil
        have q : Qx F H F (upd H p (.dK (mergeK [] kvs))) := Qx.new f hp
        exact hQ _ F _ [p] q (by simp) (fun c m => by simp at m; subst m; exact hp) (.dKO upd_same (none_of_le f hp) ⟨m1, m2⟩ (q.rpl m3))
      · cases e
    · cases e
  · cases e
end
theorem cy_dict {Y : Fm} : CallY Y (.type "dict") (rDictP Y.K) := fun X h => by rw [← h.K]; exact call_dictP h.calm
end Dm

/-! methods, makers and calls by name, as the printer of walks uses them -/
namespace Dm
open PySem PySem.Spec L2
open PyProof.Rows hiding St
section
variable {P : Program} {w : World} {K : PySem.W.Frag} {mg : Str → Option Value} {base : Heap}
def TopM (K : PySem.W.Frag) (mg : Str → Option Value) (c m qual : Str) (st : Stmt) (ps : List Str) : Prop := ∃ C a fd, mg c = some (.ref C) ∧ Cls K C ∧ Meth K C m a ∧ Fun K m qual st a fd ∧ Binds K fd ps []
def TopI (K : PySem.W.Frag) (mg : Str → Option Value) (c qual : Str) (st : Stmt) (ps : List Str) : Prop := ∃ C a fd, mg c = some (.ref C) ∧ Mk K C a ∧ Fun K "__init__" qual st a fd ∧ Binds K fd ps []
theorem cm_of {c m qual : Str} {st : Stmt} {N ps : List Str} {k : Nat} {b : Lks → Ev → Option Out} (T : TopM K mg c m qual st ps) (S : FnScope N ps (defScope st))
    (hb : ∀ lk, SDs ⟨P, w, K, mg, base, N, defScope st, fun _ => true, k⟩ (defBody st) lk (b lk)) : Cm P w K mg base (k + 1) c m ps (runD N.length ps.length b) :=
  let ⟨C, a, fd, h1, h2, h3, F, B⟩ := T; ⟨C, a, fd, h1, h2, h3, fnG_of F S hb, B⟩
theorem ck_of {c qual : Str} {st : Stmt} {N ps : List Str} {k : Nat} {b : Lks → Ev → Option Out} (T : TopI K mg c qual st ps) (S : FnScope N ps (defScope st))
    (hb : ∀ lk, SDs ⟨P, w, K, mg, base, N, defScope st, fun _ => true, k⟩ (defBody st) lk (b lk)) : Ck P w K mg base (k + 2) c ps (runD N.length ps.length b) :=
  let ⟨C, a, fd, h1, h2, F, B⟩ := T; ⟨C, a, fd, k + 1, h1, h2, Nat.le_refl _, fnG_of F S hb, B⟩
end
section
variable {Y : Fm} {ps : List Str} {n np i : Nat} {b : Lks → Ev → Option Out} {x c m : Str} {p px apos pos : Pos} {e : Expr} {es : List Expr} {fx : Ev → Option (List ArgV × Ev)}
theorem pd_makeC (G : Ck Y.prog Y.w Y.K Y.mgf Y.base Y.k x ps (runD n np b)) (hg : GlY Y x) (ha : PX Y (e :: es) fx) (hn : ps.length = np := by rfl)
    (hdb : (x == ("__debug__" : Str)) = false := by decide) (he : ∀ X : Cx, starEach (e :: es) X.env = (false, eval e X.env) :: starEach es X.env := by intro _; rfl) (hpl : ∀ X : Cx, (backTo pos (starEach es X.env)).any (·.1) = false := by intro _; rfl) :
    PD Y (.Call (.Name x p) (e :: es) [] pos) (eMake x (runD n np b) fx) := pd_make G hg ha hdb he hpl fun _ _ h => (runD_len h).trans hn.symm
theorem pd_methC (G : Cm Y.prog Y.w Y.K Y.mgf Y.base Y.k c m ps (runD n np b)) (hN : Y.N[i]? = some x) (hv : Vis Y.sc x) (ha : PX Y (e :: es) fx) (hn : ps.length = np := by rfl)
    (hd : (x == ("__debug__" : Str)) = false := by decide) (hcd : (x == ("__classdict__" : Str)) = false := by decide)
    (he : ∀ X : Cx, starEach (e :: es) X.env = (false, eval e X.env) :: starEach es X.env := by intro _; rfl) (hpl : ∀ X : Cx, (backTo pos (starEach es X.env)).any (·.1) = false := by intro _; rfl) {pl : Cx → Sem Bool}
    (ht : ∀ X : Cx, eval (.Call (.Attribute (.Name x px) m apos) (e :: es) [] pos) X.env = (do
      let ov ← eval (.Name x px) X.env
      standAt apos.atName
      let (f, first) ← holding [ov] (getMethod ov m (pl X))
      callWith pos f first (backTo pos (starEach (e :: es) X.env)) (backToKw pos (keywordEach [] X.env))) := by intro _; rfl) :
    PD Y (.Call (.Attribute (.Name x px) m apos) (e :: es) [] pos) (eMeth c m (runD n np b) i fx) := pd_meth G hN hv ha hd hcd he hpl (pl := pl) ht fun _ _ h => (runD_len h).trans hn.symm
/-- f() -/
theorem pd_call0C (G : Ca Y.prog Y.w Y.K Y.mgf Y.base Y.k x ps (runD n np b)) (hg : GlY Y x) (hn : ps.length = np := by rfl) (hdb : (x == ("__debug__" : Str)) = false := by decide) : PD Y (.Call (.Name x p) [] [] pos) (eCall (runD n np b) xNil) := by
  obtain ⟨a, fd, G, hm, hk, hB⟩ := G
  refine ⟨fun σ H Q => tNil σ H fun vs H1 => SpD Y.K Y.mg (runD n np b) ps.length vs H1 Q, fun X h => ⟨fun pins s σ H Q I hw => ?_⟩, call_core (fun _ _ h => (runD_len h).trans hn.symm) fun F H O σ E as E' e w s Q hQ => by cases e; exact hQ [] F H [] O Ext.refl w .nil s⟩
  exact wpAny_Call_Name_kw (ld_glob I (h.gl hg) (h.mgN hm) (PySem.W.callWith_K0 I.kIn (by rw [h.K]; exact hk) (run_g (us := []) h G hB I .nil hw)) hdb)
end
section
variable {K : PySem.W.Frag} {mg : Str → Option Value}
theorem topM_mk {c m qual : Str} {st : Stmt} {ps : List Str} {C f : Addr} {oc : Value} {od an : Option Addr} {osl : Array (Option Value)} {kV doc pm cdv ct : Value} (hc : mg c = some (.ref C)) (cl : Cls K C) (a : PySem.W.findIn K (.ref C) m = some (some (.ref f))) (i : PySem.W.isFn K (.ref f) = true)
    (l : K.lookup f = some ⟨oc, od, .func (PySem.W.fnOf m qual (defArgs st) (defBody st) (defScope st) .none kV doc pm an cdv ct), osl⟩) (cd : PySem.W.codeIn K cdv qual = true) (k : PySem.W.keepIn K (.ref f) = true)
    (h : ∀ (kV doc pm : Value) (an : Option Addr) (cdv ct : Value) (us : List Value), us.length = ps.length → bindArgs (PySem.W.fnOf m qual (defArgs st) (defBody st) (defScope st) .none kV doc pm an cdv ct) ⟨us, []⟩ = pure (ps.zip us)) : TopM K mg c m qual st ps :=
  have F := fun_mk l cd k
  ⟨C, f, _, hc, cl, ⟨a, i, k⟩, F, F.binds h⟩
theorem topI_mk {c qual : Str} {st : Stmt} {ps : List Str} {C f : Addr} {oc : Value} {od an : Option Addr} {osl : Array (Option Value)} {kV doc pm cdv ct : Value} (hc : mg c = some (.ref C)) (mk : PySem.W.makesIn K C = true) (kc : PySem.W.keepIn K (.ref C) = true) (a : PySem.W.findIn K (.ref C) "__init__" = some (some (.ref f))) (i : PySem.W.isFn K (.ref f) = true)
    (l : K.lookup f = some ⟨oc, od, .func (PySem.W.fnOf "__init__" qual (defArgs st) (defBody st) (defScope st) .none kV doc pm an cdv ct), osl⟩) (cd : PySem.W.codeIn K cdv qual = true) (k : PySem.W.keepIn K (.ref f) = true)
    (h : ∀ (kV doc pm : Value) (an : Option Addr) (cdv ct : Value) (us : List Value), us.length = ps.length → bindArgs (PySem.W.fnOf "__init__" qual (defArgs st) (defBody st) (defScope st) .none kV doc pm an cdv ct) ⟨us, []⟩ = pure (ps.zip us)) : TopI K mg c qual st ps :=
  have F := fun_mk l cd k
  ⟨C, f, _, hc, ⟨mk, a, i, kc⟩, F, F.binds h⟩
theorem at_mk {c f : Str} {C : Addr} (hc : mg c = some (.ref C)) (cl : Cls K C) (n : PySem.W.findIn K (.ref C) f = some none) : AtOk K mg c f := ⟨C, hc, cl, n⟩
end
end Dm

/-! what stands at a place as a value (frozen there from then on); an argument that is frozen on its way -/
namespace Dm
open PySem PySem.Spec L2
open PyProof.Rows hiding St
def eLn (l : Ln) : Ev → Option (D × Ev) := fun E => match l E with | some (d, put) => some (froz d, put (froz d)) | none => none
def eAlt (f g : Ev → Option (D × Ev)) : Ev → Option (D × Ev) := fun E => match f E with | some r => some r | none => g E
section
variable {Y : Fm} {e : Expr} {es : List Expr}
theorem pd_ln {l : Ln} (h : LN Y e l) : PD Y e (eLn l) := by
  obtain ⟨t, p, q⟩ := h
  refine ⟨t, p, fun F H O σ E d E' ec w s Q hQ => ?_⟩
  unfold eLn at ec
  split at ec
  · rename_i d0 put el
    cases ec
    refine q F H O [] σ E d0 put el w s _ fun v0 ⟨A0, r, wA, go⟩ => ?_
    have wA0 : Own F H A0 := by have z := wA; rw [List.append_nil] at z; exact z
    obtain ⟨O', s', w', x'⟩ := go (frz F H A0) H (froz d0) [] [] (by rw [List.append_nil]; exact frz_ext wA0) (Own.nil (frz_le wA0)) (r.freeze wA0)
    exact hQ v0 _ H [] O' x' w' (r.freeze wA0) s'
  · cases ec
theorem pd_alt {f g} (h1 : PD Y e f) (h2 : PD Y e g) : PD Y e (eAlt f g) := by
  obtain ⟨t1, p1, q1⟩ := h1
  obtain ⟨t2, p2, q2⟩ := h2
  refine ⟨fun σ H Q => t1 σ H Q ∨ t2 σ H Q, fun X h => ⟨fun pins s σ H Q I z => z.elim ((p1 X h).run pins s σ H Q I) ((p2 X h).run pins s σ H Q I)⟩, fun F H O σ E d E' ec w s Q hQ => ?_⟩
  unfold eAlt at ec
  split at ec
  · rename_i r er
    cases ec
    exact .inl (q1 F H O σ E d E' er w s Q hQ)
  · exact .inr (q2 F H O σ E d E' ec w s Q hQ)
def xValF (f : Ev → Option (D × Ev)) (g : Ev → Option (List ArgV × Ev)) : Ev → Option (List ArgV × Ev) := fun E => match f E with | some (d, E1) => (match g E1 with | some (as, E2) => some (.inr (froz d) :: as, E2) | none => none) | none => none
theorem px_valF {f g} (h : PD Y e f) (h' : PX Y es g) (hs : ∀ X : Cx, starEach (e :: es) X.env = (false, eval e X.env) :: starEach es X.env := by intro _; rfl) : PX Y (e :: es) (xValF f g) := by
  obtain ⟨_, p, q⟩ := h
  obtain ⟨_, p', q'⟩ := h'
  refine ⟨_, fun X h => pa_cons (p X h) (p' X h) (hs X), fun F H O σ E as E' e w s Q hQ => ?_⟩
  unfold xValF at e
  split at e
  · rename_i d E1 ed
    split at e
    · rename_i as' E2 eg
      cases e
      refine q F H O σ E d E1 ed w s _ fun v F1 H1 A O1 x1 w1 r1 s1 => ?_
      obtain ⟨x3, w2, s2⟩ := frz_walk w1 s1
      have r2 := r1.freeze w1.left
      refine q' _ H1 O1 σ E1 as' _ eg w2 s2 _ fun vs F2 H2 B O2 x2 w3 r3 s3 => ?_
      exact hQ (v :: vs) F2 H2 B O2 ((x1.trans x3).trans x2) w3 (.temp (A1 := []) (r2.ext x2 fun _ m => by cases m) r3) s3
    · cases e
  · cases e
end
end Dm

/-! helps for the plain mathematics: dicts with typed keys -/
namespace Dm
open PySem
/-- keys of one kind -/
def Kc {α : Type} (enc : α → D) : Prop := (∃ f : α → L2.Key, (∀ a b, f a = f b → a = b) ∧ ∀ a, keyK (enc a) = some (f a)) ∨ (∃ f : α → NestedKey, (∀ a b, f a = f b → a = b) ∧ ∀ a, keyT (enc a) = some (f a))
section
variable {α κ : Type} [DecidableEq α] [DecidableEq κ] {enc : α → D}
theorem keysK_map {f : α → L2.Key} (h : ∀ a, keyK (enc a) = some (f a)) : ∀ as : List α, keysK (as.map enc) = some (as.map f)
  | [] => rfl
  | a :: as => by
    rw [List.map_cons, List.map_cons]
    unfold keysK
    rw [h, keysK_map h as]
theorem keysT_map {f : α → NestedKey} (h : ∀ a, keyT (enc a) = some (f a)) : ∀ as : List α, keysT (as.map enc) = some (as.map f)
  | [] => rfl
  | a :: as => by
    rw [List.map_cons, List.map_cons]
    unfold keysT
    rw [h, keysT_map h as]
theorem lookK_map {f : α → κ} (inj : ∀ a b, f a = f b → a = b) (a : α) : ∀ (as : List α) (ds : List D), lookK (as.map f) ds (f a) = lookK as ds a
  | [], _ => by simp [lookK]
  | x :: as, [] => by simp [lookK]
  | x :: as, d :: ds => by
    rw [List.map_cons]
    unfold lookK
    by_cases h : x = a
    · rw [if_pos h, if_pos (congrArg f h)]
    · rw [if_neg h, if_neg fun e => h (inj _ _ e), lookK_map inj a as ds]
theorem ixOf_map {f : α → κ} (inj : ∀ a b, f a = f b → a = b) (a : α) : ∀ (as : List α), ixOf (as.map f) (f a) = ixOf as a
  | [] => rfl
  | x :: as => by
    rw [List.map_cons]
    unfold ixOf
    by_cases h : x = a
    · rw [if_pos h, if_pos (congrArg f h)]
    · rw [if_neg h, if_neg fun e => h (inj _ _ e), ixOf_map inj a as]
theorem keyT_K {d : D} {k : NestedKey} (h : keyT d = some k) : keyK d = none := by
  obtain ⟨_, _, xs, e⟩ := keyT_some h
  subst e
  rfl
theorem dGet_typed (k : Kc enc) (as : List α) (ds : List D) (a : α) : dGet (as.map enc) ds (enc a) = some (lookK as ds a) := by
  unfold dGet
  rcases k with ⟨f, inj, h⟩ | ⟨f, inj, h⟩
  · rw [h]
    show (match keysK (as.map enc) with | some xs => some (lookK xs ds (f a)) | none => none) = _
    rw [keysK_map h]
    exact congrArg some (lookK_map inj a as ds)
  · rw [keyT_K (h a)]
    show (match keyT (enc a) with | some x => _ | none => _) = _
    rw [h]
    show (match keysT (as.map enc) with | some xs => some (lookK xs ds (f a)) | none => none) = _
    rw [keysT_map h]
    exact congrArg some (lookK_map inj a as ds)
theorem dPut_typed (k : Kc enc) (as : List α) (ds : List D) (a : α) (d : D) (hz : ds.length < sizeLine) : dPut (as.map enc) ds (enc a) d = some (match ixOf as a with | some j => (as.map enc, ds.set j d) | none => ((as ++ [a]).map enc, ds ++ [d])) := by
  unfold dPut
  rcases k with ⟨f, inj, h⟩ | ⟨f, inj, h⟩
  · rw [h]
    show (match keysK (as.map enc) with | some xs => dPutG xs (as.map enc) ds (f a) (enc a) d | none => none) = _
    rw [keysK_map h]
    show dPutG (as.map f) (as.map enc) ds (f a) (enc a) d = _
    unfold dPutG
    rw [if_pos hz, ixOf_map inj a as, List.map_append]
    cases ixOf as a <;> rfl
  · rw [keyT_K (h a)]
    show (match keyT (enc a) with | some x => _ | none => _) = _
    rw [h]
    show (match keysT (as.map enc) with | some xs => dPutG xs (as.map enc) ds (f a) (enc a) d | none => none) = _
    rw [keysT_map h]
    show dPutG (as.map f) (as.map enc) ds (f a) (enc a) d = _
    unfold dPutG
    rw [if_pos hz, ixOf_map inj a as, List.map_append]
    cases ixOf as a <;> rfl
/-- a dict with typed keys -/
def dicT (enc : α → D) (o : Bool) (as : List α) (ds : List D) : D := .dic o (as.map enc) ds
theorem ixOf_mem : ∀ {as : List α} {a : α}, a ∈ as → ∃ j, ixOf as a = some j
  | x :: as, a, m => by
    unfold ixOf
    by_cases h : x = a
    · exact ⟨0, by rw [if_pos h]⟩
    · obtain ⟨j, e⟩ := ixOf_mem ((List.mem_cons.mp m).resolve_left fun e => h e.symm)
      exact ⟨j + 1, by rw [if_neg h, e]; rfl⟩
theorem lookK_at : ∀ {as : List α} {ds : List D} {a : α} {j : Nat}, ixOf as a = some j → lookK as ds a = ds[j]?
  | [], _, _, _, e => by simp [ixOf] at e
  | x :: as, [], a, j, e => by simp [lookK]
  | x :: as, d :: ds, a, j, e => by
    unfold ixOf at e
    unfold lookK
    by_cases h : x = a
    · rw [if_pos h] at e ⊢; cases e; rfl
    · rw [if_neg h] at e ⊢
      obtain ⟨i, h1, h2⟩ := Option.map_eq_some_iff.mp e
      subst h2
      rw [lookK_at h1]; rfl
theorem lookK_not : ∀ {as : List α} {ds : List D} {a : α}, a ∉ as → lookK as ds a = none
  | [], _, _, _ => by simp [lookK]
  | x :: as, [], a, _ => by simp [lookK]
  | x :: as, d :: ds, a, n => by
    rw [List.mem_cons, not_or] at n
    unfold lookK
    rw [if_neg fun e => n.1 e.symm, lookK_not n.2]
theorem opIx_dic (k : Kc enc) (o : Bool) (as : List α) (ds : List D) (a : α) : opIx (dicT enc o as ds) (enc a) = lookK as ds a := by
  show (match dGet (as.map enc) ds (enc a) with | some o => o | none => none) = _
  rw [dGet_typed k]
theorem opIx_dicE (o : Bool) (ks ds : List D) (d : D) : opIx (.dic o ks ds) d = (match dGet ks ds d with | some o => o | none => none) := by
  unfold opIx
  cases d <;> rfl
theorem opNotIn_dic (k : Kc enc) (o : Bool) (as : List α) (ds : List D) (a : α) (hl : ds.length = as.length) : opNotIn (enc a) (dicT enc o as ds) = some (.bl (decide (a ∉ as))) := by
  have e : opNotIn (enc a) (dicT enc o as ds) = (dGet (as.map enc) ds (enc a)).map fun o => D.bl (!o.isSome) := by
    unfold dicT opNotIn
    cases enc a <;> rfl
  rw [e, dGet_typed k]
  show some (D.bl (!(lookK as ds a).isSome)) = _
  by_cases m : a ∈ as
  · obtain ⟨j, ej⟩ := ixOf_mem m
    have hj := ixOf_lt ej
    rw [decide_eq_false (fun n => n m)]
    rw [lookK_at ej, List.getElem?_eq_getElem (by omega)]
    rfl
  · rw [decide_eq_true m]
    rw [lookK_not m]
    rfl
theorem opIn_dic (k : Kc enc) (o : Bool) (as : List α) (ds : List D) (a : α) (hl : ds.length = as.length) : opIn (enc a) (dicT enc o as ds) = some (.bl (decide (a ∈ as))) := by
  have e : opIn (enc a) (dicT enc o as ds) = (dGet (as.map enc) ds (enc a)).map fun o => D.bl o.isSome := by
    unfold dicT opIn
    cases enc a <;> rfl
  rw [e, dGet_typed k]
  show some (D.bl (lookK as ds a).isSome) = _
  by_cases m : a ∈ as
  · obtain ⟨j, ej⟩ := ixOf_mem m
    have hj := ixOf_lt ej
    rw [decide_eq_true m]
    rw [lookK_at ej, List.getElem?_eq_getElem (by omega)]
    rfl
  · rw [decide_eq_false m]
    rw [lookK_not m]
    rfl
theorem opGet2_dic (k : Kc enc) (o : Bool) (as : List α) (ds : List D) (a : α) (z : D) : opGet (dicT enc o as ds) [enc a, z] = some ((lookK as ds a).getD z) := by
  show (match dGet (as.map enc) ds (enc a) with | some o => some (o.getD z) | none => none) = _
  rw [dGet_typed k]
/-- one more key, or the value of one there -/
def putT (as : List α) (ds : List D) (a : α) (d : D) : List α × List D := match ixOf as a with | some j => (as, ds.set j d) | none => (as ++ [a], ds ++ [d])
theorem setC_dic (k : Kc enc) (as : List α) (ds : List D) (a : α) (d : D) (hz : ds.length < sizeLine) : setC (dicT enc true as ds) (enc a) d = some (dicT enc true (putT as ds a d).1 (putT as ds a d).2) := by
  show ((dPut (as.map enc) ds (enc a) d).map fun p => D.dic true p.1 p.2) = _
  rw [dPut_typed k as ds a d hz]
  unfold putT
  cases ixOf as a <;> rfl
theorem putT_new {as : List α} {ds : List D} {a : α} {d : D} (n : a ∉ as) : putT as ds a d = (as ++ [a], ds ++ [d]) := by
  unfold putT
  rw [ixOf_none.mpr n]
end
theorem kc_str : Kc (D.str) := .inl ⟨Sum.inr, fun _ _ e => Sum.inr.inj e, fun _ => rfl⟩
theorem kc_int : Kc (D.int) := .inl ⟨Sum.inl, fun _ _ e => Sum.inl.inj e, fun _ => rfl⟩
end Dm

/-! helps for the plain mathematics: places, instances, dict comprehensions -/
namespace Dm
open PySem
section
variable {E E1 E2 : Ev} {i j : Nat} {k : Int} {d c c' x : D} {l : Ln} {put : D → Ev} {xs xs' ds vs os : List D} {fs cs : List Str} {f : Str} {o : Bool}
theorem lnVar_of (h : E[i]? = some (some d)) : lnVar i E = some (d, fun d' => E.set i (some d')) := by unfold lnVar; rw [h]
theorem lnIx_of (h : l E = some (.tup xs, put)) (hk : L2.ixN xs.length k = some j) (hd : xs[j]? = some d) : lnIx k l E = some (d, fun d' => put (.tup (xs.set j d'))) := by
  unfold lnIx
  rw [h]
  show (match L2.ixN xs.length k with | some j => (match xs[j]? with | some d => some (d, fun d' => put (.tup (xs.set j d'))) | none => none) | none => none) = _
  rw [hk]
  show (match xs[j]? with | some d => some (d, fun d' => put (.tup (xs.set j d'))) | none => none) = _
  rw [hd]
theorem lnAt_of {cn : Str} (h : l E = some (.ins true cn fs vs, put)) (hc : cn ∈ cs) (hj : ixOf fs f = some j) (hd : vs[j]? = some d) : lnAt cs f l E = some (d, fun d' => put (.ins true cn fs (vs.set j d'))) := by
  unfold lnAt
  rw [h]
  show (if cn ∈ cs then (match ixOf fs f with | some j => (match vs[j]? with | some d => some (d, fun d' => put (.ins true cn fs (vs.set j d'))) | none => none) | none => none) else none) = _
  rw [if_pos hc, hj]
  show (match vs[j]? with | some d => some (d, fun d' => put (.ins true cn fs (vs.set j d'))) | none => none) = _
  rw [hd]
theorem gdPut_of {fi : Ev → Option D} (h : l E = some (c, put)) (hk : fi E = some x) (hs : setC c x d = some c') : gdPut l fi d E = some (put c') := by
  unfold gdPut
  rw [h]
  show (match fi E with | some k => (match setC c k d with | some c' => some (put c') | none => none) | none => none) = _
  rw [hk]
  show (match setC c x d with | some c' => some (put c') | none => none) = _
  rw [hs]
theorem eMtL_of {op : List D → List D → Option (D × List D)} {g : Ev → Option (List D)} (h : l E = some (.lst true xs, put)) (hg : g E = some ds) (hz : isFzL ds = true) (ho : op xs ds = some (d, xs')) : eMtL l op g E = some (d, put (.lst true xs')) := by
  unfold eMtL
  rw [h]
  show (match g E with | some ds => (if isFzL ds = true then (match op xs ds with | some (d, xs') => some (d, put (.lst true xs')) | none => none) else none) | none => none) = _
  rw [hg]
  show (if isFzL ds = true then (match op xs ds with | some (d, xs') => some (d, put (.lst true xs')) | none => none) else none) = _
  rw [if_pos hz, ho]
theorem qAt_of {g : Ev → Option D} {cn : Str} (h : g E = some (.ins o cn fs vs)) (hc : cn ∈ cs) (hl : lookK fs vs f = some d) : qAt cs f g E = some d := by
  unfold qAt
  rw [h]
  show (if cn ∈ cs then lookK fs vs f else none) = _
  rw [if_pos hc, hl]
theorem eLn_of (h : l E = some (d, put)) : eLn l E = some (froz d, put (froz d)) := by unfold eLn; rw [h]
theorem eAlt_1 {f1 f2 : Ev → Option (D × Ev)} {r : D × Ev} (h : f1 E = some r) : eAlt f1 f2 E = some r := by unfold eAlt; rw [h]
theorem eAlt_2 {f1 f2 : Ev → Option (D × Ev)} (h : f1 E = none) : eAlt f1 f2 E = f2 E := by unfold eAlt; rw [h]
theorem xValF_of {f : Ev → Option (D × Ev)} {g : Ev → Option (List ArgV × Ev)} {as : List ArgV} (h : f E = some (d, E1)) (h2 : g E1 = some (as, E2)) : xValF f g E = some (.inr (froz d) :: as, E2) := by
  unfold xValF
  rw [h]
  show (match g E1 with | some (as, E2) => some (Sum.inr (froz d) :: as, E2) | none => none) = _
  rw [h2]
theorem eMeth_of {cn m : Str} {g : Fs} {fx : Ev → Option (List ArgV × Ev)} (h : E[i]? = some (some (.ins o cn fs vs))) (hm : m ∉ fs) : eMeth cn m g i fx E = eCall g (xSlot i fx) E := by
  unfold eMeth
  rw [h]
  exact if_pos ⟨rfl, hm⟩
theorem eMake_of {cn : Str} {g : Fs} {fx : Ev → Option (List ArgV × Ev)} {as : List ArgV} (h : fx E = some (as, E1)) (h2 : gather as E1 = some (ds, E2)) (h3 : g (.ins true cn [] [] :: ds) = some (.non, d :: os)) : eMake cn g fx E = some (d, putBack as os E2) := by
  unfold eMake
  rw [h]
  show (match gather as E1 with | some (ds, E2) => (match g (.ins true cn [] [] :: ds) with | some (.non, d :: outs) => some (d, putBack as outs E2) | _ => none) | none => none) = _
  rw [h2]
  show (match g (.ins true cn [] [] :: ds) with | some (.non, d :: outs) => some (d, putBack as outs E2) | _ => none) = _
  rw [h3]
theorem sSetAt_of {g : Ev → Option (D × Ev)} (h : g E = some (d, E1)) (hl : l E1 = some (c, put)) (hs : setF cs f d c = some c') : sSetAt l cs f g E = some (.nx (put c')) := by
  unfold sSetAt
  rw [h]
  show (match l E1 with | some (c, put) => (match setF cs f d c with | some c' => some (Out.nx (put c')) | none => none) | none => none) = _
  rw [hl]
  show (match setF cs f d c with | some c' => some (Out.nx (put c')) | none => none) = _
  rw [hs]
theorem setF_new {cn : Str} (hc : cn ∈ cs) (hl : fs.length < 1000) (hn : ixOf fs f = none) : setF cs f d (.ins true cn fs vs) = some (.ins true cn (fs ++ [f]) (vs ++ [d])) := by
  show (if cn ∈ cs ∧ fs.length < 1000 then some (match ixOf fs f with | some j => D.ins true cn fs (vs.set j d) | none => .ins true cn (fs ++ [f]) (vs ++ [d])) else none) = _
  rw [if_pos ⟨hc, hl⟩, hn]
theorem setF_old {cn : Str} (hc : cn ∈ cs) (hl : fs.length < 1000) (hn : ixOf fs f = some j) : setF cs f d (.ins true cn fs vs) = some (.ins true cn fs (vs.set j d)) := by
  show (if cn ∈ cs ∧ fs.length < 1000 then some (match ixOf fs f with | some j => D.ins true cn fs (vs.set j d) | none => .ins true cn (fs ++ [f]) (vs ++ [d])) else none) = _
  rw [if_pos ⟨hc, hl⟩, hn]
end
/-! dict comprehensions over typed lists, without lasting changes -/
def putsT {κ : Type} [DecidableEq κ] : List (κ × D) → List κ × List D → List κ × List D
  | [], r => r
  | (k, d) :: ts, r => putsT ts (putT r.1 r.2 k d)
theorem putT_le {κ : Type} [DecidableEq κ] (as : List κ) (ds : List D) (a : κ) (d : D) : (putT as ds a d).2.length ≤ ds.length + 1 := by
  unfold putT
  cases ixOf as a with
  | some j => show (ds.set j d).length ≤ _; rw [List.length_set]; omega
  | none => show (ds ++ [d]).length ≤ _; rw [List.length_append]; exact Nat.le_refl _
theorem dcompL_typed {α κ : Type} [DecidableEq κ] {own : List Nat} {g : D → Ev → Option Ev} {tt : Ev → Option (Bool × Ev)} {fk : Ev → Option D} {fv : Ev → Option (D × Ev)} {ek : κ → D} (kc : Kc ek) (enc : α → D) (b : α → Bool) (y : α → κ) (z : α → D) {E0 : Ev} : ∀ (ts : List α) (as : List κ) (ds : List D),
    ds.length + ts.length ≤ sizeLine →
    (∀ t ∈ ts, ∃ E1 E2, g (enc t) E0 = some E1 ∧ tt E1 = some (b t, E2) ∧ (b t = false → wipeE E2 own = E0) ∧ (b t = true → ∃ E3, fk E2 = some (ek (y t)) ∧ fv E2 = some (z t, E3) ∧ wipeE E3 own = E0)) →
    dcompL own g tt fk fv (ts.map enc) E0 (as.map ek, ds) = some (((putsT ((ts.filter b).map fun t => (y t, z t)) (as, ds)).1.map ek, (putsT ((ts.filter b).map fun t => (y t, z t)) (as, ds)).2), E0)
  | [], _, _, _, _ => rfl
  | t :: ts, as, ds, hz, h => by
    obtain ⟨E1, E2, h1, h2, h3, h4⟩ := h t List.mem_cons_self
    rw [List.length_cons] at hz
    rw [List.map_cons, dcompL, h1]
    show (match tt E1 with | some (false, E2) => _ | some (true, E2) => _ | none => _) = _
    rw [h2]
    cases hb : b t with
    | false =>
      show dcompL own g tt fk fv (ts.map enc) (wipeE E2 own) (as.map ek, ds) = _
      rw [h3 hb, dcompL_typed kc enc b y z ts as ds (by omega) fun t m => h t (List.mem_cons_of_mem _ m), List.filter_cons_of_neg (by rw [hb]; exact Bool.false_ne_true)]
    | true =>
      obtain ⟨E3, h5, h6, h7⟩ := h4 hb
      show (match fk E2 with | some k => (match fv E2 with | some (d, E3) => (match dPut (as.map ek) ds k d with | some kd' => dcompL own g tt fk fv (ts.map enc) (wipeE E3 own) kd' | none => none) | none => none) | none => none) = _
      rw [h5]
      show (match fv E2 with | some (d, E3) => (match dPut (as.map ek) ds (ek (y t)) d with | some kd' => dcompL own g tt fk fv (ts.map enc) (wipeE E3 own) kd' | none => none) | none => none) = _
      rw [h6]
      show (match dPut (as.map ek) ds (ek (y t)) (z t) with | some kd' => dcompL own g tt fk fv (ts.map enc) (wipeE E3 own) kd' | none => none) = _
      have e : dPut (as.map ek) ds (ek (y t)) (z t) = some ((putT as ds (y t) (z t)).1.map ek, (putT as ds (y t) (z t)).2) := by
        rw [dPut_typed kc as ds (y t) (z t) (by omega)]
        unfold putT
        cases ixOf as (y t) <;> rfl
      rw [e]
      show dcompL own g tt fk fv (ts.map enc) (wipeE E3 own) ((putT as ds (y t) (z t)).1.map ek, (putT as ds (y t) (z t)).2) = _
      have le := putT_le as ds (y t) (z t)
      rw [h7, dcompL_typed kc enc b y z ts _ _ (by omega) fun t m => h t (List.mem_cons_of_mem _ m), List.filter_cons_of_pos hb, List.map_cons]
      rfl
theorem eDComp_typed {α κ : Type} [DecidableEq κ] {own : List Nat} {fi : Ev → Option (List D × Ev)} {g : D → Ev → Option Ev} {tt : Ev → Option (Bool × Ev)} {fk : Ev → Option D} {fv : Ev → Option (D × Ev)} {ek : κ → D} (kc : Kc ek) (enc : α → D) (b : α → Bool) (y : α → κ) (z : α → D) (ts : List α) {E E1 E0 E' : Ev}
    (hi : fi E = some (ts.map enc, E1)) (ho : ownFz E1 own = true) (hw : wipeE E1 own = E0) (hb : backE E1 E0 own = E') (hl : ts.length ≤ 5000)
    (h : ∀ t ∈ ts, ∃ E1 E2, g (enc t) E0 = some E1 ∧ tt E1 = some (b t, E2) ∧ (b t = false → wipeE E2 own = E0) ∧ (b t = true → ∃ E3, fk E2 = some (ek (y t)) ∧ fv E2 = some (z t, E3) ∧ wipeE E3 own = E0)) :
    eDComp own fi g tt fk fv E = some (dicT ek true (putsT ((ts.filter b).map fun t => (y t, z t)) ([], [])).1 (putsT ((ts.filter b).map fun t => (y t, z t)) ([], [])).2, E') := by
  have q := dcompL_typed kc enc b y z (g := g) (tt := tt) (fk := fk) (fv := fv) (own := own) (E0 := E0) ts [] [] (by rw [List.length_nil, Nat.zero_add]; exact Nat.le_trans hl (by decide)) h
  unfold eDComp
  rw [hi]
  show (if ownFz E1 own = true then (match dcompL own g tt fk fv (ts.map enc) (wipeE E1 own) ([], []) with | some (kd, E2) => some (D.dic true kd.1 kd.2, backE E1 E2 own) | none => none) else none) = _
  rw [if_pos ho, hw]
  rw [show (([], []) : List D × List D) = (([] : List κ).map ek, []) from rfl, q]
  show some (D.dic true _ _, backE E1 E0 own) = _
  rw [hb]
  rfl
end Dm

namespace K31
open PySem PySem.Spec L2 Dm
open PyProof.Rows hiding St
def topS (i : Nat) : Stmt := PySem.Challenge.pw_nocheaper_k31_whole_one_term_in_every_wo.main.body.getD i (.Pass ⟨0, 0, 0, 0⟩)
structure NoB (K : PySem.W.Frag) (mg : Str → Option Value) : Prop where
  b_abs : mg "abs" = none
  b_all : mg "all" = none
  b_bool : mg "bool" = none
  b_dict : mg "dict" = none
  b_enumerate : mg "enumerate" = none
  b_int : mg "int" = none
  b_isinstance : mg "isinstance" = none
  b_len : mg "len" = none
  b_list : mg "list" = none
  b_max : mg "max" = none
  b_range : mg "range" = none
  b_repr : mg "repr" = none
  b_sorted : mg "sorted" = none
  b_str : mg "str" = none
  b_tuple : mg "tuple" = none
  c_MODULUS : Cst mg "MODULUS" (.int 1000003)
  c_SIGNS : Cst mg "SIGNS" (.str "0123456789abcdefghijklmnopqrstuvwxyz")
  c_HALF : Cst mg "HALF" (.int 500000)
  a_World_signs : AtOk K mg "World" "signs"
  a_World_meaning : AtOk K mg "World" "meaning"
  a_World_reads : AtOk K mg "World" "reads"
  a_World_answers : AtOk K mg "World" "answers"
  a_World_swaps : AtOk K mg "World" "swaps"
  a_World_table : AtOk K mg "World" "table"
  a_Terms_its_signs : AtOk K mg "Terms" "its_signs"
  a_Terms_its_heads : AtOk K mg "Terms" "its_heads"
  a_Terms_its_numbers : AtOk K mg "Terms" "its_numbers"
  a_Terms_its_heights : AtOk K mg "Terms" "its_heights"
/-! _law_bag -/
abbrev s__law_bag : Stmt := topS 22
theorem sc__law_bag : FnScope ["script", "cell"] ["script"] (defScope s__law_bag) := ⟨rfl, rfl, rfl, by decide +kernel, rfl, by decide +kernel, by decide +kernel⟩
def b__law_bag (lk : Lks) : Ev → Option Out := (sRet (eLst (eCons (eOf (qC (.int 0))) (eCons (eOf (qC (.int 1234567891))) (eCons (eOf (qC (.int 0))) (eCons (eComp [1] (iSeq (nSl (qVar 0) qNo (qPart (qC (.int 63))))) (gdName 1) dYes (n1L opAbs (qCons (qVar 1) qNil))) eNil))))))
abbrev g__law_bag : Fs := runD 2 1 b__law_bag
theorem ok__law_bag {P : Program} {w : World} {K : PySem.W.Frag} {mg : Str → Option Value} {base : Heap} (nb : NoB K mg) (T : Top K mg "_law_bag" s__law_bag ["script"])  : Ca P w K mg base 1 "_law_bag" ["script"] g__law_bag :=
  ca_of (k := 0) T sc__law_bag fun lk => (sd_one (sd_ret (pd_lst (da_cons (pd_of pq_int) (da_cons (pd_of pq_int) (da_cons (pd_of pq_int) (da_cons (pd_comp (own := [("cell", 1)]) (ts := [1]) sc__law_bag.nd (id_seq (pn_sl (pq_var (i := 0) (by rfl) (.inl (by kernel_rfl))) qo_none (qo_some pq_int))) (blk_mk (by kernel_rfl)) (gd_name (i := 1) sc__law_bag.nd (by rfl) (.inl (by kernel_rfl)) (hf := .inr (by kernel_rfl))) ts_nil (pn_callB cy_abs ok_abs (by kernel_rfl) nb.b_abs bb_abs (qa_cons (pq_var (i := 1) (by rfl) (.inl (by kernel_rfl))) qa_nil)) (by decide) (by decide)) da_nil)))))))
/-! _law_take -/
abbrev s__law_take : Stmt := topS 23
theorem sc__law_take : FnScope ["bag", "many", "cell", "stirred", "value", "begin", "second"] ["bag", "many"] (defScope s__law_take) := ⟨rfl, rfl, rfl, by decide +kernel, rfl, by decide +kernel, by decide +kernel⟩
def b__law_take (lk : Lks) : Ev → Option Out := (sSeq (sIf (tOfQ (tqf (q2f opEq (q2f opIx (qVar 0) (qC (.int 0))) (qC (.int 0))))) (sSeq (sAsg lk [2] (eOf (q2f opIx (q2f opAdd (qSl (q2f opIx (qVar 0) (qC (.int 3))) (qPart (q2f opIx (qVar 0) (qC (.int 2)))) qNo) (qLst (qCons (qC (.int 0)) qNil))) (qC (.int 0)))) (gdName 2))
  (sSeq (sAugIx 0 opIAdd (qC (.int 2)) (qC (.int 1)))
  (sSeq (sIf (tOfQ (tqf (q2f opGe (qVar 2) (q2f opPow (qC (.int 10)) (qC (.int 18)))))) (sAsg lk [] (eVar 2) (gdPut (lnVar 0) (qC (.int 0)))) sNil)
  (sSeq (sAsg lk [3] (n2f opAdd (q2f opAdd (q2f opMul (q2f opIx (qVar 0) (qC (.int 1))) (qC (.int 48271))) (q2f opMod (q1L opInt (qCons (qVar 2) qNil)) (qC (.int 2147483647)))) (q2f opMul (qC (.int 7919)) (q2f opIx (qVar 0) (qC (.int 2))))) (gdName 3))
  (sAsg lk [] (n2f opMod (q1L opInt (qCons (qVar 3) qNil)) (qC (.int 2147483647))) (gdPut (lnVar 0) (qC (.int 1)))))))) sNil)
  (sSeq (sIf (tOfQ (tqf (q2f opGt (q2f opIx (qVar 0) (qC (.int 0))) (qC (.int 0))))) (sSeq (sAsg lk [4] (n2f opMod (q1L opInt (qCons (q2f opIx (qVar 0) (qC (.int 0))) qNil)) (qVar 1)) (gdName 4))
  (sSeq (sAsg lk [] (n2f opFDiv (q1L opInt (qCons (q2f opIx (qVar 0) (qC (.int 0))) qNil)) (qVar 1)) (gdPut (lnVar 0) (qC (.int 0))))
  (sRetV lk 4))) sNil)
  (sSeq (sAsg lk [5] (n2f opMod (q1L opInt (qCons (q2f opMul (q2f opAdd (q2f opIx (qVar 0) (qC (.int 1))) (qC (.int 1))) (qC (.int 39373))) qNil)) (qC (.int 1000000007))) (gdName 5))
  (sSeq (sAsg lk [6] (n2f opMod (q1L opInt (qCons (q2f opMul (q2f opMod (q1L opInt (qCons (q2f opMul (qVar 5) (qVar 5)) qNil)) (qC (.int 998244353))) (qC (.int 30011))) qNil)) (qC (.int 998244353))) (gdName 6))
  (sRet (n2f opMod (q1L opInt (qCons (q2f opFDiv (qVar 6) (qC (.int 7))) qNil)) (qVar 1)))))))
abbrev g__law_take : Fs := runD 7 2 b__law_take
theorem ok__law_take {P : Program} {w : World} {K : PySem.W.Frag} {mg : Str → Option Value} {base : Heap} (nb : NoB K mg) (T : Top K mg "_law_take" s__law_take ["bag", "many"])  : Ca P w K mg base 1 "_law_take" ["bag", "many"] g__law_take :=
  ca_of (k := 0) T sc__law_take fun lk => (sd_cons (sd_if (td_of (tq_cmp oy_eq ok_eq (pq_ix (pq_var (i := 0) (by rfl) (.inl (by kernel_rfl))) pq_int) pq_int (nomark _))) (sd_cons (sd_set (i := 2) sc__law_take.nd (by rfl) (.inl (by kernel_rfl)) (pd_of (pq_ix (pq_bin oy_add ok_add (pq_sl (pq_ix (pq_var (i := 0) (by rfl) (.inl (by kernel_rfl))) pq_int) (qo_some (pq_ix (pq_var (i := 0) (by rfl) (.inl (by kernel_rfl))) pq_int)) qo_none) (pq_lst (qa_cons pq_int qa_nil))) pq_int)) (hf := .inl rfl))
    (sd_cons (sd_augIx (i := 0) oy_iadd ok_iadd (by rfl) (.inl (by kernel_rfl)) pq_int pq_int)
    (sd_cons (sd_if (td_of (tq_cmp oy_ge ok_ge (pq_var (i := 2) (by rfl) (.inl (by kernel_rfl))) (pq_bin oy_pow ok_pow pq_int pq_int) (nomark _))) (sd_one (sd_asg (ts := []) (pd_var (i := 2) (by rfl) (.inl (by kernel_rfl))) (gd_put (ln_var (i := 0) (by rfl) (.inl (by kernel_rfl))) pq_int))) sd_nil)
    (sd_cons (sd_set (i := 3) sc__law_take.nd (by rfl) (.inl (by kernel_rfl)) (pn_bin oy_add ok_add (pq_bin oy_add ok_add (pq_bin oy_mul ok_mul (pq_ix (pq_var (i := 0) (by rfl) (.inl (by kernel_rfl))) pq_int) pq_int) (pq_bin oy_mod ok_mod (pq_callT cy_int ok_int (by kernel_rfl) nb.b_int bb_int (qa_cons (pq_var (i := 2) (by rfl) (.inl (by kernel_rfl))) qa_nil)) pq_int)) (pq_bin oy_mul ok_mul pq_int (pq_ix (pq_var (i := 0) (by rfl) (.inl (by kernel_rfl))) pq_int))) (hf := .inl rfl))
    (sd_one (sd_asg (ts := []) (pn_bin oy_mod ok_mod (pq_callT cy_int ok_int (by kernel_rfl) nb.b_int bb_int (qa_cons (pq_var (i := 3) (by rfl) (.inl (by kernel_rfl))) qa_nil)) pq_int) (gd_put (ln_var (i := 0) (by rfl) (.inl (by kernel_rfl))) pq_int))))))) sd_nil)
    (sd_cons (sd_if (td_of (tq_cmp oy_gt ok_gt (pq_ix (pq_var (i := 0) (by rfl) (.inl (by kernel_rfl))) pq_int) pq_int (nomark _))) (sd_cons (sd_set (i := 4) sc__law_take.nd (by rfl) (.inl (by kernel_rfl)) (pn_bin oy_mod ok_mod (pq_callT cy_int ok_int (by kernel_rfl) nb.b_int bb_int (qa_cons (pq_ix (pq_var (i := 0) (by rfl) (.inl (by kernel_rfl))) pq_int) qa_nil)) (pq_var (i := 1) (by rfl) (.inl (by kernel_rfl)))) (hf := .inl rfl))
    (sd_cons (sd_asg (ts := []) (pn_bin oy_fdiv ok_fdiv (pq_callT cy_int ok_int (by kernel_rfl) nb.b_int bb_int (qa_cons (pq_ix (pq_var (i := 0) (by rfl) (.inl (by kernel_rfl))) pq_int) qa_nil)) (pq_var (i := 1) (by rfl) (.inl (by kernel_rfl)))) (gd_put (ln_var (i := 0) (by rfl) (.inl (by kernel_rfl))) pq_int))
    (sd_one (sd_retV (i := 4) (by rfl) (.inl (by kernel_rfl)))))) sd_nil)
    (sd_cons (sd_set (i := 5) sc__law_take.nd (by rfl) (.inl (by kernel_rfl)) (pn_bin oy_mod ok_mod (pq_callT cy_int ok_int (by kernel_rfl) nb.b_int bb_int (qa_cons (pq_bin oy_mul ok_mul (pq_bin oy_add ok_add (pq_ix (pq_var (i := 0) (by rfl) (.inl (by kernel_rfl))) pq_int) pq_int) pq_int) qa_nil)) pq_int) (hf := .inl rfl))
    (sd_cons (sd_set (i := 6) sc__law_take.nd (by rfl) (.inl (by kernel_rfl)) (pn_bin oy_mod ok_mod (pq_callT cy_int ok_int (by kernel_rfl) nb.b_int bb_int (qa_cons (pq_bin oy_mul ok_mul (pq_bin oy_mod ok_mod (pq_callT cy_int ok_int (by kernel_rfl) nb.b_int bb_int (qa_cons (pq_bin oy_mul ok_mul (pq_var (i := 5) (by rfl) (.inl (by kernel_rfl))) (pq_var (i := 5) (by rfl) (.inl (by kernel_rfl)))) qa_nil)) pq_int) pq_int) qa_nil)) pq_int) (hf := .inl rfl))
    (sd_one (sd_ret (pn_bin oy_mod ok_mod (pq_callT cy_int ok_int (by kernel_rfl) nb.b_int bb_int (qa_cons (pq_bin oy_fdiv ok_fdiv (pq_var (i := 6) (by rfl) (.inl (by kernel_rfl))) pq_int) qa_nil)) (pq_var (i := 1) (by rfl) (.inl (by kernel_rfl))))))))))
/-! _law_some -/
abbrev s__law_some : Stmt := topS 24
theorem sc__law_some : FnScope ["bag", "things"] ["bag", "things"] (defScope s__law_some) := ⟨rfl, rfl, rfl, by decide +kernel, rfl, by decide +kernel, by decide +kernel⟩
def b__law_some (lk : Lks) : Ev → Option Out := (sRet (eIxN 1 (eCall g__law_take (xSlot 0 (xVal (n1L opLen (qCons (qVar 1) qNil)) xNil)))))
abbrev g__law_some : Fs := runD 2 2 b__law_some
theorem ok__law_some {P : Program} {w : World} {K : PySem.W.Frag} {mg : Str → Option Value} {base : Heap} (nb : NoB K mg) (T : Top K mg "_law_some" s__law_some ["bag", "things"]) (C__law_take : Ca P w K mg base 1 "_law_take" ["bag", "many"] g__law_take) : Ca P w K mg base 2 "_law_some" ["bag", "things"] g__law_some :=
  ca_of (k := 1) T sc__law_some fun lk => (sd_one (sd_ret (pd_ixN (i := 1) (by rfl) (.inl (by kernel_rfl)) (pd_callC (C__law_take.mono (Nat.le_of_ble_eq_true rfl)) (by kernel_rfl) (px_slot (i := 0) (by rfl) (.inl (by kernel_rfl)) (px_val (pn_callB cy_len ok_len (by kernel_rfl) nb.b_len bb_len (qa_cons (pq_var (i := 1) (by rfl) (.inl (by kernel_rfl))) qa_nil)) px_nil))))))
/-! _law_drawn_rows -/
abbrev s__law_drawn_rows : Stmt := topS 35
theorem sc__law_drawn_rows : FnScope ["bag", "signs", "many", "rows", "lap", "lot", "o", "wide", "swap", "one", "k"] ["bag", "signs", "many"] (defScope s__law_drawn_rows) := ⟨rfl, rfl, rfl, by decide +kernel, rfl, by decide +kernel, by decide +kernel⟩
def l__law_drawn_rows_1 (lk : Lks) : Ev → Option Out := (sSeq (sAsg lk [5] (eIf (tOfQ (tqf (q2f opNe (qVar 3) (qLst qNil)))) (eComp [9] (iSeq (eOf (q2f opIx (qVar 1) (qC (.int 0))))) (gdName 9) dYes (eVar 9)) (eLst eNil)) (gdName 5))
  (sSeq (sIf (dAnd (tOfQ (tqf (q2f opNe (qVar 5) (qLst qNil)))) (tdf (e2f opGt (eCall g__law_take (xSlot 0 (xVal (eOf (qC (.int 3))) xNil))) (eOf (qC (.int 0)))))) (sSeq (sAsg lk [6, 7, 8] (eCall g__law_some (xSlot 0 (xSlot 5 xNil))) (gdTup 3 (gdCons (gdName 6) (gdCons (gdName 7) (gdCons (gdName 8) gdNil)))))
  (sExpr (eMt 3 mAppend (eCons (eTup (eCons (eOf (qC (.str "op"))) (eCons (eVar 6) (eCons (e1L opTuple (eCons (eComp [10] (iRange (eCons (eVar 7) eNil)) (gdName 10) dYes (eCall g__law_take (xSlot 0 (xVal (n1L opLen (qCons (qVar 3) qNil)) xNil)))) eNil)) eNil)))) eNil)))) (sExpr (eMt 3 mAppend (eCons (eCall g__law_some (xSlot 0 (xVal (eLst (eCons (eTup (eCons (eOf (qC (.str "letter"))) (eCons (eCall g__law_some (xSlot 0 (xVal (eLst (eCons (eOf (qC (.str "x"))) (eCons (eOf (qC (.str "y"))) (eCons (eOf (qC (.str "r1"))) (eCons (eOf (qC (.str ""))) (eCons (eOf (qC (.str "event 0"))) (eCons (eOf (qC (.str "X z"))) eNil))))))) xNil))) eNil))) (eCons (eTup (eCons (eOf (qC (.str "num"))) (eCons (e2f opSub (eCall g__law_take (xSlot 0 (xVal (eOf (qC (.int 7))) xNil))) (eOf (qC (.int 3)))) eNil))) eNil))) xNil))) eNil))))
  (sIf (tdf (e2f opEq (eCall g__law_take (xSlot 0 (xVal (eOf (qC (.int 6))) xNil))) (eOf (qC (.int 0))))) (sExpr (eMt 3 mAppend (eCons (eCall g__law_some (xSlot 0 (xSlot 3 xNil))) eNil))) sNil)))
def b__law_drawn_rows (lk : Lks) : Ev → Option Out := (sSeq (sAsg lk [3] (eLst eNil) (gdName 3))
  (sSeq (sFor lk [4] (iRange (eCons (e2f opAdd (eOf (qC (.int 1))) (eCall g__law_take (xSlot 0 (xSlot 2 xNil)))) eNil)) (gdName 4) (l__law_drawn_rows_1 lk))
  (sRet (n1L opTuple (qCons (qVar 3) qNil)))))
abbrev g__law_drawn_rows : Fs := runD 11 3 b__law_drawn_rows
theorem ok__law_drawn_rows {P : Program} {w : World} {K : PySem.W.Frag} {mg : Str → Option Value} {base : Heap} (nb : NoB K mg) (T : Top K mg "_law_drawn_rows" s__law_drawn_rows ["bag", "signs", "many"]) (C__law_take : Ca P w K mg base 1 "_law_take" ["bag", "many"] g__law_take) (C__law_some : Ca P w K mg base 2 "_law_some" ["bag", "things"] g__law_some) : Ca P w K mg base 3 "_law_drawn_rows" ["bag", "signs", "many"] g__law_drawn_rows :=
  ca_of (k := 2) T sc__law_drawn_rows fun lk => (sd_cons (sd_set (i := 3) sc__law_drawn_rows.nd (by rfl) (.inr (by kernel_rfl)) (pd_lst da_nil) (hf := .inl rfl))
    (sd_cons (sd_for (ts := [4]) (id_range1 (by kernel_rfl) nb.b_range (da_cons (pd_bin oy_add ok_add (pd_of pq_int) (pd_callC (C__law_take.mono (Nat.le_of_ble_eq_true rfl)) (by kernel_rfl) (px_slot (i := 0) (by rfl) (.inr (.inl (by kernel_rfl))) (px_slot (i := 2) (by rfl) (.inl (by kernel_rfl)) px_nil)))) da_nil) (len_eCons len_eNil)) (gd_name (i := 4) sc__law_drawn_rows.nd (by rfl) (.inl (by kernel_rfl)) (hf := .inl rfl)) (sd_cons (sd_set (i := 5) sc__law_drawn_rows.nd (by rfl) (.inl (by kernel_rfl)) (pd_if (td_of (tq_cmp oy_ne ok_ne (pq_var (i := 3) (by rfl) (.inr (.inl (by kernel_rfl)))) (pq_lst qa_nil) (nomark _))) (pd_comp (own := [("one", 9)]) (ts := [9]) sc__law_drawn_rows.nd (id_seq (pd_of (pq_ix (pq_var (i := 1) (by rfl) (.inl (by kernel_rfl))) pq_int))) (blk_mk (by kernel_rfl)) (gd_name (i := 9) sc__law_drawn_rows.nd (by rfl) (.inl (by kernel_rfl)) (hf := .inr (by kernel_rfl))) ts_nil (pd_var (i := 9) (by rfl) (.inl (by kernel_rfl))) (by decide) (by decide)) (pd_lst da_nil)) (hf := .inl rfl))
    (sd_cons (sd_if (td_w (wd_and (td_of (tq_cmp oy_ne ok_ne (pq_var (i := 5) (by rfl) (.inl (by kernel_rfl))) (pq_lst qa_nil) (nomark _))) (wd_and1 (td_cmp oy_gt ok_gt (pd_callC (C__law_take.mono (Nat.le_of_ble_eq_true rfl)) (by kernel_rfl) (px_slot (i := 0) (by rfl) (.inr (.inl (by kernel_rfl))) (px_val (pd_of pq_int) px_nil))) (pd_of pq_int) (nomark _))))) (sd_cons (sd_asg (ts := [6, 7, 8]) (pd_callC (C__law_some.mono (Nat.le_of_ble_eq_true rfl)) (by kernel_rfl) (px_slot (i := 0) (by rfl) (.inr (.inl (by kernel_rfl))) (px_slot (i := 5) (by rfl) (.inl (by kernel_rfl)) px_nil))) (gd_tup (gds_cons (gd_name (i := 6) sc__law_drawn_rows.nd (by rfl) (.inl (by kernel_rfl)) (hf := .inl rfl)) (gds_cons (gd_name (i := 7) sc__law_drawn_rows.nd (by rfl) (.inl (by kernel_rfl)) (hf := .inl rfl)) (gds_cons (gd_name (i := 8) sc__law_drawn_rows.nd (by rfl) (.inl (by kernel_rfl)) (hf := .inl rfl)) gds_nil)))))
    (sd_one (sd_expr (pd_mt1 (i := 3) PySem.F.slot_list_append PySem.F.type_list_append my_append ok_append (by rfl) (.inr (.inl (by kernel_rfl))) (da_cons (pd_tup (da_cons (pd_of pq_str) (da_cons (pd_var (i := 6) (by rfl) (.inl (by kernel_rfl))) (da_cons (pd_callT cy_tuple ok_tuple (by kernel_rfl) nb.b_tuple bb_tuple (da_cons (pd_comp (own := [("k", 10)]) (ts := [10]) sc__law_drawn_rows.nd (id_range1 (by kernel_rfl) nb.b_range (da_cons (pd_var (i := 7) (by rfl) (.inl (by kernel_rfl))) da_nil) (len_eCons len_eNil)) (blk_mk (by kernel_rfl)) (gd_name (i := 10) sc__law_drawn_rows.nd (by rfl) (.inl (by kernel_rfl)) (hf := .inr (by kernel_rfl))) ts_nil (pd_callC (C__law_take.mono (Nat.le_of_ble_eq_true rfl)) (by kernel_rfl) (px_slot (i := 0) (by rfl) (.inr (.inl (by kernel_rfl))) (px_val (pn_callB cy_len ok_len (by kernel_rfl) nb.b_len bb_len (qa_cons (pq_var (i := 3) (by rfl) (.inr (.inl (by kernel_rfl)))) qa_nil)) px_nil))) (by decide) (by decide)) da_nil)) da_nil)))) da_nil))))) (sd_one (sd_expr (pd_mt1 (i := 3) PySem.F.slot_list_append PySem.F.type_list_append my_append ok_append (by rfl) (.inr (.inl (by kernel_rfl))) (da_cons (pd_callC (C__law_some.mono (Nat.le_of_ble_eq_true rfl)) (by kernel_rfl) (px_slot (i := 0) (by rfl) (.inr (.inl (by kernel_rfl))) (px_val (pd_lst (da_cons (pd_tup (da_cons (pd_of pq_str) (da_cons (pd_callC (C__law_some.mono (Nat.le_of_ble_eq_true rfl)) (by kernel_rfl) (px_slot (i := 0) (by rfl) (.inr (.inl (by kernel_rfl))) (px_val (pd_lst (da_cons (pd_of pq_str) (da_cons (pd_of pq_str) (da_cons (pd_of pq_str) (da_cons (pd_of pq_str) (da_cons (pd_of pq_str) (da_cons (pd_of pq_str) da_nil))))))) px_nil))) da_nil))) (da_cons (pd_tup (da_cons (pd_of pq_str) (da_cons (pd_bin oy_sub ok_sub (pd_callC (C__law_take.mono (Nat.le_of_ble_eq_true rfl)) (by kernel_rfl) (px_slot (i := 0) (by rfl) (.inr (.inl (by kernel_rfl))) (px_val (pd_of pq_int) px_nil))) (pd_of pq_int)) da_nil))) da_nil))) px_nil))) da_nil)))))
    (sd_one (sd_if (td_cmp oy_eq ok_eq (pd_callC (C__law_take.mono (Nat.le_of_ble_eq_true rfl)) (by kernel_rfl) (px_slot (i := 0) (by rfl) (.inr (.inl (by kernel_rfl))) (px_val (pd_of pq_int) px_nil))) (pd_of pq_int) (nomark _)) (sd_one (sd_expr (pd_mt1 (i := 3) PySem.F.slot_list_append PySem.F.type_list_append my_append ok_append (by rfl) (.inr (.inl (by kernel_rfl))) (da_cons (pd_callC (C__law_some.mono (Nat.le_of_ble_eq_true rfl)) (by kernel_rfl) (px_slot (i := 0) (by rfl) (.inr (.inl (by kernel_rfl))) (px_slot (i := 3) (by rfl) (.inr (.inl (by kernel_rfl))) px_nil))) da_nil)))) sd_nil)))))
    (sd_one (sd_ret (pn_callT cy_tuple ok_tuple (by kernel_rfl) nb.b_tuple bb_tuple (qa_cons (pq_var (i := 3) (by rfl) (.inr (.inl (by kernel_rfl)))) qa_nil))))))
/-! _law_node -/
abbrev s__law_node : Stmt := topS 27
theorem sc__law_node : FnScope ["graph", "key"] ["graph", "key"] (defScope s__law_node) := ⟨rfl, rfl, rfl, by decide +kernel, rfl, by decide +kernel, by decide +kernel⟩
def b__law_node (lk : Lks) : Ev → Option Out := (sSeq (sIf (tOfQ (tqf (q2f opNotIn (qVar 1) (q2f opIx (qVar 0) (qC (.int 0)))))) (sSeq (sAsg lk [] (n1L opLen (qCons (q2f opIx (qVar 0) (qC (.int 1))) qNil)) (gdPut (lnIx 0 (lnVar 0)) (qVar 1)))
  (sExpr (eMtL (lnIx 1 (lnVar 0)) mAppend (qCons (qVar 1) qNil)))) sNil)
  (sRet (eOf (q2f opIx (q2f opIx (qVar 0) (qC (.int 0))) (qVar 1)))))
abbrev g__law_node : Fs := runD 2 2 b__law_node
theorem ok__law_node {P : Program} {w : World} {K : PySem.W.Frag} {mg : Str → Option Value} {base : Heap} (nb : NoB K mg) (T : Top K mg "_law_node" s__law_node ["graph", "key"])  : Ca P w K mg base 1 "_law_node" ["graph", "key"] g__law_node :=
  ca_of (k := 0) T sc__law_node fun lk => (sd_cons (sd_if (td_of (tq_cmp oy_notIn ok_notIn (pq_var (i := 1) (by rfl) (.inl (by kernel_rfl))) (pq_ix (pq_var (i := 0) (by rfl) (.inl (by kernel_rfl))) pq_int) (by with_unfolding_all rfl))) (sd_cons (sd_asg (ts := []) (pn_callB cy_len ok_len (by kernel_rfl) nb.b_len bb_len (qa_cons (pq_ix (pq_var (i := 0) (by rfl) (.inl (by kernel_rfl))) pq_int) qa_nil)) (gd_put (ln_ix (k := 0) (ln_var (i := 0) (by rfl) (.inl (by kernel_rfl)))) (pq_var (i := 1) (by rfl) (.inl (by kernel_rfl)))))
    (sd_one (sd_expr (pd_mtL1 PySem.F.slot_list_append PySem.F.type_list_append my_append ok_append (ln_ix (k := 1) (ln_var (i := 0) (by rfl) (.inl (by kernel_rfl)))) (qa_cons (pq_var (i := 1) (by rfl) (.inl (by kernel_rfl))) qa_nil))))) sd_nil)
    (sd_one (sd_ret (pd_of (pq_ix (pq_ix (pq_var (i := 0) (by rfl) (.inl (by kernel_rfl))) pq_int) (pq_var (i := 1) (by rfl) (.inl (by kernel_rfl))))))))
/-! _law_op -/
abbrev s__law_op : Stmt := topS 28
theorem sc__law_op : FnScope ["graph", "signs", "o", "parts", "swaps", "name", "many", "swap"] ["graph", "signs", "o", "parts"] (defScope s__law_op) := ⟨rfl, rfl, rfl, by decide +kernel, rfl, by decide +kernel, by decide +kernel⟩
def b__law_op (lk : Lks) : Ev → Option Out := (sSeq (sAsg lk [4] (e2f opNe (eComp [5, 6, 7] (iSeq (eOf (q2f opIx (qVar 1) (qC (.int 0))))) (gdTup 3 (gdCons (gdName 5) (gdCons (gdName 6) (gdCons (gdName 7) gdNil)))) (tOfQ (qAnd (tqf (q2f opEq (qVar 5) (qVar 2))) (tqf (q2f opEq (qVar 7) (qC (.int 1)))))) (eOf (qC (.int 1)))) (eLst eNil)) (gdName 4))
  (sRet (eCall g__law_node (xSlot 0 (xVal (eTup (eCons (eOf (qC (.str "op"))) (eCons (eVar 2) (eCons (n1L opTuple (qCons (qIf (tqf (qVar 4)) (q1L opSorted (qCons (qVar 3) qNil)) (qVar 3)) qNil)) eNil)))) xNil)))))
abbrev g__law_op : Fs := runD 8 4 b__law_op
theorem ok__law_op {P : Program} {w : World} {K : PySem.W.Frag} {mg : Str → Option Value} {base : Heap} (nb : NoB K mg) (T : Top K mg "_law_op" s__law_op ["graph", "signs", "o", "parts"]) (C__law_node : Ca P w K mg base 1 "_law_node" ["graph", "key"] g__law_node) : Ca P w K mg base 2 "_law_op" ["graph", "signs", "o", "parts"] g__law_op :=
  ca_of (k := 1) T sc__law_op fun lk => (sd_cons (sd_set (i := 4) sc__law_op.nd (by rfl) (.inl (by kernel_rfl)) (pd_cmp oy_ne ok_ne (pd_comp (own := [("name", 5), ("many", 6), ("swap", 7)]) (ts := [5, 6, 7]) sc__law_op.nd (id_seq (pd_of (pq_ix (pq_var (i := 1) (by rfl) (.inl (by kernel_rfl))) pq_int))) (blk_mk (by kernel_rfl)) (gd_tup (gds_cons (gd_name (i := 5) sc__law_op.nd (by rfl) (.inl (by kernel_rfl)) (hf := .inr (by kernel_rfl))) (gds_cons (gd_name (i := 6) sc__law_op.nd (by rfl) (.inl (by kernel_rfl)) (hf := .inr (by kernel_rfl))) (gds_cons (gd_name (i := 7) sc__law_op.nd (by rfl) (.inl (by kernel_rfl)) (hf := .inr (by kernel_rfl))) gds_nil)))) (ts_one (td_of (tq_w (wq_and (tq_cmp oy_eq ok_eq (pq_var (i := 5) (by rfl) (.inl (by kernel_rfl))) (pq_var (i := 2) (by rfl) (.inr (.inl (by kernel_rfl)))) (nomark _)) (wq_and1 (tq_cmp oy_eq ok_eq (pq_var (i := 7) (by rfl) (.inl (by kernel_rfl))) pq_int (nomark _))))))) (pd_of pq_int) (by decide) (by decide)) (pd_lst da_nil) (nomark _)) (hf := .inl rfl))
    (sd_one (sd_ret (pd_callC (C__law_node.mono (Nat.le_of_ble_eq_true rfl)) (by kernel_rfl) (px_slot (i := 0) (by rfl) (.inl (by kernel_rfl)) (px_val (pd_tup (da_cons (pd_of pq_str) (da_cons (pd_var (i := 2) (by rfl) (.inr (.inl (by kernel_rfl)))) (da_cons (pn_callT cy_tuple ok_tuple (by kernel_rfl) nb.b_tuple bb_tuple (qa_cons (pq_if (tq_val (pq_var (i := 4) (by rfl) (.inl (by kernel_rfl)))) (pq_callB cy_sorted ok_sorted (by kernel_rfl) nb.b_sorted bb_sorted (qa_cons (pq_var (i := 3) (by rfl) (.inl (by kernel_rfl))) qa_nil)) (pq_var (i := 3) (by rfl) (.inl (by kernel_rfl)))) qa_nil)) da_nil)))) px_nil))))))
/-! _law_nodes -/
abbrev s__law_nodes : Stmt := topS 36
theorem sc__law_nodes : FnScope ["graph", "signs", "rows", "found", "row", "k"] ["graph", "signs", "rows"] (defScope s__law_nodes) := ⟨rfl, rfl, rfl, by decide +kernel, rfl, by decide +kernel, by decide +kernel⟩
def l__law_nodes_1 (lk : Lks) : Ev → Option Out := (sExpr (eMt 3 mAppend (eCons (eIf (tOfQ (tqf (q2f opEq (q2f opIx (qVar 4) (qC (.int 0))) (qC (.str "op"))))) (eCall g__law_op (xSlot 0 (xSlot 1 (xVal (eOf (q2f opIx (qVar 4) (qC (.int 1)))) (xVal (eComp [5] (iSeq (eOf (q2f opIx (qVar 4) (qC (.int 2))))) (gdName 5) dYes (eOf (q2f opIx (qVar 3) (qVar 5)))) xNil))))) (eCall g__law_node (xSlot 0 (xSlot 4 xNil)))) eNil)))
def b__law_nodes (lk : Lks) : Ev → Option Out := (sSeq (sAsg lk [3] (eLst eNil) (gdName 3))
  (sSeq (sForQ lk 2 [4] (gdName 4) l__law_nodes_1)
  (sRetV lk 3)))
abbrev g__law_nodes : Fs := runD 6 3 b__law_nodes
theorem ok__law_nodes {P : Program} {w : World} {K : PySem.W.Frag} {mg : Str → Option Value} {base : Heap} (nb : NoB K mg) (T : Top K mg "_law_nodes" s__law_nodes ["graph", "signs", "rows"]) (C__law_op : Ca P w K mg base 2 "_law_op" ["graph", "signs", "o", "parts"] g__law_op) (C__law_node : Ca P w K mg base 1 "_law_node" ["graph", "key"] g__law_node) : Ca P w K mg base 3 "_law_nodes" ["graph", "signs", "rows"] g__law_nodes :=
  ca_of (k := 2) T sc__law_nodes fun lk => (sd_cons (sd_set (i := 3) sc__law_nodes.nd (by rfl) (.inr (by kernel_rfl)) (pd_lst da_nil) (hf := .inl rfl))
    (sd_cons (sd_forQ (i := 2) (ts := [4]) (by rfl) (.inl (by kernel_rfl)) (gd_name (i := 4) sc__law_nodes.nd (by rfl) (.inl (by kernel_rfl)) (hf := .inl rfl)) (fun lk => (sd_one (sd_expr (pd_mt1 (i := 3) PySem.F.slot_list_append PySem.F.type_list_append my_append ok_append (by rfl) (.inr (.inl (by kernel_rfl))) (da_cons (pd_if (td_of (tq_cmp oy_eq ok_eq (pq_ix (pq_var (i := 4) (by rfl) (.inl (by kernel_rfl))) pq_int) pq_str (nomark _))) (pd_callC (C__law_op.mono (Nat.le_of_ble_eq_true rfl)) (by kernel_rfl) (px_slot (i := 0) (by rfl) (.inl (by kernel_rfl)) (px_slot (i := 1) (by rfl) (.inl (by kernel_rfl)) (px_val (pd_of (pq_ix (pq_var (i := 4) (by rfl) (.inl (by kernel_rfl))) pq_int)) (px_val (pd_comp (own := [("k", 5)]) (ts := [5]) sc__law_nodes.nd (id_seq (pd_of (pq_ix (pq_var (i := 4) (by rfl) (.inl (by kernel_rfl))) pq_int))) (blk_mk (by kernel_rfl)) (gd_name (i := 5) sc__law_nodes.nd (by rfl) (.inl (by kernel_rfl)) (hf := .inr (by kernel_rfl))) ts_nil (pd_of (pq_ix (pq_var (i := 3) (by rfl) (.inr (.inl (by kernel_rfl)))) (pq_var (i := 5) (by rfl) (.inl (by kernel_rfl))))) (by decide) (by decide)) px_nil))))) (pd_callC (C__law_node.mono (Nat.le_of_ble_eq_true rfl)) (by kernel_rfl) (px_slot (i := 0) (by rfl) (.inl (by kernel_rfl)) (px_slot (i := 4) (by rfl) (.inl (by kernel_rfl)) px_nil)))) da_nil))))))
    (sd_one (sd_retV (i := 3) (by rfl) (.inr (.inl (by kernel_rfl)))))))
/-! swapping -/
abbrev s_swapping : Stmt := topS 19
theorem sc_swapping : FnScope ["signs", "name", "many", "swaps"] ["signs"] (defScope s_swapping) := ⟨rfl, rfl, rfl, by decide +kernel, rfl, by decide +kernel, by decide +kernel⟩
def b_swapping (lk : Lks) : Ev → Option Out := (sRet (eDComp [1, 2, 3] (iSeq (eOf (q2f opIx (qVar 0) (qC (.int 0))))) (gdTup 3 (gdCons (gdName 1) (gdCons (gdName 2) (gdCons (gdName 3) gdNil)))) (tOfQ (tqf (q2f opEq (qVar 3) (qC (.int 1))))) (qVar 1) (eOf (qC (.bl true)))))
abbrev g_swapping : Fs := runD 4 1 b_swapping
theorem ok_swapping {P : Program} {w : World} {K : PySem.W.Frag} {mg : Str → Option Value} {base : Heap} (nb : NoB K mg) (T : Top K mg "swapping" s_swapping ["signs"])  : Ca P w K mg base 1 "swapping" ["signs"] g_swapping :=
  ca_of (k := 0) T sc_swapping fun lk => (sd_one (sd_ret (pd_dcomp (own := [("name", 1), ("many", 2), ("swaps", 3)]) (ts := [1, 2, 3]) sc_swapping.nd (id_seq (pd_of (pq_ix (pq_var (i := 0) (by rfl) (.inl (by kernel_rfl))) pq_int))) (blk_mk (by kernel_rfl)) (gd_tup (gds_cons (gd_name (i := 1) sc_swapping.nd (by rfl) (.inl (by kernel_rfl)) (hf := .inr (by kernel_rfl))) (gds_cons (gd_name (i := 2) sc_swapping.nd (by rfl) (.inl (by kernel_rfl)) (hf := .inr (by kernel_rfl))) (gds_cons (gd_name (i := 3) sc_swapping.nd (by rfl) (.inl (by kernel_rfl)) (hf := .inr (by kernel_rfl))) gds_nil)))) (ts_one (td_of (tq_cmp oy_eq ok_eq (pq_var (i := 3) (by rfl) (.inl (by kernel_rfl))) pq_int (nomark _)))) (pq_var (i := 1) (by rfl) (.inl (by kernel_rfl))) (pd_of pq_bl) (by decide) (by decide))))
/-! World___init__ -/
abbrev s_World___init__ : Stmt := inClass (topS 20) 0
theorem sc_World___init__ : FnScope ["self", "signs", "meaning", "reads", "answers", "row"] ["self", "signs", "meaning", "reads", "answers"] (defScope s_World___init__) := ⟨rfl, rfl, rfl, by decide +kernel, rfl, by decide +kernel, by decide +kernel⟩
def b_World___init__ (lk : Lks) : Ev → Option Out := (sSeq (sSetAt (lnVar 0) ["World"] "signs" (eVar 1))
  (sSeq (sSetAt (lnVar 0) ["World"] "meaning" (eVar 2))
  (sSeq (sSetAt (lnVar 0) ["World"] "reads" (eVar 3))
  (sSeq (sSetAt (lnVar 0) ["World"] "answers" (eVar 4))
  (sSeq (sSetAt (lnVar 0) ["World"] "swaps" (eCall g_swapping (xSlot 1 xNil)))
  (sSeq (sSetAt (lnVar 0) ["World"] "table" eDic0)
  (sIf (tOfQ (qAnd (tqf (q2f opIsNot (qVar 2) (qC .non))) (tqf (q2f opEq (q2f opIx (qVar 2) (qC (.int 0))) (qC (.str "table")))))) (sSetAt (lnVar 0) ["World"] "table" (eDComp [5] (iSeq (eOf (q2f opIx (qVar 2) (qC (.int 1))))) (gdName 5) dYes (qSl (qVar 5) qNo (qPart (qC (.int 2)))) (eOf (q2f opIx (qVar 5) (qC (.int 2)))))) sNil)))))))
abbrev g_World___init__ : Fs := runD 6 5 b_World___init__
theorem ok_World___init__ {P : Program} {w : World} {K : PySem.W.Frag} {mg : Str → Option Value} {base : Heap} (nb : NoB K mg) (T : TopI K mg "World" "World.__init__" s_World___init__ ["self", "signs", "meaning", "reads", "answers"]) (C_swapping : Ca P w K mg base 1 "swapping" ["signs"] g_swapping) : Ck P w K mg base 3 "World" ["self", "signs", "meaning", "reads", "answers"] g_World___init__ :=
  ck_of (k := 1) T sc_World___init__ fun lk => (sd_cons (sd_setAt (ln_var (i := 0) (by rfl) (.inl (by kernel_rfl))) (pd_var (i := 1) (by rfl) (.inl (by kernel_rfl))) (ats_cons nb.a_World_signs ats_nil))
    (sd_cons (sd_setAt (ln_var (i := 0) (by rfl) (.inl (by kernel_rfl))) (pd_var (i := 2) (by rfl) (.inl (by kernel_rfl))) (ats_cons nb.a_World_meaning ats_nil))
    (sd_cons (sd_setAt (ln_var (i := 0) (by rfl) (.inl (by kernel_rfl))) (pd_var (i := 3) (by rfl) (.inl (by kernel_rfl))) (ats_cons nb.a_World_reads ats_nil))
    (sd_cons (sd_setAt (ln_var (i := 0) (by rfl) (.inl (by kernel_rfl))) (pd_var (i := 4) (by rfl) (.inl (by kernel_rfl))) (ats_cons nb.a_World_answers ats_nil))
    (sd_cons (sd_setAt (ln_var (i := 0) (by rfl) (.inl (by kernel_rfl))) (pd_callC (C_swapping.mono (Nat.le_of_ble_eq_true rfl)) (by kernel_rfl) (px_slot (i := 1) (by rfl) (.inl (by kernel_rfl)) px_nil)) (ats_cons nb.a_World_swaps ats_nil))
    (sd_cons (sd_setAt (ln_var (i := 0) (by rfl) (.inl (by kernel_rfl))) pd_dic0 (ats_cons nb.a_World_table ats_nil))
    (sd_one (sd_if (td_of (tq_w (wq_and (tq_cmp oy_isnot ok_isnot (pq_var (i := 2) (by rfl) (.inl (by kernel_rfl))) pq_non (nomark _)) (wq_and1 (tq_cmp oy_eq ok_eq (pq_ix (pq_var (i := 2) (by rfl) (.inl (by kernel_rfl))) pq_int) pq_str (nomark _)))))) (sd_one (sd_setAt (ln_var (i := 0) (by rfl) (.inl (by kernel_rfl))) (pd_dcomp (own := [("row", 5)]) (ts := [5]) sc_World___init__.nd (id_seq (pd_of (pq_ix (pq_var (i := 2) (by rfl) (.inl (by kernel_rfl))) pq_int))) (blk_mk (by kernel_rfl)) (gd_name (i := 5) sc_World___init__.nd (by rfl) (.inl (by kernel_rfl)) (hf := .inr (by kernel_rfl))) ts_nil (pq_sl (pq_var (i := 5) (by rfl) (.inl (by kernel_rfl))) qo_none (qo_some pq_int)) (pd_of (pq_ix (pq_var (i := 5) (by rfl) (.inl (by kernel_rfl))) pq_int)) (by decide) (by decide)) (ats_cons nb.a_World_table ats_nil))) sd_nil))))))))
/-! World_ordered -/
abbrev s_World_ordered : Stmt := inClass (topS 20) 1
theorem sc_World_ordered : FnScope ["self", "o", "parts"] ["self", "o", "parts"] (defScope s_World_ordered) := ⟨rfl, rfl, rfl, by decide +kernel, rfl, by decide +kernel, by decide +kernel⟩
def b_World_ordered (lk : Lks) : Ev → Option Out := (sRet (eIf (tOfQ (tqf (q2f opIn (qVar 1) (qAt ["World"] "swaps" (qVar 0))))) (n1L opTuple (qCons (q1L opSorted (qCons (qVar 2) qNil)) qNil)) (n1L opTuple (qCons (qVar 2) qNil))))
abbrev g_World_ordered : Fs := runD 3 3 b_World_ordered
theorem ok_World_ordered {P : Program} {w : World} {K : PySem.W.Frag} {mg : Str → Option Value} {base : Heap} (nb : NoB K mg) (T : TopM K mg "World" "ordered" "World.ordered" s_World_ordered ["self", "o", "parts"])  : Cm P w K mg base 1 "World" "ordered" ["self", "o", "parts"] g_World_ordered :=
  cm_of (k := 0) T sc_World_ordered fun lk => (sd_one (sd_ret (pd_if (td_of (tq_cmp oy_in ok_in (pq_var (i := 1) (by rfl) (.inl (by kernel_rfl))) (pq_at (pq_var (i := 0) (by rfl) (.inl (by kernel_rfl))) (ats_cons nb.a_World_swaps ats_nil)) (by with_unfolding_all rfl))) (pn_callT cy_tuple ok_tuple (by kernel_rfl) nb.b_tuple bb_tuple (qa_cons (pq_callB cy_sorted ok_sorted (by kernel_rfl) nb.b_sorted bb_sorted (qa_cons (pq_var (i := 2) (by rfl) (.inl (by kernel_rfl))) qa_nil)) qa_nil)) (pn_callT cy_tuple ok_tuple (by kernel_rfl) nb.b_tuple bb_tuple (qa_cons (pq_var (i := 2) (by rfl) (.inl (by kernel_rfl))) qa_nil)))))
/-! mixed_worth -/
abbrev s_mixed_worth : Stmt := topS 18
theorem sc_mixed_worth : FnScope ["seed", "name", "parts", "here", "sign", "part"] ["seed", "name", "parts"] (defScope s_mixed_worth) := ⟨rfl, rfl, rfl, by decide +kernel, rfl, by decide +kernel, by decide +kernel⟩
def l_mixed_worth_1 (lk : Lks) : Ev → Option Out := (sAsg lk [3] (n2f opMod (q2f opAdd (q2f opAdd (q2f opMul (qC (.int 31)) (qVar 3)) (q1M opIndex (qC (.str "0123456789abcdefghijklmnopqrstuvwxyz")) (qCons (qVar 4) qNil))) (qC (.int 1))) (qC (.int 1000003))) (gdName 3))
def l_mixed_worth_2 (lk : Lks) : Ev → Option Out := (sAsg lk [3] (n2f opMod (q2f opAdd (q2f opAdd (q2f opMul (qC (.int 37)) (qVar 3)) (qVar 5)) (qC (.int 1))) (qC (.int 1000003))) (gdName 3))
def b_mixed_worth (lk : Lks) : Ev → Option Out := (sSeq (sAsg lk [3] (n2f opMod (qVar 0) (qC (.int 1000003))) (gdName 3))
  (sSeq (sForQ lk 1 [4] (gdName 4) l_mixed_worth_1)
  (sSeq (sForQ lk 2 [5] (gdName 5) l_mixed_worth_2)
  (sRet (n2f opSub (qVar 3) (qC (.int 500000)))))))
abbrev g_mixed_worth : Fs := runD 6 3 b_mixed_worth
theorem ok_mixed_worth {P : Program} {w : World} {K : PySem.W.Frag} {mg : Str → Option Value} {base : Heap} (nb : NoB K mg) (T : Top K mg "mixed_worth" s_mixed_worth ["seed", "name", "parts"])  : Ca P w K mg base 1 "mixed_worth" ["seed", "name", "parts"] g_mixed_worth :=
  ca_of (k := 0) T sc_mixed_worth fun lk => (sd_cons (sd_set (i := 3) sc_mixed_worth.nd (by rfl) (.inl (by kernel_rfl)) (pn_bin oy_mod ok_mod (pq_var (i := 0) (by rfl) (.inl (by kernel_rfl))) (pq_con (by kernel_rfl) nb.c_MODULUS)) (hf := .inl rfl))
    (sd_cons (sd_forQ (i := 1) (ts := [4]) (by rfl) (.inl (by kernel_rfl)) (gd_name (i := 4) sc_mixed_worth.nd (by rfl) (.inl (by kernel_rfl)) (hf := .inl rfl)) (fun lk => (sd_one (sd_set (i := 3) sc_mixed_worth.nd (by rfl) (.inl (by kernel_rfl)) (pn_bin oy_mod ok_mod (pq_bin oy_add ok_add (pq_bin oy_add ok_add (pq_bin oy_mul ok_mul pq_int (pq_var (i := 3) (by rfl) (.inl (by kernel_rfl)))) (pq_index (pq_con (by kernel_rfl) nb.c_SIGNS) (qa_cons (pq_var (i := 4) (by rfl) (.inl (by kernel_rfl))) qa_nil))) pq_int) (pq_con (by kernel_rfl) nb.c_MODULUS)) (hf := .inl rfl)))))
    (sd_cons (sd_forQ (i := 2) (ts := [5]) (by rfl) (.inl (by kernel_rfl)) (gd_name (i := 5) sc_mixed_worth.nd (by rfl) (.inl (by kernel_rfl)) (hf := .inl rfl)) (fun lk => (sd_one (sd_set (i := 3) sc_mixed_worth.nd (by rfl) (.inl (by kernel_rfl)) (pn_bin oy_mod ok_mod (pq_bin oy_add ok_add (pq_bin oy_add ok_add (pq_bin oy_mul ok_mul pq_int (pq_var (i := 3) (by rfl) (.inl (by kernel_rfl)))) (pq_var (i := 5) (by rfl) (.inl (by kernel_rfl)))) pq_int) (pq_con (by kernel_rfl) nb.c_MODULUS)) (hf := .inl rfl)))))
    (sd_one (sd_ret (pn_bin oy_sub ok_sub (pq_var (i := 3) (by rfl) (.inl (by kernel_rfl))) (pq_con (by kernel_rfl) nb.c_HALF)))))))
/-! World_apply -/
abbrev s_World_apply : Stmt := inClass (topS 20) 2
theorem sc_World_apply : FnScope ["self", "o", "parts"] ["self", "o", "parts"] (defScope s_World_apply) := ⟨rfl, rfl, rfl, by decide +kernel, rfl, by decide +kernel, by decide +kernel⟩
def b_World_apply (lk : Lks) : Ev → Option Out := (sSeq (sAsg lk [2] (eMeth "World" "ordered" g_World_ordered 0 (xSlot 1 (xSlot 2 xNil))) (gdName 2))
  (sSeq (sIf (tOfQ (tqf (q2f opEq (q2f opIx (qAt ["World"] "meaning" (qVar 0)) (qC (.int 0))) (qC (.str "table"))))) (sRet (eOf (q1M opGet (qAt ["World"] "table" (qVar 0)) (qCons (qTup (qCons (qVar 1) (qCons (qVar 2) qNil))) (qCons (qC (.int 0)) qNil))))) sNil)
  (sRet (eCall g_mixed_worth (xVal (eOf (q2f opIx (qAt ["World"] "meaning" (qVar 0)) (qC (.int 1)))) (xSlot 1 (xSlot 2 xNil)))))))
abbrev g_World_apply : Fs := runD 3 3 b_World_apply
theorem ok_World_apply {P : Program} {w : World} {K : PySem.W.Frag} {mg : Str → Option Value} {base : Heap} (nb : NoB K mg) (T : TopM K mg "World" "apply" "World.apply" s_World_apply ["self", "o", "parts"]) (C_World_ordered : Cm P w K mg base 1 "World" "ordered" ["self", "o", "parts"] g_World_ordered) (C_mixed_worth : Ca P w K mg base 1 "mixed_worth" ["seed", "name", "parts"] g_mixed_worth) : Cm P w K mg base 2 "World" "apply" ["self", "o", "parts"] g_World_apply :=
  cm_of (k := 1) T sc_World_apply fun lk => (sd_cons (sd_set (i := 2) sc_World_apply.nd (by rfl) (.inl (by kernel_rfl)) (pd_methC (i := 0) (C_World_ordered.mono (Nat.le_of_ble_eq_true rfl)) (by rfl) (.inl (by kernel_rfl)) (px_slot (i := 1) (by rfl) (.inl (by kernel_rfl)) (px_slot (i := 2) (by rfl) (.inl (by kernel_rfl)) px_nil))) (hf := .inl rfl))
    (sd_cons (sd_if (td_of (tq_cmp oy_eq ok_eq (pq_ix (pq_at (pq_var (i := 0) (by rfl) (.inl (by kernel_rfl))) (ats_cons nb.a_World_meaning ats_nil)) pq_int) pq_str (nomark _))) (sd_one (sd_ret (pd_of (pq_get2 (pq_at (pq_var (i := 0) (by rfl) (.inl (by kernel_rfl))) (ats_cons nb.a_World_table ats_nil)) (qa_cons (pq_tup (qa_cons (pq_var (i := 1) (by rfl) (.inl (by kernel_rfl))) (qa_cons (pq_var (i := 2) (by rfl) (.inl (by kernel_rfl))) qa_nil))) (qa_cons pq_int qa_nil)) (hl := (len_qCons (len_qCons len_qNil))))))) sd_nil)
    (sd_one (sd_ret (pd_callC (C_mixed_worth.mono (Nat.le_of_ble_eq_true rfl)) (by kernel_rfl) (px_val (pd_of (pq_ix (pq_at (pq_var (i := 0) (by rfl) (.inl (by kernel_rfl))) (ats_cons nb.a_World_meaning ats_nil)) pq_int)) (px_slot (i := 1) (by rfl) (.inl (by kernel_rfl)) (px_slot (i := 2) (by rfl) (.inl (by kernel_rfl)) px_nil))))))))
/-! World_number -/
abbrev s_World_number : Stmt := inClass (topS 20) 3
theorem sc_World_number : FnScope ["self", "n"] ["self", "n"] (defScope s_World_number) := ⟨rfl, rfl, rfl, by decide +kernel, rfl, by decide +kernel, by decide +kernel⟩
def b_World_number (lk : Lks) : Ev → Option Out := (sRetV lk 1)
abbrev g_World_number : Fs := runD 2 2 b_World_number
theorem ok_World_number {P : Program} {w : World} {K : PySem.W.Frag} {mg : Str → Option Value} {base : Heap} (nb : NoB K mg) (T : TopM K mg "World" "number" "World.number" s_World_number ["self", "n"])  : Cm P w K mg base 1 "World" "number" ["self", "n"] g_World_number :=
  cm_of (k := 0) T sc_World_number fun lk => (sd_one (sd_retV (i := 1) (by rfl) (.inl (by kernel_rfl))))
/-! _law_worths_by -/
abbrev s__law_worths_by : Stmt := topS 37
theorem sc__law_worths_by : FnScope ["world", "rows", "letters", "found", "row", "k"] ["world", "rows", "letters"] (defScope s__law_worths_by) := ⟨rfl, rfl, rfl, by decide +kernel, rfl, by decide +kernel, by decide +kernel⟩
def l__law_worths_by_1 (lk : Lks) : Ev → Option Out := (sIf (tOfQ (tqf (q2f opEq (q2f opIx (qVar 4) (qC (.int 0))) (qC (.str "op"))))) (sExpr (eMt 3 mAppend (eCons (eMeth "World" "apply" g_World_apply 0 (xVal (eOf (q2f opIx (qVar 4) (qC (.int 1)))) (xValF (e1L opTuple (eCons (eComp [5] (iSeq (eOf (q2f opIx (qVar 4) (qC (.int 2))))) (gdName 5) dYes (eOf (q2f opIx (qVar 3) (qVar 5)))) eNil)) xNil))) eNil))) (sExpr (eMt 3 mAppend (eCons (eIf (tOfQ (tqf (q2f opEq (q2f opIx (qVar 4) (qC (.int 0))) (qC (.str "letter"))))) (eOf (q2f opIx (qVar 2) (q2f opIx (qVar 4) (qC (.int 1))))) (eMeth "World" "number" g_World_number 0 (xVal (eOf (q2f opIx (qVar 4) (qC (.int 1)))) xNil))) eNil))))
def b__law_worths_by (lk : Lks) : Ev → Option Out := (sSeq (sAsg lk [3] (eLst eNil) (gdName 3))
  (sSeq (sForQ lk 1 [4] (gdName 4) l__law_worths_by_1)
  (sRetV lk 3)))
abbrev g__law_worths_by : Fs := runD 6 3 b__law_worths_by
theorem ok__law_worths_by {P : Program} {w : World} {K : PySem.W.Frag} {mg : Str → Option Value} {base : Heap} (nb : NoB K mg) (T : Top K mg "_law_worths_by" s__law_worths_by ["world", "rows", "letters"]) (C_World_apply : Cm P w K mg base 2 "World" "apply" ["self", "o", "parts"] g_World_apply) (C_World_number : Cm P w K mg base 1 "World" "number" ["self", "n"] g_World_number) : Ca P w K mg base 3 "_law_worths_by" ["world", "rows", "letters"] g__law_worths_by :=
  ca_of (k := 2) T sc__law_worths_by fun lk => (sd_cons (sd_set (i := 3) sc__law_worths_by.nd (by rfl) (.inr (by kernel_rfl)) (pd_lst da_nil) (hf := .inl rfl))
    (sd_cons (sd_forQ (i := 1) (ts := [4]) (by rfl) (.inl (by kernel_rfl)) (gd_name (i := 4) sc__law_worths_by.nd (by rfl) (.inl (by kernel_rfl)) (hf := .inl rfl)) (fun lk => (sd_one (sd_if (td_of (tq_cmp oy_eq ok_eq (pq_ix (pq_var (i := 4) (by rfl) (.inl (by kernel_rfl))) pq_int) pq_str (nomark _))) (sd_one (sd_expr (pd_mt1 (i := 3) PySem.F.slot_list_append PySem.F.type_list_append my_append ok_append (by rfl) (.inr (.inl (by kernel_rfl))) (da_cons (pd_methC (i := 0) (C_World_apply.mono (Nat.le_of_ble_eq_true rfl)) (by rfl) (.inl (by kernel_rfl)) (px_val (pd_of (pq_ix (pq_var (i := 4) (by rfl) (.inl (by kernel_rfl))) pq_int)) (px_valF (pd_callT cy_tuple ok_tuple (by kernel_rfl) nb.b_tuple bb_tuple (da_cons (pd_comp (own := [("k", 5)]) (ts := [5]) sc__law_worths_by.nd (id_seq (pd_of (pq_ix (pq_var (i := 4) (by rfl) (.inl (by kernel_rfl))) pq_int))) (blk_mk (by kernel_rfl)) (gd_name (i := 5) sc__law_worths_by.nd (by rfl) (.inl (by kernel_rfl)) (hf := .inr (by kernel_rfl))) ts_nil (pd_of (pq_ix (pq_var (i := 3) (by rfl) (.inr (.inl (by kernel_rfl)))) (pq_var (i := 5) (by rfl) (.inl (by kernel_rfl))))) (by decide) (by decide)) da_nil)) px_nil))) da_nil)))) (sd_one (sd_expr (pd_mt1 (i := 3) PySem.F.slot_list_append PySem.F.type_list_append my_append ok_append (by rfl) (.inr (.inl (by kernel_rfl))) (da_cons (pd_if (td_of (tq_cmp oy_eq ok_eq (pq_ix (pq_var (i := 4) (by rfl) (.inl (by kernel_rfl))) pq_int) pq_str (nomark _))) (pd_of (pq_ix (pq_var (i := 2) (by rfl) (.inl (by kernel_rfl))) (pq_ix (pq_var (i := 4) (by rfl) (.inl (by kernel_rfl))) pq_int))) (pd_methC (i := 0) (C_World_number.mono (Nat.le_of_ble_eq_true rfl)) (by rfl) (.inl (by kernel_rfl)) (px_val (pd_of (pq_ix (pq_var (i := 4) (by rfl) (.inl (by kernel_rfl))) pq_int)) px_nil))) da_nil))))))))
    (sd_one (sd_retV (i := 3) (by rfl) (.inr (.inl (by kernel_rfl)))))))
/-! _law_signs -/
abbrev s__law_signs : Stmt := topS 31
theorem sc__law_signs : FnScope ["bag", "operations", "questions", "kept", "one"] ["bag"] (defScope s__law_signs) := ⟨rfl, rfl, rfl, by decide +kernel, rfl, by decide +kernel, by decide +kernel⟩
def b__law_signs (lk : Lks) : Ev → Option Out := (sSeq (sAsg lk [1] (eLst (eCons (eTup (eCons (eOf (qC (.str "add"))) (eCons (eOf (qC (.int 2))) (eCons (eOf (qC (.int 1))) eNil)))) (eCons (eTup (eCons (eOf (qC (.str "mix"))) (eCons (eOf (qC (.int 3))) (eCons (eOf (qC (.int 0))) eNil)))) (eCons (eTup (eCons (eOf (qC (.str "neg"))) (eCons (eOf (qC (.int 1))) (eCons (eOf (qC (.int 0))) eNil)))) (eCons (eTup (eCons (eOf (qC (.str "sub"))) (eCons (eOf (qC (.int 2))) (eCons (eOf (qC (.int 0))) eNil)))) eNil))))) (gdName 1))
  (sSeq (sAsg lk [2] (eLst (eCons (eTup (eCons (eOf (qC (.str "less"))) (eCons (eOf (qC (.int 2))) eNil))) (eCons (eTup (eCons (eOf (qC (.str "odd"))) (eCons (eOf (qC (.int 1))) eNil))) eNil))) (gdName 2))
  (sSeq (sAsg lk [3] (eCompQ [4] 1 (gdName 4) (tdf (e2f opGt (eCall g__law_take (xSlot 0 (xVal (eOf (qC (.int 3))) xNil))) (eOf (qC (.int 0))))) (eVar 4)) (gdName 3))
  (sRet (eTup (eCons (n1L opTuple (qCons (qVar 3) qNil)) (eCons (e1L opTuple (eCons (eCompQ [4] 2 (gdName 4) (tdf (e2f opEq (eCall g__law_take (xSlot 0 (xVal (eOf (qC (.int 2))) xNil))) (eOf (qC (.int 0))))) (eVar 4)) eNil)) eNil)))))))
abbrev g__law_signs : Fs := runD 5 1 b__law_signs
theorem ok__law_signs {P : Program} {w : World} {K : PySem.W.Frag} {mg : Str → Option Value} {base : Heap} (nb : NoB K mg) (T : Top K mg "_law_signs" s__law_signs ["bag"]) (C__law_take : Ca P w K mg base 1 "_law_take" ["bag", "many"] g__law_take) : Ca P w K mg base 2 "_law_signs" ["bag"] g__law_signs :=
  ca_of (k := 1) T sc__law_signs fun lk => (sd_cons (sd_set (i := 1) sc__law_signs.nd (by rfl) (.inl (by kernel_rfl)) (pd_lst (da_cons (pd_tup (da_cons (pd_of pq_str) (da_cons (pd_of pq_int) (da_cons (pd_of pq_int) da_nil)))) (da_cons (pd_tup (da_cons (pd_of pq_str) (da_cons (pd_of pq_int) (da_cons (pd_of pq_int) da_nil)))) (da_cons (pd_tup (da_cons (pd_of pq_str) (da_cons (pd_of pq_int) (da_cons (pd_of pq_int) da_nil)))) (da_cons (pd_tup (da_cons (pd_of pq_str) (da_cons (pd_of pq_int) (da_cons (pd_of pq_int) da_nil)))) da_nil))))) (hf := .inl rfl))
    (sd_cons (sd_set (i := 2) sc__law_signs.nd (by rfl) (.inl (by kernel_rfl)) (pd_lst (da_cons (pd_tup (da_cons (pd_of pq_str) (da_cons (pd_of pq_int) da_nil))) (da_cons (pd_tup (da_cons (pd_of pq_str) (da_cons (pd_of pq_int) da_nil))) da_nil))) (hf := .inl rfl))
    (sd_cons (sd_setCompQ (i := 3) (own := [("one", 4)]) (ts := [4]) (j := 1) sc__law_signs.nd (by rfl) (by kernel_rfl) (by rfl) (by rfl) (by kernel_rfl) (by rfl) (.inl (by kernel_rfl)) (blk_mk (by kernel_rfl)) (gd_name (i := 4) sc__law_signs.nd (by rfl) (.inl (by kernel_rfl)) (hf := .inr (by kernel_rfl))) (ts_one (td_cmp oy_gt ok_gt (pd_callC (C__law_take.mono (Nat.le_of_ble_eq_true rfl)) (by kernel_rfl) (px_slot (i := 0) (by rfl) (.inr (.inl (by kernel_rfl))) (px_val (pd_of pq_int) px_nil))) (pd_of pq_int) (nomark _))) (pd_var (i := 4) (by rfl) (.inl (by kernel_rfl))) (by decide) (by decide) (by decide))
    (sd_one (sd_ret (pd_tup (da_cons (pn_callT cy_tuple ok_tuple (by kernel_rfl) nb.b_tuple bb_tuple (qa_cons (pq_var (i := 3) (by rfl) (.inl (by kernel_rfl))) qa_nil)) (da_cons (pd_callT cy_tuple ok_tuple (by kernel_rfl) nb.b_tuple bb_tuple (da_cons (pd_compQ (own := [("one", 4)]) (ts := [4]) (j := 2) sc__law_signs.nd (by rfl) (.inl (by kernel_rfl)) (blk_mk (by kernel_rfl)) (gd_name (i := 4) sc__law_signs.nd (by rfl) (.inl (by kernel_rfl)) (hf := .inr (by kernel_rfl))) (ts_one (td_cmp oy_eq ok_eq (pd_callC (C__law_take.mono (Nat.le_of_ble_eq_true rfl)) (by kernel_rfl) (px_slot (i := 0) (by rfl) (.inr (.inl (by kernel_rfl))) (px_val (pd_of pq_int) px_nil))) (pd_of pq_int) (nomark _))) (pd_var (i := 4) (by rfl) (.inl (by kernel_rfl))) (by decide) (by decide) (by decide)) da_nil)) da_nil))))))))
/-! _law_graph -/
abbrev s__law_graph : Stmt := topS 26
theorem sc__law_graph : FnScope [] [] (defScope s__law_graph) := ⟨rfl, rfl, rfl, by decide +kernel, rfl, by decide +kernel, by decide +kernel⟩
def b__law_graph (lk : Lks) : Ev → Option Out := (sRet (eTup (eCons eDic0 (eCons (eLst eNil) eNil))))
abbrev g__law_graph : Fs := runD 0 0 b__law_graph
theorem ok__law_graph {P : Program} {w : World} {K : PySem.W.Frag} {mg : Str → Option Value} {base : Heap} (nb : NoB K mg) (T : Top K mg "_law_graph" s__law_graph [])  : Ca P w K mg base 1 "_law_graph" [] g__law_graph :=
  ca_of (k := 0) T sc__law_graph fun lk => (sd_one (sd_ret (pd_tup (da_cons pd_dic0 (da_cons (pd_lst da_nil) da_nil)))))
/-! _law_parts_of -/
abbrev s__law_parts_of : Stmt := topS 29
theorem sc__law_parts_of : FnScope ["key"] ["key"] (defScope s__law_parts_of) := ⟨rfl, rfl, rfl, by decide +kernel, rfl, by decide +kernel, by decide +kernel⟩
def b__law_parts_of (lk : Lks) : Ev → Option Out := (sRet (eIf (tOfQ (tqf (q2f opEq (q2f opIx (qVar 0) (qC (.int 0))) (qC (.str "op"))))) (eOf (q2f opIx (qVar 0) (qC (.int 2)))) (eTup eNil)))
abbrev g__law_parts_of : Fs := runD 1 1 b__law_parts_of
theorem ok__law_parts_of {P : Program} {w : World} {K : PySem.W.Frag} {mg : Str → Option Value} {base : Heap} (nb : NoB K mg) (T : Top K mg "_law_parts_of" s__law_parts_of ["key"])  : Ca P w K mg base 1 "_law_parts_of" ["key"] g__law_parts_of :=
  ca_of (k := 0) T sc__law_parts_of fun lk => (sd_one (sd_ret (pd_if (td_of (tq_cmp oy_eq ok_eq (pq_ix (pq_var (i := 0) (by rfl) (.inl (by kernel_rfl))) pq_int) pq_str (nomark _))) (pd_of (pq_ix (pq_var (i := 0) (by rfl) (.inl (by kernel_rfl))) pq_int)) (pd_tup da_nil))))
/-! _law_below -/
abbrev s__law_below : Stmt := topS 30
theorem sc__law_below : FnScope ["graph", "goals", "found", "line", "node"] ["graph", "goals"] (defScope s__law_below) := ⟨rfl, rfl, rfl, by decide +kernel, rfl, by decide +kernel, by decide +kernel⟩
def l__law_below_1 (lk : Lks) : Ev → Option Out := (sSeq (sAsg lk [4] (eMt 3 mPop eNil) (gdName 4))
  (sIf (tOfQ (tqf (q2f opNotIn (qVar 4) (qVar 2)))) (sSeq (sAsg lk [] (eOf (qC (.bl true))) (gdPut (lnVar 2) (qVar 4)))
  (sExpr (eMt 3 mExtendX (eCons (eCall g__law_parts_of (xVal (eOf (q2f opIx (q2f opIx (qVar 0) (qC (.int 1))) (qVar 4))) xNil)) eNil)))) sNil))
def b__law_below (lk : Lks) : Ev → Option Out := (sSeq (sPar lk 2 3 (eCons eDic0 (eCons (n1L opList (qCons (qVar 1) qNil)) eNil)))
  (sSeq (sWhile (tOfQ (tqf (q2f opNe (qVar 3) (qLst qNil)))) (l__law_below_1 lk))
  (sRetV lk 2)))
abbrev g__law_below : Fs := runD 5 2 b__law_below
theorem ok__law_below {P : Program} {w : World} {K : PySem.W.Frag} {mg : Str → Option Value} {base : Heap} (nb : NoB K mg) (T : Top K mg "_law_below" s__law_below ["graph", "goals"]) (C__law_parts_of : Ca P w K mg base 1 "_law_parts_of" ["key"] g__law_parts_of) : Ca P w K mg base 2 "_law_below" ["graph", "goals"] g__law_below :=
  ca_of (k := 1) T sc__law_below fun lk => (sd_cons (sd_par (i := 2) (j := 3) sc__law_below.nd (by rfl) (by rfl) (by decide) (by kernel_rfl) (by kernel_rfl) (da_cons pd_dic0 (da_cons (pn_callT cy_list ok_list (by kernel_rfl) nb.b_list bb_list (qa_cons (pq_var (i := 1) (by rfl) (.inl (by kernel_rfl))) qa_nil)) da_nil)) (fun X h => (sw_scope h).trans (by kernel_rfl)))
    (sd_cons (sd_while (td_of (tq_cmp oy_ne ok_ne (pq_var (i := 3) (by rfl) (.inl (by kernel_rfl))) (pq_lst qa_nil) (nomark _))) (sd_cons (sd_set (i := 4) sc__law_below.nd (by rfl) (.inl (by kernel_rfl)) (pd_mt0 (i := 3) PySem.F.slot_list_pop PySem.F.type_list_pop my_pop ok_pop (by rfl) (.inl (by kernel_rfl))) (hf := .inl rfl))
    (sd_one (sd_if (td_of (tq_cmp oy_notIn ok_notIn (pq_var (i := 4) (by rfl) (.inl (by kernel_rfl))) (pq_var (i := 2) (by rfl) (.inl (by kernel_rfl))) (by with_unfolding_all rfl))) (sd_cons (sd_asg (ts := []) (pd_of pq_bl) (gd_put (ln_var (i := 2) (by rfl) (.inl (by kernel_rfl))) (pq_var (i := 4) (by rfl) (.inl (by kernel_rfl)))))
    (sd_one (sd_expr (pd_mt1 (i := 3) PySem.F.slot_list_extend PySem.F.type_list_extend my_extendX ok_extendX (by rfl) (.inl (by kernel_rfl)) (da_cons (pd_callC (C__law_parts_of.mono (Nat.le_of_ble_eq_true rfl)) (by kernel_rfl) (px_val (pd_of (pq_ix (pq_ix (pq_var (i := 0) (by rfl) (.inl (by kernel_rfl))) pq_int) (pq_var (i := 4) (by rfl) (.inl (by kernel_rfl))))) px_nil)) da_nil))))) sd_nil))))
    (sd_one (sd_retV (i := 2) (by rfl) (.inl (by kernel_rfl))))))
/-! _law_formula -/
abbrev s__law_formula : Stmt := topS 33
theorem sc__law_formula : FnScope ["seed", "o", "parts", "h", "sign", "part"] ["seed", "o", "parts"] (defScope s__law_formula) := ⟨rfl, rfl, rfl, by decide +kernel, rfl, by decide +kernel, by decide +kernel⟩
def l__law_formula_1 (lk : Lks) : Ev → Option Out := (sAsg lk [3] (n2f opMod (q2f opAdd (q2f opAdd (q2f opMul (qC (.int 31)) (qVar 3)) (q1M opIndex (qC (.str "0123456789abcdefghijklmnopqrstuvwxyz")) (qCons (qVar 4) qNil))) (qC (.int 1))) (qC (.int 1000003))) (gdName 3))
def l__law_formula_2 (lk : Lks) : Ev → Option Out := (sAsg lk [3] (n2f opMod (q2f opAdd (q2f opAdd (q2f opMul (qC (.int 37)) (qVar 3)) (qVar 5)) (qC (.int 1))) (qC (.int 1000003))) (gdName 3))
def b__law_formula (lk : Lks) : Ev → Option Out := (sSeq (sAsg lk [3] (n2f opMod (qVar 0) (qC (.int 1000003))) (gdName 3))
  (sSeq (sForQ lk 1 [4] (gdName 4) l__law_formula_1)
  (sSeq (sForQ lk 2 [5] (gdName 5) l__law_formula_2)
  (sRet (n2f opSub (qVar 3) (qC (.int 500000)))))))
abbrev g__law_formula : Fs := runD 6 3 b__law_formula
theorem ok__law_formula {P : Program} {w : World} {K : PySem.W.Frag} {mg : Str → Option Value} {base : Heap} (nb : NoB K mg) (T : Top K mg "_law_formula" s__law_formula ["seed", "o", "parts"])  : Ca P w K mg base 1 "_law_formula" ["seed", "o", "parts"] g__law_formula :=
  ca_of (k := 0) T sc__law_formula fun lk => (sd_cons (sd_set (i := 3) sc__law_formula.nd (by rfl) (.inl (by kernel_rfl)) (pn_bin oy_mod ok_mod (pq_var (i := 0) (by rfl) (.inl (by kernel_rfl))) pq_int) (hf := .inl rfl))
    (sd_cons (sd_forQ (i := 1) (ts := [4]) (by rfl) (.inl (by kernel_rfl)) (gd_name (i := 4) sc__law_formula.nd (by rfl) (.inl (by kernel_rfl)) (hf := .inl rfl)) (fun lk => (sd_one (sd_set (i := 3) sc__law_formula.nd (by rfl) (.inl (by kernel_rfl)) (pn_bin oy_mod ok_mod (pq_bin oy_add ok_add (pq_bin oy_add ok_add (pq_bin oy_mul ok_mul pq_int (pq_var (i := 3) (by rfl) (.inl (by kernel_rfl)))) (pq_index pq_str (qa_cons (pq_var (i := 4) (by rfl) (.inl (by kernel_rfl))) qa_nil))) pq_int) pq_int) (hf := .inl rfl)))))
    (sd_cons (sd_forQ (i := 2) (ts := [5]) (by rfl) (.inl (by kernel_rfl)) (gd_name (i := 5) sc__law_formula.nd (by rfl) (.inl (by kernel_rfl)) (hf := .inl rfl)) (fun lk => (sd_one (sd_set (i := 3) sc__law_formula.nd (by rfl) (.inl (by kernel_rfl)) (pn_bin oy_mod ok_mod (pq_bin oy_add ok_add (pq_bin oy_add ok_add (pq_bin oy_mul ok_mul pq_int (pq_var (i := 3) (by rfl) (.inl (by kernel_rfl)))) (pq_var (i := 5) (by rfl) (.inl (by kernel_rfl)))) pq_int) pq_int) (hf := .inl rfl)))))
    (sd_one (sd_ret (pn_bin oy_sub ok_sub (pq_var (i := 3) (by rfl) (.inl (by kernel_rfl))) pq_int))))))
/-! _law_swaps -/
abbrev s__law_swaps : Stmt := topS 32
theorem sc__law_swaps : FnScope ["signs", "o", "name", "many", "swap"] ["signs", "o"] (defScope s__law_swaps) := ⟨rfl, rfl, rfl, by decide +kernel, rfl, by decide +kernel, by decide +kernel⟩
def b__law_swaps (lk : Lks) : Ev → Option Out := (sRet (e2f opNe (eComp [2, 3, 4] (iSeq (eOf (q2f opIx (qVar 0) (qC (.int 0))))) (gdTup 3 (gdCons (gdName 2) (gdCons (gdName 3) (gdCons (gdName 4) gdNil)))) (tOfQ (qAnd (tqf (q2f opEq (qVar 2) (qVar 1))) (tqf (q2f opEq (qVar 4) (qC (.int 1)))))) (eOf (qC (.int 1)))) (eLst eNil)))
abbrev g__law_swaps : Fs := runD 5 2 b__law_swaps
theorem ok__law_swaps {P : Program} {w : World} {K : PySem.W.Frag} {mg : Str → Option Value} {base : Heap} (nb : NoB K mg) (T : Top K mg "_law_swaps" s__law_swaps ["signs", "o"])  : Ca P w K mg base 1 "_law_swaps" ["signs", "o"] g__law_swaps :=
  ca_of (k := 0) T sc__law_swaps fun lk => (sd_one (sd_ret (pd_cmp oy_ne ok_ne (pd_comp (own := [("name", 2), ("many", 3), ("swap", 4)]) (ts := [2, 3, 4]) sc__law_swaps.nd (id_seq (pd_of (pq_ix (pq_var (i := 0) (by rfl) (.inl (by kernel_rfl))) pq_int))) (blk_mk (by kernel_rfl)) (gd_tup (gds_cons (gd_name (i := 2) sc__law_swaps.nd (by rfl) (.inl (by kernel_rfl)) (hf := .inr (by kernel_rfl))) (gds_cons (gd_name (i := 3) sc__law_swaps.nd (by rfl) (.inl (by kernel_rfl)) (hf := .inr (by kernel_rfl))) (gds_cons (gd_name (i := 4) sc__law_swaps.nd (by rfl) (.inl (by kernel_rfl)) (hf := .inr (by kernel_rfl))) gds_nil)))) (ts_one (td_of (tq_w (wq_and (tq_cmp oy_eq ok_eq (pq_var (i := 2) (by rfl) (.inl (by kernel_rfl))) (pq_var (i := 1) (by rfl) (.inr (.inl (by kernel_rfl)))) (nomark _)) (wq_and1 (tq_cmp oy_eq ok_eq (pq_var (i := 4) (by rfl) (.inl (by kernel_rfl))) pq_int (nomark _))))))) (pd_of pq_int) (by decide) (by decide)) (pd_lst da_nil) (nomark _))))
/-! _law_worths -/
abbrev s__law_worths : Stmt := topS 34
theorem sc__law_worths : FnScope ["graph", "signs", "seed", "letters", "nodes", "found", "node", "key", "parts", "one", "part"] ["graph", "signs", "seed", "letters", "nodes"] (defScope s__law_worths) := ⟨rfl, rfl, rfl, by decide +kernel, rfl, by decide +kernel, by decide +kernel⟩
def l__law_worths_1 (lk : Lks) : Ev → Option Out := (sSeq (sAsg lk [7] (eOf (q2f opIx (q2f opIx (qVar 0) (qC (.int 1))) (qVar 6))) (gdName 7))
  (sIf (tOfQ (tqf (q2f opEq (q2f opIx (qVar 7) (qC (.int 0))) (qC (.str "op"))))) (sSeq (sAsg lk [8] (eComp [10] (iSeq (eOf (q2f opIx (qVar 7) (qC (.int 2))))) (gdName 10) dYes (eOf (q2f opIx (qVar 5) (qVar 10)))) (gdName 8))
  (sAsg lk [] (eCall g__law_formula (xSlot 2 (xVal (eOf (q2f opIx (qVar 7) (qC (.int 1)))) (xVal (eIf (tdf (eCall g__law_swaps (xSlot 1 (xVal (eOf (q2f opIx (qVar 7) (qC (.int 1)))) xNil)))) (n1L opSorted (qCons (qVar 8) qNil)) (eVar 8)) xNil)))) (gdPut (lnVar 5) (qVar 6)))) (sAsg lk [] (eIf (tOfQ (tqf (q2f opEq (q2f opIx (qVar 7) (qC (.int 0))) (qC (.str "letter"))))) (eOf (q2f opIx (qVar 3) (q2f opIx (qVar 7) (qC (.int 1))))) (eOf (q2f opIx (qVar 7) (qC (.int 1))))) (gdPut (lnVar 5) (qVar 6)))))
def b__law_worths (lk : Lks) : Ev → Option Out := (sSeq (sAsg lk [5] eDic0 (gdName 5))
  (sSeq (sFor lk [6] (iSeq (e1L opSorted (eCons (eCall g__law_below (xSlot 0 (xVal (eCompQ [9] 4 (gdName 9) (tOfQ (tqf (q2f opIsNot (qVar 9) (qC .non)))) (eVar 9)) xNil))) eNil))) (gdName 6) (l__law_worths_1 lk))
  (sRetV lk 5)))
abbrev g__law_worths : Fs := runD 11 5 b__law_worths
theorem ok__law_worths {P : Program} {w : World} {K : PySem.W.Frag} {mg : Str → Option Value} {base : Heap} (nb : NoB K mg) (T : Top K mg "_law_worths" s__law_worths ["graph", "signs", "seed", "letters", "nodes"]) (C__law_below : Ca P w K mg base 2 "_law_below" ["graph", "goals"] g__law_below) (C__law_formula : Ca P w K mg base 1 "_law_formula" ["seed", "o", "parts"] g__law_formula) (C__law_swaps : Ca P w K mg base 1 "_law_swaps" ["signs", "o"] g__law_swaps) : Ca P w K mg base 3 "_law_worths" ["graph", "signs", "seed", "letters", "nodes"] g__law_worths :=
  ca_of (k := 2) T sc__law_worths fun lk => (sd_cons (sd_set (i := 5) sc__law_worths.nd (by rfl) (.inr (by kernel_rfl)) pd_dic0 (hf := .inl rfl))
    (sd_cons (sd_for (ts := [6]) (id_seq (pd_callB cy_sorted ok_sorted (by kernel_rfl) nb.b_sorted bb_sorted (da_cons (pd_callC (C__law_below.mono (Nat.le_of_ble_eq_true rfl)) (by kernel_rfl) (px_slot (i := 0) (by rfl) (.inl (by kernel_rfl)) (px_val (pd_compQ (own := [("one", 9)]) (ts := [9]) (j := 4) sc__law_worths.nd (by rfl) (.inl (by kernel_rfl)) (blk_mk (by kernel_rfl)) (gd_name (i := 9) sc__law_worths.nd (by rfl) (.inl (by kernel_rfl)) (hf := .inr (by kernel_rfl))) (ts_one (td_of (tq_cmp oy_isnot ok_isnot (pq_var (i := 9) (by rfl) (.inl (by kernel_rfl))) pq_non (nomark _)))) (pd_var (i := 9) (by rfl) (.inl (by kernel_rfl))) (by decide) (by decide) (by decide)) px_nil))) da_nil))) (gd_name (i := 6) sc__law_worths.nd (by rfl) (.inl (by kernel_rfl)) (hf := .inl rfl)) (sd_cons (sd_set (i := 7) sc__law_worths.nd (by rfl) (.inl (by kernel_rfl)) (pd_of (pq_ix (pq_ix (pq_var (i := 0) (by rfl) (.inl (by kernel_rfl))) pq_int) (pq_var (i := 6) (by rfl) (.inl (by kernel_rfl))))) (hf := .inl rfl))
    (sd_one (sd_if (td_of (tq_cmp oy_eq ok_eq (pq_ix (pq_var (i := 7) (by rfl) (.inl (by kernel_rfl))) pq_int) pq_str (nomark _))) (sd_cons (sd_setComp (i := 8) (own := [("part", 10)]) (ts := [10]) sc__law_worths.nd (by rfl) (by kernel_rfl) (by rfl) (by rfl) (by kernel_rfl) (id_seq (pd_of (pq_ix (pq_var (i := 7) (by rfl) (.inl (by kernel_rfl))) pq_int))) (blk_mk (by kernel_rfl)) (gd_name (i := 10) sc__law_worths.nd (by rfl) (.inl (by kernel_rfl)) (hf := .inr (by kernel_rfl))) ts_nil (pd_of (pq_ix (pq_var (i := 5) (by rfl) (.inr (.inl (by kernel_rfl)))) (pq_var (i := 10) (by rfl) (.inl (by kernel_rfl))))) (by decide) (by decide))
    (sd_one (sd_asg (ts := []) (pd_callC (C__law_formula.mono (Nat.le_of_ble_eq_true rfl)) (by kernel_rfl) (px_slot (i := 2) (by rfl) (.inl (by kernel_rfl)) (px_val (pd_of (pq_ix (pq_var (i := 7) (by rfl) (.inl (by kernel_rfl))) pq_int)) (px_val (pd_if (td_val (pd_callC (C__law_swaps.mono (Nat.le_of_ble_eq_true rfl)) (by kernel_rfl) (px_slot (i := 1) (by rfl) (.inl (by kernel_rfl)) (px_val (pd_of (pq_ix (pq_var (i := 7) (by rfl) (.inl (by kernel_rfl))) pq_int)) px_nil)))) (pn_callB cy_sorted ok_sorted (by kernel_rfl) nb.b_sorted bb_sorted (qa_cons (pq_var (i := 8) (by rfl) (.inl (by kernel_rfl))) qa_nil)) (pd_var (i := 8) (by rfl) (.inl (by kernel_rfl)))) px_nil)))) (gd_put (ln_var (i := 5) (by rfl) (.inr (.inl (by kernel_rfl)))) (pq_var (i := 6) (by rfl) (.inl (by kernel_rfl))))))) (sd_one (sd_asg (ts := []) (pd_if (td_of (tq_cmp oy_eq ok_eq (pq_ix (pq_var (i := 7) (by rfl) (.inl (by kernel_rfl))) pq_int) pq_str (nomark _))) (pd_of (pq_ix (pq_var (i := 3) (by rfl) (.inl (by kernel_rfl))) (pq_ix (pq_var (i := 7) (by rfl) (.inl (by kernel_rfl))) pq_int))) (pd_of (pq_ix (pq_var (i := 7) (by rfl) (.inl (by kernel_rfl))) pq_int))) (gd_put (ln_var (i := 5) (by rfl) (.inr (.inl (by kernel_rfl)))) (pq_var (i := 6) (by rfl) (.inl (by kernel_rfl))))))))))
    (sd_one (sd_retV (i := 5) (by rfl) (.inr (.inl (by kernel_rfl)))))))
/-! _law_alike -/
abbrev s__law_alike : Stmt := topS 25
theorem sc__law_alike : FnScope ["found", "due"] ["found", "due"] (defScope s__law_alike) := ⟨rfl, rfl, rfl, by decide +kernel, rfl, by decide +kernel, by decide +kernel⟩
def b__law_alike (lk : Lks) : Ev → Option Out := (sRet (eOf (qvAnd (q2f opEq (q1L opRepr (qCons (qVar 0) qNil)) (q1L opRepr (qCons (qVar 1) qNil))) (q2f opEq (qVar 0) (qVar 1)))))
abbrev g__law_alike : Fs := runD 2 2 b__law_alike
theorem ok__law_alike {P : Program} {w : World} {K : PySem.W.Frag} {mg : Str → Option Value} {base : Heap} (nb : NoB K mg) (T : Top K mg "_law_alike" s__law_alike ["found", "due"])  : Ca P w K mg base 1 "_law_alike" ["found", "due"] g__law_alike :=
  ca_of (k := 0) T sc__law_alike fun lk => (sd_one (sd_ret (pd_of (pq_and (pq_cmp oy_eq ok_eq (pq_callB cy_repr ok_repr (by kernel_rfl) nb.b_repr bb_repr (qa_cons (pq_var (i := 0) (by rfl) (.inl (by kernel_rfl))) qa_nil)) (pq_callB cy_repr ok_repr (by kernel_rfl) nb.b_repr bb_repr (qa_cons (pq_var (i := 1) (by rfl) (.inl (by kernel_rfl))) qa_nil)) (nomark _)) (pq_one (pq_cmp oy_eq ok_eq (pq_var (i := 0) (by rfl) (.inl (by kernel_rfl))) (pq_var (i := 1) (by rfl) (.inl (by kernel_rfl))) (nomark _)))))))
/-! _law_parting_rows -/
abbrev s__law_parting_rows : Stmt := topS 38
theorem sc__law_parting_rows : FnScope ["graph", "signs", "found", "node", "key", "parts", "part"] ["graph", "signs"] (defScope s__law_parting_rows) := ⟨rfl, rfl, rfl, by decide +kernel, rfl, by decide +kernel, by decide +kernel⟩
def l__law_parting_rows_1 (lk : Lks) : Ev → Option Out := (sIf (tOfQ (tqf (q2f opEq (q2f opIx (qVar 4) (qC (.int 0))) (qC (.str "op"))))) (sSeq (sAsg lk [5] (eComp [6] (iSeq (eOf (q2f opIx (qVar 4) (qC (.int 2))))) (gdName 6) dYes (eIf (tOfQ (tqf (q2f opEq (q2f opIx (q2f opIx (q2f opIx (qVar 0) (qC (.int 1))) (qVar 6)) (qC (.int 0))) (qC (.str "num"))))) (eOf (q2f opIx (q2f opIx (q2f opIx (qVar 0) (qC (.int 1))) (qVar 6)) (qC (.int 1)))) (n2f opAdd (qC (.int 1000)) (qVar 6)))) (gdName 5))
  (sExpr (eMt 2 mAppend (eCons (eTup (eCons (eOf (q2f opIx (qVar 4) (qC (.int 1)))) (eCons (e1L opTuple (eCons (eIf (tdf (eCall g__law_swaps (xSlot 1 (xVal (eOf (q2f opIx (qVar 4) (qC (.int 1)))) xNil)))) (n1L opSorted (qCons (qVar 5) qNil)) (eVar 5)) eNil)) (eCons (n2f opAdd (qC (.int 1000)) (qVar 3)) eNil)))) eNil)))) sNil)
def b__law_parting_rows (lk : Lks) : Ev → Option Out := (sSeq (sAsg lk [2] (eLst eNil) (gdName 2))
  (sSeq (sFor lk [3, 4] (iEnum (eCons (eAlt (eOf (q2f opIx (qVar 0) (qC (.int 1)))) (eLn (lnIx 1 (lnVar 0)))) eNil)) (gdTup 2 (gdCons (gdName 3) (gdCons (gdName 4) gdNil))) (l__law_parting_rows_1 lk))
  (sRet (n1L opTuple (qCons (q1L opSorted (qCons (qVar 2) qNil)) qNil)))))
abbrev g__law_parting_rows : Fs := runD 7 2 b__law_parting_rows
theorem ok__law_parting_rows {P : Program} {w : World} {K : PySem.W.Frag} {mg : Str → Option Value} {base : Heap} (nb : NoB K mg) (T : Top K mg "_law_parting_rows" s__law_parting_rows ["graph", "signs"]) (C__law_swaps : Ca P w K mg base 1 "_law_swaps" ["signs", "o"] g__law_swaps) : Ca P w K mg base 2 "_law_parting_rows" ["graph", "signs"] g__law_parting_rows :=
  ca_of (k := 1) T sc__law_parting_rows fun lk => (sd_cons (sd_set (i := 2) sc__law_parting_rows.nd (by rfl) (.inl (by kernel_rfl)) (pd_lst da_nil) (hf := .inl rfl))
    (sd_cons (sd_for (ts := [3, 4]) (id_enum (by kernel_rfl) nb.b_enumerate (da_cons (pd_alt (pd_of (pq_ix (pq_var (i := 0) (by rfl) (.inr (.inl (by kernel_rfl)))) pq_int)) (pd_ln (ln_ix (k := 1) (ln_var (i := 0) (by rfl) (.inr (.inl (by kernel_rfl))))))) da_nil)) (gd_tup (gds_cons (gd_name (i := 3) sc__law_parting_rows.nd (by rfl) (.inl (by kernel_rfl)) (hf := .inl rfl)) (gds_cons (gd_name (i := 4) sc__law_parting_rows.nd (by rfl) (.inl (by kernel_rfl)) (hf := .inl rfl)) gds_nil))) (sd_one (sd_if (td_of (tq_cmp oy_eq ok_eq (pq_ix (pq_var (i := 4) (by rfl) (.inl (by kernel_rfl))) pq_int) pq_str (nomark _))) (sd_cons (sd_setComp (i := 5) (own := [("part", 6)]) (ts := [6]) sc__law_parting_rows.nd (by rfl) (by kernel_rfl) (by rfl) (by rfl) (by kernel_rfl) (id_seq (pd_of (pq_ix (pq_var (i := 4) (by rfl) (.inl (by kernel_rfl))) pq_int))) (blk_mk (by kernel_rfl)) (gd_name (i := 6) sc__law_parting_rows.nd (by rfl) (.inl (by kernel_rfl)) (hf := .inr (by kernel_rfl))) ts_nil (pd_if (td_of (tq_cmp oy_eq ok_eq (pq_ix (pq_ix (pq_ix (pq_var (i := 0) (by rfl) (.inr (.inl (by kernel_rfl)))) pq_int) (pq_var (i := 6) (by rfl) (.inl (by kernel_rfl)))) pq_int) pq_str (nomark _))) (pd_of (pq_ix (pq_ix (pq_ix (pq_var (i := 0) (by rfl) (.inr (.inl (by kernel_rfl)))) pq_int) (pq_var (i := 6) (by rfl) (.inl (by kernel_rfl)))) pq_int)) (pn_bin oy_add ok_add pq_int (pq_var (i := 6) (by rfl) (.inl (by kernel_rfl))))) (by decide) (by decide))
    (sd_one (sd_expr (pd_mt1 (i := 2) PySem.F.slot_list_append PySem.F.type_list_append my_append ok_append (by rfl) (.inl (by kernel_rfl)) (da_cons (pd_tup (da_cons (pd_of (pq_ix (pq_var (i := 4) (by rfl) (.inl (by kernel_rfl))) pq_int)) (da_cons (pd_callT cy_tuple ok_tuple (by kernel_rfl) nb.b_tuple bb_tuple (da_cons (pd_if (td_val (pd_callC (C__law_swaps.mono (Nat.le_of_ble_eq_true rfl)) (by kernel_rfl) (px_slot (i := 1) (by rfl) (.inl (by kernel_rfl)) (px_val (pd_of (pq_ix (pq_var (i := 4) (by rfl) (.inl (by kernel_rfl))) pq_int)) px_nil)))) (pn_callB cy_sorted ok_sorted (by kernel_rfl) nb.b_sorted bb_sorted (qa_cons (pq_var (i := 5) (by rfl) (.inl (by kernel_rfl))) qa_nil)) (pd_var (i := 5) (by rfl) (.inl (by kernel_rfl)))) da_nil)) (da_cons (pn_bin oy_add ok_add pq_int (pq_var (i := 3) (by rfl) (.inl (by kernel_rfl)))) da_nil)))) da_nil))))) sd_nil)))
    (sd_one (sd_ret (pn_callT cy_tuple ok_tuple (by kernel_rfl) nb.b_tuple bb_tuple (qa_cons (pq_callB cy_sorted ok_sorted (by kernel_rfl) nb.b_sorted bb_sorted (qa_cons (pq_var (i := 2) (by rfl) (.inl (by kernel_rfl))) qa_nil)) qa_nil))))))
/-! parts_of_signs -/
abbrev s_parts_of_signs : Stmt := topS 7
theorem sc_parts_of_signs : FnScope ["signs", "name", "many", "swaps"] ["signs"] (defScope s_parts_of_signs) := ⟨rfl, rfl, rfl, by decide +kernel, rfl, by decide +kernel, by decide +kernel⟩
def b_parts_of_signs (lk : Lks) : Ev → Option Out := (sRet (eDComp [1, 2, 3] (iSeq (eOf (q2f opIx (qVar 0) (qC (.int 0))))) (gdTup 3 (gdCons (gdName 1) (gdCons (gdName 2) (gdCons (gdName 3) gdNil)))) dYes (qVar 1) (eTup (eCons (eVar 2) (eCons (eVar 3) eNil)))))
abbrev g_parts_of_signs : Fs := runD 4 1 b_parts_of_signs
theorem ok_parts_of_signs {P : Program} {w : World} {K : PySem.W.Frag} {mg : Str → Option Value} {base : Heap} (nb : NoB K mg) (T : Top K mg "parts_of_signs" s_parts_of_signs ["signs"])  : Ca P w K mg base 1 "parts_of_signs" ["signs"] g_parts_of_signs :=
  ca_of (k := 0) T sc_parts_of_signs fun lk => (sd_one (sd_ret (pd_dcomp (own := [("name", 1), ("many", 2), ("swaps", 3)]) (ts := [1, 2, 3]) sc_parts_of_signs.nd (id_seq (pd_of (pq_ix (pq_var (i := 0) (by rfl) (.inl (by kernel_rfl))) pq_int))) (blk_mk (by kernel_rfl)) (gd_tup (gds_cons (gd_name (i := 1) sc_parts_of_signs.nd (by rfl) (.inl (by kernel_rfl)) (hf := .inr (by kernel_rfl))) (gds_cons (gd_name (i := 2) sc_parts_of_signs.nd (by rfl) (.inl (by kernel_rfl)) (hf := .inr (by kernel_rfl))) (gds_cons (gd_name (i := 3) sc_parts_of_signs.nd (by rfl) (.inl (by kernel_rfl)) (hf := .inr (by kernel_rfl))) gds_nil)))) ts_nil (pq_var (i := 1) (by rfl) (.inl (by kernel_rfl))) (pd_tup (da_cons (pd_var (i := 2) (by rfl) (.inl (by kernel_rfl))) (da_cons (pd_var (i := 3) (by rfl) (.inl (by kernel_rfl))) da_nil))) (by decide) (by decide))))
/-! is_integer -/
abbrev s_is_integer : Stmt := topS 5
theorem sc_is_integer : FnScope ["thing"] ["thing"] (defScope s_is_integer) := ⟨rfl, rfl, rfl, by decide +kernel, rfl, by decide +kernel, by decide +kernel⟩
def b_is_integer (lk : Lks) : Ev → Option Out := (sRet (eOf (qvAnd (q1L opIsi (qCons (qVar 0) (qCons (qC (.ty "int")) qNil))) (qvNot (q1L opIsi (qCons (qVar 0) (qCons (qC (.ty "bool")) qNil)))))))
abbrev g_is_integer : Fs := runD 1 1 b_is_integer
theorem ok_is_integer {P : Program} {w : World} {K : PySem.W.Frag} {mg : Str → Option Value} {base : Heap} (nb : NoB K mg) (T : Top K mg "is_integer" s_is_integer ["thing"])  : Ca P w K mg base 1 "is_integer" ["thing"] g_is_integer :=
  ca_of (k := 0) T sc_is_integer fun lk => (sd_one (sd_ret (pd_of (pq_and (pq_callB cy_isi ok_isi (by kernel_rfl) nb.b_isinstance bb_isinstance (qa_cons (pq_var (i := 0) (by rfl) (.inl (by kernel_rfl))) (qa_cons (pq_ty (T := "int") (by kernel_rfl) nb.b_int bb_int) qa_nil))) (pq_one (pq_not (pq_callB cy_isi ok_isi (by kernel_rfl) nb.b_isinstance bb_isinstance (qa_cons (pq_var (i := 0) (by rfl) (.inl (by kernel_rfl))) (qa_cons (pq_ty (T := "bool") (by kernel_rfl) nb.b_bool bb_bool) qa_nil)))))))))
/-! is_row -/
abbrev s_is_row : Stmt := topS 9
theorem sc_is_row : FnScope ["signs", "row", "at", "part"] ["signs", "row", "at"] (defScope s_is_row) := ⟨rfl, rfl, rfl, by decide +kernel, rfl, by decide +kernel, by decide +kernel⟩
def b_is_row (lk : Lks) : Ev → Option Out := (sSeq (sIf (tOfQ (qOr (qNot (tqf (q1L opIsi (qCons (qVar 1) (qCons (qC (.ty "tuple")) qNil))))) (qOr (tqf (q2f opLt (q1L opLen (qCons (qVar 1) qNil)) (qC (.int 2)))) (qNot (tqf (q1L opIsi (qCons (q2f opIx (qVar 1) (qC (.int 0))) (qCons (qC (.ty "str")) qNil)))))))) (sRet (eOf (qC (.bl false)))) sNil)
  (sSeq (sIf (tOfQ (tqf (q2f opEq (q2f opIx (qVar 1) (qC (.int 0))) (qC (.str "letter"))))) (sRet (eOf (qvAnd (q2f opEq (q1L opLen (qCons (qVar 1) qNil)) (qC (.int 2))) (q1L opIsi (qCons (q2f opIx (qVar 1) (qC (.int 1))) (qCons (qC (.ty "str")) qNil)))))) sNil)
  (sSeq (sIf (tOfQ (tqf (q2f opEq (q2f opIx (qVar 1) (qC (.int 0))) (qC (.str "num"))))) (sRet (evAnd (eOf (q2f opEq (q1L opLen (qCons (qVar 1) qNil)) (qC (.int 2)))) (eCall g_is_integer (xVal (eOf (q2f opIx (qVar 1) (qC (.int 1)))) xNil)))) sNil)
  (sSeq (sIf (tOfQ (qOr (tqf (q2f opNe (q2f opIx (qVar 1) (qC (.int 0))) (qC (.str "op")))) (qOr (tqf (q2f opNe (q1L opLen (qCons (qVar 1) qNil)) (qC (.int 3)))) (qOr (qNot (tqf (q1L opIsi (qCons (q2f opIx (qVar 1) (qC (.int 1))) (qCons (qC (.ty "str")) qNil))))) (tqf (q2f opNotIn (q2f opIx (qVar 1) (qC (.int 1))) (qVar 0))))))) (sRet (eOf (qC (.bl false)))) sNil)
  (sSeq (sIf (tOfQ (qOr (qNot (tqf (q1L opIsi (qCons (q2f opIx (qVar 1) (qC (.int 2))) (qCons (qC (.ty "tuple")) qNil))))) (tqf (q2f opNe (q1L opLen (qCons (q2f opIx (qVar 1) (qC (.int 2))) qNil)) (q2f opIx (q2f opIx (qVar 0) (q2f opIx (qVar 1) (qC (.int 1)))) (qC (.int 0))))))) (sRet (eOf (qC (.bl false)))) sNil)
  (sRet (e1L opAll (eCons (eComp [3] (iSeq (eOf (q2f opIx (qVar 1) (qC (.int 2))))) (gdName 3) dYes (evAnd (eCall g_is_integer (xSlot 3 xNil)) (eOf (qCh opLe opLt (qC (.int 0)) (qVar 3) (qVar 2))))) eNil))))))))
abbrev g_is_row : Fs := runD 4 3 b_is_row
theorem ok_is_row {P : Program} {w : World} {K : PySem.W.Frag} {mg : Str → Option Value} {base : Heap} (nb : NoB K mg) (T : Top K mg "is_row" s_is_row ["signs", "row", "at"]) (C_is_integer : Ca P w K mg base 1 "is_integer" ["thing"] g_is_integer) : Ca P w K mg base 2 "is_row" ["signs", "row", "at"] g_is_row :=
  ca_of (k := 1) T sc_is_row fun lk => (sd_cons (sd_if (td_of (tq_w (wq_or (tq_not (tq_val (pq_callB cy_isi ok_isi (by kernel_rfl) nb.b_isinstance bb_isinstance (qa_cons (pq_var (i := 1) (by rfl) (.inl (by kernel_rfl))) (qa_cons (pq_ty (T := "tuple") (by kernel_rfl) nb.b_tuple bb_tuple) qa_nil))))) (wq_or (tq_cmp oy_lt ok_lt (pq_callB cy_len ok_len (by kernel_rfl) nb.b_len bb_len (qa_cons (pq_var (i := 1) (by rfl) (.inl (by kernel_rfl))) qa_nil)) pq_int (nomark _)) (wq_or1 (tq_not (tq_val (pq_callB cy_isi ok_isi (by kernel_rfl) nb.b_isinstance bb_isinstance (qa_cons (pq_ix (pq_var (i := 1) (by rfl) (.inl (by kernel_rfl))) pq_int) (qa_cons (pq_ty (T := "str") (by kernel_rfl) nb.b_str bb_str) qa_nil)))))))))) (sd_one (sd_ret (pd_of pq_bl))) sd_nil)
    (sd_cons (sd_if (td_of (tq_cmp oy_eq ok_eq (pq_ix (pq_var (i := 1) (by rfl) (.inl (by kernel_rfl))) pq_int) pq_str (nomark _))) (sd_one (sd_ret (pd_of (pq_and (pq_cmp oy_eq ok_eq (pq_callB cy_len ok_len (by kernel_rfl) nb.b_len bb_len (qa_cons (pq_var (i := 1) (by rfl) (.inl (by kernel_rfl))) qa_nil)) pq_int (nomark _)) (pq_one (pq_callB cy_isi ok_isi (by kernel_rfl) nb.b_isinstance bb_isinstance (qa_cons (pq_ix (pq_var (i := 1) (by rfl) (.inl (by kernel_rfl))) pq_int) (qa_cons (pq_ty (T := "str") (by kernel_rfl) nb.b_str bb_str) qa_nil)))))))) sd_nil)
    (sd_cons (sd_if (td_of (tq_cmp oy_eq ok_eq (pq_ix (pq_var (i := 1) (by rfl) (.inl (by kernel_rfl))) pq_int) pq_str (nomark _))) (sd_one (sd_ret (pd_and (pd_of (pq_cmp oy_eq ok_eq (pq_callB cy_len ok_len (by kernel_rfl) nb.b_len bb_len (qa_cons (pq_var (i := 1) (by rfl) (.inl (by kernel_rfl))) qa_nil)) pq_int (nomark _))) (pd_one (pd_callC (C_is_integer.mono (Nat.le_of_ble_eq_true rfl)) (by kernel_rfl) (px_val (pd_of (pq_ix (pq_var (i := 1) (by rfl) (.inl (by kernel_rfl))) pq_int)) px_nil)))))) sd_nil)
    (sd_cons (sd_if (td_of (tq_w (wq_or (tq_cmp oy_ne ok_ne (pq_ix (pq_var (i := 1) (by rfl) (.inl (by kernel_rfl))) pq_int) pq_str (nomark _)) (wq_or (tq_cmp oy_ne ok_ne (pq_callB cy_len ok_len (by kernel_rfl) nb.b_len bb_len (qa_cons (pq_var (i := 1) (by rfl) (.inl (by kernel_rfl))) qa_nil)) pq_int (nomark _)) (wq_or (tq_not (tq_val (pq_callB cy_isi ok_isi (by kernel_rfl) nb.b_isinstance bb_isinstance (qa_cons (pq_ix (pq_var (i := 1) (by rfl) (.inl (by kernel_rfl))) pq_int) (qa_cons (pq_ty (T := "str") (by kernel_rfl) nb.b_str bb_str) qa_nil))))) (wq_or1 (tq_cmp oy_notIn ok_notIn (pq_ix (pq_var (i := 1) (by rfl) (.inl (by kernel_rfl))) pq_int) (pq_var (i := 0) (by rfl) (.inl (by kernel_rfl))) (by with_unfolding_all rfl)))))))) (sd_one (sd_ret (pd_of pq_bl))) sd_nil)
    (sd_cons (sd_if (td_of (tq_w (wq_or (tq_not (tq_val (pq_callB cy_isi ok_isi (by kernel_rfl) nb.b_isinstance bb_isinstance (qa_cons (pq_ix (pq_var (i := 1) (by rfl) (.inl (by kernel_rfl))) pq_int) (qa_cons (pq_ty (T := "tuple") (by kernel_rfl) nb.b_tuple bb_tuple) qa_nil))))) (wq_or1 (tq_cmp oy_ne ok_ne (pq_callB cy_len ok_len (by kernel_rfl) nb.b_len bb_len (qa_cons (pq_ix (pq_var (i := 1) (by rfl) (.inl (by kernel_rfl))) pq_int) qa_nil)) (pq_ix (pq_ix (pq_var (i := 0) (by rfl) (.inl (by kernel_rfl))) (pq_ix (pq_var (i := 1) (by rfl) (.inl (by kernel_rfl))) pq_int)) pq_int) (nomark _)))))) (sd_one (sd_ret (pd_of pq_bl))) sd_nil)
    (sd_one (sd_ret (pd_callB cy_all ok_all (by kernel_rfl) nb.b_all bb_all (da_cons (pd_comp (own := [("part", 3)]) (ts := [3]) sc_is_row.nd (id_seq (pd_of (pq_ix (pq_var (i := 1) (by rfl) (.inl (by kernel_rfl))) pq_int))) (blk_mk (by kernel_rfl)) (gd_name (i := 3) sc_is_row.nd (by rfl) (.inl (by kernel_rfl)) (hf := .inr (by kernel_rfl))) ts_nil (pd_and (pd_callC (C_is_integer.mono (Nat.le_of_ble_eq_true rfl)) (by kernel_rfl) (px_slot (i := 3) (by rfl) (.inl (by kernel_rfl)) px_nil)) (pd_one (pd_of (pq_chain oy_le ok_le oy_lt ok_lt pq_int (pq_var (i := 3) (by rfl) (.inl (by kernel_rfl))) (pq_var (i := 2) (by rfl) (.inr (.inl (by kernel_rfl)))))))) (by decide) (by decide)) da_nil)))))))))
/-! is_rows -/
abbrev s_is_rows : Stmt := topS 10
theorem sc_is_rows : FnScope ["signs", "thing", "told", "at", "row"] ["signs", "thing"] (defScope s_is_rows) := ⟨rfl, rfl, rfl, by decide +kernel, rfl, by decide +kernel, by decide +kernel⟩
def b_is_rows (lk : Lks) : Ev → Option Out := (sSeq (sIf (tOfQ (qOr (qNot (tqf (q1L opIsi (qCons (qVar 1) (qCons (qC (.ty "tuple")) qNil))))) (tqf (q2f opEq (q1L opLen (qCons (qVar 1) qNil)) (qC (.int 0)))))) (sRet (eOf (qC (.bl false)))) sNil)
  (sSeq (sAsg lk [2] (eCall g_parts_of_signs (xSlot 0 xNil)) (gdName 2))
  (sRet (e1L opAll (eCons (eComp [3, 4] (iEnum (eCons (eVar 1) eNil)) (gdTup 2 (gdCons (gdName 3) (gdCons (gdName 4) gdNil))) dYes (eCall g_is_row (xSlot 2 (xSlot 4 (xSlot 3 xNil))))) eNil)))))
abbrev g_is_rows : Fs := runD 5 2 b_is_rows
theorem ok_is_rows {P : Program} {w : World} {K : PySem.W.Frag} {mg : Str → Option Value} {base : Heap} (nb : NoB K mg) (T : Top K mg "is_rows" s_is_rows ["signs", "thing"]) (C_parts_of_signs : Ca P w K mg base 1 "parts_of_signs" ["signs"] g_parts_of_signs) (C_is_row : Ca P w K mg base 2 "is_row" ["signs", "row", "at"] g_is_row) : Ca P w K mg base 3 "is_rows" ["signs", "thing"] g_is_rows :=
  ca_of (k := 2) T sc_is_rows fun lk => (sd_cons (sd_if (td_of (tq_w (wq_or (tq_not (tq_val (pq_callB cy_isi ok_isi (by kernel_rfl) nb.b_isinstance bb_isinstance (qa_cons (pq_var (i := 1) (by rfl) (.inl (by kernel_rfl))) (qa_cons (pq_ty (T := "tuple") (by kernel_rfl) nb.b_tuple bb_tuple) qa_nil))))) (wq_or1 (tq_cmp oy_eq ok_eq (pq_callB cy_len ok_len (by kernel_rfl) nb.b_len bb_len (qa_cons (pq_var (i := 1) (by rfl) (.inl (by kernel_rfl))) qa_nil)) pq_int (nomark _)))))) (sd_one (sd_ret (pd_of pq_bl))) sd_nil)
    (sd_cons (sd_set (i := 2) sc_is_rows.nd (by rfl) (.inr (by kernel_rfl)) (pd_callC (C_parts_of_signs.mono (Nat.le_of_ble_eq_true rfl)) (by kernel_rfl) (px_slot (i := 0) (by rfl) (.inl (by kernel_rfl)) px_nil)) (hf := .inl rfl))
    (sd_one (sd_ret (pd_callB cy_all ok_all (by kernel_rfl) nb.b_all bb_all (da_cons (pd_comp (own := [("at", 3), ("row", 4)]) (ts := [3, 4]) sc_is_rows.nd (id_enum (by kernel_rfl) nb.b_enumerate (da_cons (pd_var (i := 1) (by rfl) (.inl (by kernel_rfl))) da_nil)) (blk_mk (by kernel_rfl)) (gd_tup (gds_cons (gd_name (i := 3) sc_is_rows.nd (by rfl) (.inl (by kernel_rfl)) (hf := .inr (by kernel_rfl))) (gds_cons (gd_name (i := 4) sc_is_rows.nd (by rfl) (.inl (by kernel_rfl)) (hf := .inr (by kernel_rfl))) gds_nil))) ts_nil (pd_callC (C_is_row.mono (Nat.le_of_ble_eq_true rfl)) (by kernel_rfl) (px_slot (i := 2) (by rfl) (.inr (.inl (by kernel_rfl))) (px_slot (i := 4) (by rfl) (.inl (by kernel_rfl)) (px_slot (i := 3) (by rfl) (.inl (by kernel_rfl)) px_nil)))) (by decide) (by decide)) da_nil))))))
/-! need_rows -/
abbrev s_need_rows : Stmt := topS 11
theorem sc_need_rows : FnScope ["signs", "rows"] ["signs", "rows"] (defScope s_need_rows) := ⟨rfl, rfl, rfl, by decide +kernel, rfl, by decide +kernel, by decide +kernel⟩
def b_need_rows (lk : Lks) : Ev → Option Out := (sIf (dNot (tdf (eCall g_is_rows (xSlot 0 (xSlot 1 xNil))))) sNever sNil)
abbrev g_need_rows : Fs := runD 2 2 b_need_rows
theorem ok_need_rows {P : Program} {w : World} {K : PySem.W.Frag} {mg : Str → Option Value} {base : Heap} (nb : NoB K mg) (T : Top K mg "need_rows" s_need_rows ["signs", "rows"]) (C_is_rows : Ca P w K mg base 3 "is_rows" ["signs", "thing"] g_is_rows) : Ca P w K mg base 4 "need_rows" ["signs", "rows"] g_need_rows :=
  ca_of (k := 3) T sc_need_rows fun lk => (sd_one (sd_if (td_not (td_val (pd_callC (C_is_rows.mono (Nat.le_of_ble_eq_true rfl)) (by kernel_rfl) (px_slot (i := 0) (by rfl) (.inl (by kernel_rfl)) (px_slot (i := 1) (by rfl) (.inl (by kernel_rfl)) px_nil))))) (sd_one sd_never) sd_nil))
/-! Terms___init__ -/
abbrev s_Terms___init__ : Stmt := inClass (topS 8) 0
theorem sc_Terms___init__ : FnScope ["self", "signs"] ["self", "signs"] (defScope s_Terms___init__) := ⟨rfl, rfl, rfl, by decide +kernel, rfl, by decide +kernel, by decide +kernel⟩
def b_Terms___init__ (lk : Lks) : Ev → Option Out := (sSeq (sSetAt (lnVar 0) ["Terms"] "its_signs" (eCall g_parts_of_signs (xSlot 1 xNil)))
  (sSeq (sSetAt (lnVar 0) ["Terms"] "its_heads" (eLst eNil))
  (sSeq (sSetAt (lnVar 0) ["Terms"] "its_numbers" eDic0)
  (sSetAt (lnVar 0) ["Terms"] "its_heights" (eLst eNil)))))
abbrev g_Terms___init__ : Fs := runD 2 2 b_Terms___init__
theorem ok_Terms___init__ {P : Program} {w : World} {K : PySem.W.Frag} {mg : Str → Option Value} {base : Heap} (nb : NoB K mg) (T : TopI K mg "Terms" "Terms.__init__" s_Terms___init__ ["self", "signs"]) (C_parts_of_signs : Ca P w K mg base 1 "parts_of_signs" ["signs"] g_parts_of_signs) : Ck P w K mg base 3 "Terms" ["self", "signs"] g_Terms___init__ :=
  ck_of (k := 1) T sc_Terms___init__ fun lk => (sd_cons (sd_setAt (ln_var (i := 0) (by rfl) (.inl (by kernel_rfl))) (pd_callC (C_parts_of_signs.mono (Nat.le_of_ble_eq_true rfl)) (by kernel_rfl) (px_slot (i := 1) (by rfl) (.inl (by kernel_rfl)) px_nil)) (ats_cons nb.a_Terms_its_signs ats_nil))
    (sd_cons (sd_setAt (ln_var (i := 0) (by rfl) (.inl (by kernel_rfl))) (pd_lst da_nil) (ats_cons nb.a_Terms_its_heads ats_nil))
    (sd_cons (sd_setAt (ln_var (i := 0) (by rfl) (.inl (by kernel_rfl))) pd_dic0 (ats_cons nb.a_Terms_its_numbers ats_nil))
    (sd_one (sd_setAt (ln_var (i := 0) (by rfl) (.inl (by kernel_rfl))) (pd_lst da_nil) (ats_cons nb.a_Terms_its_heights ats_nil))))))
/-! Terms_numbered -/
abbrev s_Terms_numbered : Stmt := inClass (topS 8) 2
theorem sc_Terms_numbered : FnScope ["self", "head", "height"] ["self", "head", "height"] (defScope s_Terms_numbered) := ⟨rfl, rfl, rfl, by decide +kernel, rfl, by decide +kernel, by decide +kernel⟩
def b_Terms_numbered (lk : Lks) : Ev → Option Out := (sSeq (sIf (tOfQ (tqf (q2f opNotIn (qVar 1) (qAt ["Terms"] "its_numbers" (qVar 0))))) (sSeq (sAsg lk [] (n1L opLen (qCons (qAt ["Terms"] "its_heads" (qVar 0)) qNil)) (gdPut (lnAt ["Terms"] "its_numbers" (lnVar 0)) (qVar 1)))
  (sSeq (sExpr (eMtL (lnAt ["Terms"] "its_heads" (lnVar 0)) mAppend (qCons (qVar 1) qNil)))
  (sExpr (eMtL (lnAt ["Terms"] "its_heights" (lnVar 0)) mAppend (qCons (qVar 2) qNil))))) sNil)
  (sRet (eOf (q2f opIx (qAt ["Terms"] "its_numbers" (qVar 0)) (qVar 1)))))
abbrev g_Terms_numbered : Fs := runD 3 3 b_Terms_numbered
theorem ok_Terms_numbered {P : Program} {w : World} {K : PySem.W.Frag} {mg : Str → Option Value} {base : Heap} (nb : NoB K mg) (T : TopM K mg "Terms" "numbered" "Terms.numbered" s_Terms_numbered ["self", "head", "height"])  : Cm P w K mg base 1 "Terms" "numbered" ["self", "head", "height"] g_Terms_numbered :=
  cm_of (k := 0) T sc_Terms_numbered fun lk => (sd_cons (sd_if (td_of (tq_cmp oy_notIn ok_notIn (pq_var (i := 1) (by rfl) (.inl (by kernel_rfl))) (pq_at (pq_var (i := 0) (by rfl) (.inl (by kernel_rfl))) (ats_cons nb.a_Terms_its_numbers ats_nil)) (by with_unfolding_all rfl))) (sd_cons (sd_asg (ts := []) (pn_callB cy_len ok_len (by kernel_rfl) nb.b_len bb_len (qa_cons (pq_at (pq_var (i := 0) (by rfl) (.inl (by kernel_rfl))) (ats_cons nb.a_Terms_its_heads ats_nil)) qa_nil)) (gd_put (ln_at (ln_var (i := 0) (by rfl) (.inl (by kernel_rfl))) (ats_cons nb.a_Terms_its_numbers ats_nil)) (pq_var (i := 1) (by rfl) (.inl (by kernel_rfl)))))
    (sd_cons (sd_expr (pd_mtL1 PySem.F.slot_list_append PySem.F.type_list_append my_append ok_append (ln_at (ln_var (i := 0) (by rfl) (.inl (by kernel_rfl))) (ats_cons nb.a_Terms_its_heads ats_nil)) (qa_cons (pq_var (i := 1) (by rfl) (.inl (by kernel_rfl))) qa_nil)))
    (sd_one (sd_expr (pd_mtL1 PySem.F.slot_list_append PySem.F.type_list_append my_append ok_append (ln_at (ln_var (i := 0) (by rfl) (.inl (by kernel_rfl))) (ats_cons nb.a_Terms_its_heights ats_nil)) (qa_cons (pq_var (i := 2) (by rfl) (.inl (by kernel_rfl))) qa_nil)))))) sd_nil)
    (sd_one (sd_ret (pd_of (pq_ix (pq_at (pq_var (i := 0) (by rfl) (.inl (by kernel_rfl))) (ats_cons nb.a_Terms_its_numbers ats_nil)) (pq_var (i := 1) (by rfl) (.inl (by kernel_rfl))))))))
/-! Terms_letter -/
abbrev s_Terms_letter : Stmt := inClass (topS 8) 3
theorem sc_Terms_letter : FnScope ["self", "text"] ["self", "text"] (defScope s_Terms_letter) := ⟨rfl, rfl, rfl, by decide +kernel, rfl, by decide +kernel, by decide +kernel⟩
def b_Terms_letter (lk : Lks) : Ev → Option Out := (sRet (eMeth "Terms" "numbered" g_Terms_numbered 0 (xVal (eTup (eCons (eOf (qC (.str "letter"))) (eCons (eVar 1) eNil))) (xVal (eOf (qC (.int 0))) xNil))))
abbrev g_Terms_letter : Fs := runD 2 2 b_Terms_letter
theorem ok_Terms_letter {P : Program} {w : World} {K : PySem.W.Frag} {mg : Str → Option Value} {base : Heap} (nb : NoB K mg) (T : TopM K mg "Terms" "letter" "Terms.letter" s_Terms_letter ["self", "text"]) (C_Terms_numbered : Cm P w K mg base 1 "Terms" "numbered" ["self", "head", "height"] g_Terms_numbered) : Cm P w K mg base 2 "Terms" "letter" ["self", "text"] g_Terms_letter :=
  cm_of (k := 1) T sc_Terms_letter fun lk => (sd_one (sd_ret (pd_methC (i := 0) (C_Terms_numbered.mono (Nat.le_of_ble_eq_true rfl)) (by rfl) (.inl (by kernel_rfl)) (px_val (pd_tup (da_cons (pd_of pq_str) (da_cons (pd_var (i := 1) (by rfl) (.inl (by kernel_rfl))) da_nil))) (px_val (pd_of pq_int) px_nil)))))
/-! Terms_num -/
abbrev s_Terms_num : Stmt := inClass (topS 8) 4
theorem sc_Terms_num : FnScope ["self", "n"] ["self", "n"] (defScope s_Terms_num) := ⟨rfl, rfl, rfl, by decide +kernel, rfl, by decide +kernel, by decide +kernel⟩
def b_Terms_num (lk : Lks) : Ev → Option Out := (sRet (eMeth "Terms" "numbered" g_Terms_numbered 0 (xVal (eTup (eCons (eOf (qC (.str "num"))) (eCons (eVar 1) eNil))) (xVal (eOf (qC (.int 0))) xNil))))
abbrev g_Terms_num : Fs := runD 2 2 b_Terms_num
theorem ok_Terms_num {P : Program} {w : World} {K : PySem.W.Frag} {mg : Str → Option Value} {base : Heap} (nb : NoB K mg) (T : TopM K mg "Terms" "num" "Terms.num" s_Terms_num ["self", "n"]) (C_Terms_numbered : Cm P w K mg base 1 "Terms" "numbered" ["self", "head", "height"] g_Terms_numbered) : Cm P w K mg base 2 "Terms" "num" ["self", "n"] g_Terms_num :=
  cm_of (k := 1) T sc_Terms_num fun lk => (sd_one (sd_ret (pd_methC (i := 0) (C_Terms_numbered.mono (Nat.le_of_ble_eq_true rfl)) (by rfl) (.inl (by kernel_rfl)) (px_val (pd_tup (da_cons (pd_of pq_str) (da_cons (pd_var (i := 1) (by rfl) (.inl (by kernel_rfl))) da_nil))) (px_val (pd_of pq_int) px_nil)))))
/-! Terms_op -/
abbrev s_Terms_op : Stmt := inClass (topS 8) 5
theorem sc_Terms_op : FnScope ["self", "o", "parts", "height", "part"] ["self", "o", "parts"] (defScope s_Terms_op) := ⟨rfl, rfl, rfl, by decide +kernel, rfl, by decide +kernel, by decide +kernel⟩
def b_Terms_op (lk : Lks) : Ev → Option Out := (sSeq (sAsg lk [2] (n1L opTuple (qCons (qVar 2) qNil)) (gdName 2))
  (sSeq (sIf (tOfQ (qAnd (tqf (q2f opEq (q2f opIx (q2f opIx (qAt ["Terms"] "its_signs" (qVar 0)) (qVar 1)) (qC (.int 1))) (qC (.int 1)))) (tqf (q2f opGt (q2f opIx (qVar 2) (qC (.int 0))) (q2f opIx (qVar 2) (qC (.int 1))))))) (sAsg lk [2] (eTup (eCons (eOf (q2f opIx (qVar 2) (qC (.int 1)))) (eCons (eOf (q2f opIx (qVar 2) (qC (.int 0)))) eNil))) (gdName 2)) sNil)
  (sSeq (sAsg lk [3] (e2f opAdd (eOf (qC (.int 1))) (e1L opMax (eCons (eCompQ [4] 2 (gdName 4) dYes (eOf (q2f opIx (qAt ["Terms"] "its_heights" (qVar 0)) (qVar 4)))) eNil))) (gdName 3))
  (sRet (eMeth "Terms" "numbered" g_Terms_numbered 0 (xVal (eTup (eCons (eOf (qC (.str "op"))) (eCons (eVar 1) (eCons (eVar 2) eNil)))) (xSlot 3 xNil)))))))
abbrev g_Terms_op : Fs := runD 5 3 b_Terms_op
theorem ok_Terms_op {P : Program} {w : World} {K : PySem.W.Frag} {mg : Str → Option Value} {base : Heap} (nb : NoB K mg) (T : TopM K mg "Terms" "op" "Terms.op" s_Terms_op ["self", "o", "parts"]) (C_Terms_numbered : Cm P w K mg base 1 "Terms" "numbered" ["self", "head", "height"] g_Terms_numbered) : Cm P w K mg base 2 "Terms" "op" ["self", "o", "parts"] g_Terms_op :=
  cm_of (k := 1) T sc_Terms_op fun lk => (sd_cons (sd_set (i := 2) sc_Terms_op.nd (by rfl) (.inl (by kernel_rfl)) (pn_callT cy_tuple ok_tuple (by kernel_rfl) nb.b_tuple bb_tuple (qa_cons (pq_var (i := 2) (by rfl) (.inl (by kernel_rfl))) qa_nil)) (hf := .inl rfl))
    (sd_cons (sd_if (td_of (tq_w (wq_and (tq_cmp oy_eq ok_eq (pq_ix (pq_ix (pq_at (pq_var (i := 0) (by rfl) (.inr (.inl (by kernel_rfl)))) (ats_cons nb.a_Terms_its_signs ats_nil)) (pq_var (i := 1) (by rfl) (.inl (by kernel_rfl)))) pq_int) pq_int (nomark _)) (wq_and1 (tq_cmp oy_gt ok_gt (pq_ix (pq_var (i := 2) (by rfl) (.inl (by kernel_rfl))) pq_int) (pq_ix (pq_var (i := 2) (by rfl) (.inl (by kernel_rfl))) pq_int) (nomark _)))))) (sd_one (sd_set (i := 2) sc_Terms_op.nd (by rfl) (.inl (by kernel_rfl)) (pd_tup (da_cons (pd_of (pq_ix (pq_var (i := 2) (by rfl) (.inl (by kernel_rfl))) pq_int)) (da_cons (pd_of (pq_ix (pq_var (i := 2) (by rfl) (.inl (by kernel_rfl))) pq_int)) da_nil))) (hf := .inl rfl))) sd_nil)
    (sd_cons (sd_set (i := 3) sc_Terms_op.nd (by rfl) (.inl (by kernel_rfl)) (pd_bin oy_add ok_add (pd_of pq_int) (pd_callB cy_max ok_max (by kernel_rfl) nb.b_max bb_max (da_cons (pd_compQ (own := [("part", 4)]) (ts := [4]) (j := 2) sc_Terms_op.nd (by rfl) (.inl (by kernel_rfl)) (blk_mk (by kernel_rfl)) (gd_name (i := 4) sc_Terms_op.nd (by rfl) (.inl (by kernel_rfl)) (hf := .inr (by kernel_rfl))) ts_nil (pd_of (pq_ix (pq_at (pq_var (i := 0) (by rfl) (.inr (.inl (by kernel_rfl)))) (ats_cons nb.a_Terms_its_heights ats_nil)) (pq_var (i := 4) (by rfl) (.inl (by kernel_rfl))))) (by decide) (by decide) (by decide)) da_nil))) (hf := .inl rfl))
    (sd_one (sd_ret (pd_methC (i := 0) (C_Terms_numbered.mono (Nat.le_of_ble_eq_true rfl)) (by rfl) (.inr (.inl (by kernel_rfl))) (px_val (pd_tup (da_cons (pd_of pq_str) (da_cons (pd_var (i := 1) (by rfl) (.inl (by kernel_rfl))) (da_cons (pd_var (i := 2) (by rfl) (.inl (by kernel_rfl))) da_nil)))) (px_slot (i := 3) (by rfl) (.inl (by kernel_rfl)) px_nil))))))))
/-! put_rows -/
abbrev s_put_rows : Stmt := topS 12
theorem sc_put_rows : FnScope ["terms", "rows", "found", "row", "part"] ["terms", "rows"] (defScope s_put_rows) := ⟨rfl, rfl, rfl, by decide +kernel, rfl, by decide +kernel, by decide +kernel⟩
def l_put_rows_1 (lk : Lks) : Ev → Option Out := (sIf (tOfQ (tqf (q2f opEq (q2f opIx (qVar 3) (qC (.int 0))) (qC (.str "letter"))))) (sExpr (eMt 2 mAppend (eCons (eMeth "Terms" "letter" g_Terms_letter 0 (xVal (eOf (q2f opIx (qVar 3) (qC (.int 1)))) xNil)) eNil))) (sIf (tOfQ (tqf (q2f opEq (q2f opIx (qVar 3) (qC (.int 0))) (qC (.str "num"))))) (sExpr (eMt 2 mAppend (eCons (eMeth "Terms" "num" g_Terms_num 0 (xVal (eOf (q2f opIx (qVar 3) (qC (.int 1)))) xNil)) eNil))) (sExpr (eMt 2 mAppend (eCons (eMeth "Terms" "op" g_Terms_op 0 (xVal (eOf (q2f opIx (qVar 3) (qC (.int 1)))) (xValF (eComp [4] (iSeq (eOf (q2f opIx (qVar 3) (qC (.int 2))))) (gdName 4) dYes (eOf (q2f opIx (qVar 2) (qVar 4)))) xNil))) eNil)))))
def b_put_rows (lk : Lks) : Ev → Option Out := (sSeq (sAsg lk [2] (eLst eNil) (gdName 2))
  (sSeq (sForQ lk 1 [3] (gdName 3) l_put_rows_1)
  (sRetV lk 2)))
abbrev g_put_rows : Fs := runD 5 2 b_put_rows
theorem ok_put_rows {P : Program} {w : World} {K : PySem.W.Frag} {mg : Str → Option Value} {base : Heap} (nb : NoB K mg) (T : Top K mg "put_rows" s_put_rows ["terms", "rows"]) (C_Terms_letter : Cm P w K mg base 2 "Terms" "letter" ["self", "text"] g_Terms_letter) (C_Terms_num : Cm P w K mg base 2 "Terms" "num" ["self", "n"] g_Terms_num) (C_Terms_op : Cm P w K mg base 2 "Terms" "op" ["self", "o", "parts"] g_Terms_op) : Ca P w K mg base 3 "put_rows" ["terms", "rows"] g_put_rows :=
  ca_of (k := 2) T sc_put_rows fun lk => (sd_cons (sd_set (i := 2) sc_put_rows.nd (by rfl) (.inr (by kernel_rfl)) (pd_lst da_nil) (hf := .inl rfl))
    (sd_cons (sd_forQ (i := 1) (ts := [3]) (by rfl) (.inl (by kernel_rfl)) (gd_name (i := 3) sc_put_rows.nd (by rfl) (.inl (by kernel_rfl)) (hf := .inl rfl)) (fun lk => (sd_one (sd_if (td_of (tq_cmp oy_eq ok_eq (pq_ix (pq_var (i := 3) (by rfl) (.inl (by kernel_rfl))) pq_int) pq_str (nomark _))) (sd_one (sd_expr (pd_mt1 (i := 2) PySem.F.slot_list_append PySem.F.type_list_append my_append ok_append (by rfl) (.inr (.inl (by kernel_rfl))) (da_cons (pd_methC (i := 0) (C_Terms_letter.mono (Nat.le_of_ble_eq_true rfl)) (by rfl) (.inl (by kernel_rfl)) (px_val (pd_of (pq_ix (pq_var (i := 3) (by rfl) (.inl (by kernel_rfl))) pq_int)) px_nil)) da_nil)))) (sd_one (sd_if (td_of (tq_cmp oy_eq ok_eq (pq_ix (pq_var (i := 3) (by rfl) (.inl (by kernel_rfl))) pq_int) pq_str (nomark _))) (sd_one (sd_expr (pd_mt1 (i := 2) PySem.F.slot_list_append PySem.F.type_list_append my_append ok_append (by rfl) (.inr (.inl (by kernel_rfl))) (da_cons (pd_methC (i := 0) (C_Terms_num.mono (Nat.le_of_ble_eq_true rfl)) (by rfl) (.inl (by kernel_rfl)) (px_val (pd_of (pq_ix (pq_var (i := 3) (by rfl) (.inl (by kernel_rfl))) pq_int)) px_nil)) da_nil)))) (sd_one (sd_expr (pd_mt1 (i := 2) PySem.F.slot_list_append PySem.F.type_list_append my_append ok_append (by rfl) (.inr (.inl (by kernel_rfl))) (da_cons (pd_methC (i := 0) (C_Terms_op.mono (Nat.le_of_ble_eq_true rfl)) (by rfl) (.inl (by kernel_rfl)) (px_val (pd_of (pq_ix (pq_var (i := 3) (by rfl) (.inl (by kernel_rfl))) pq_int)) (px_valF (pd_comp (own := [("part", 4)]) (ts := [4]) sc_put_rows.nd (id_seq (pd_of (pq_ix (pq_var (i := 3) (by rfl) (.inl (by kernel_rfl))) pq_int))) (blk_mk (by kernel_rfl)) (gd_name (i := 4) sc_put_rows.nd (by rfl) (.inl (by kernel_rfl)) (hf := .inr (by kernel_rfl))) ts_nil (pd_of (pq_ix (pq_var (i := 2) (by rfl) (.inr (.inl (by kernel_rfl)))) (pq_var (i := 4) (by rfl) (.inl (by kernel_rfl))))) (by decide) (by decide)) px_nil))) da_nil))))))))))
    (sd_one (sd_retV (i := 2) (by rfl) (.inr (.inl (by kernel_rfl)))))))
/-! same -/
abbrev s_same : Stmt := topS 13
theorem sc_same : FnScope ["signs", "one", "other", "terms"] ["signs", "one", "other"] (defScope s_same) := ⟨rfl, rfl, rfl, by decide +kernel, rfl, by decide +kernel, by decide +kernel⟩
def b_same (lk : Lks) : Ev → Option Out := (sSeq (sExpr (eCall g_need_rows (xSlot 0 (xSlot 1 xNil))))
  (sSeq (sExpr (eCall g_need_rows (xSlot 0 (xSlot 2 xNil))))
  (sSeq (sAsg lk [3] (eMake "Terms" g_Terms___init__ (xSlot 0 xNil)) (gdName 3))
  (sRet (e2f opEq (e2f opIxF (eCall g_put_rows (xSlot 3 (xSlot 1 xNil))) (eOf (q1f opNeg (qC (.int 1))))) (e2f opIxF (eCall g_put_rows (xSlot 3 (xSlot 2 xNil))) (eOf (q1f opNeg (qC (.int 1))))))))))
abbrev g_same : Fs := runD 4 3 b_same
theorem ok_same {P : Program} {w : World} {K : PySem.W.Frag} {mg : Str → Option Value} {base : Heap} (nb : NoB K mg) (T : Top K mg "same" s_same ["signs", "one", "other"]) (C_need_rows : Ca P w K mg base 4 "need_rows" ["signs", "rows"] g_need_rows) (C_Terms___init__ : Ck P w K mg base 3 "Terms" ["self", "signs"] g_Terms___init__) (C_put_rows : Ca P w K mg base 3 "put_rows" ["terms", "rows"] g_put_rows) : Ca P w K mg base 5 "same" ["signs", "one", "other"] g_same :=
  ca_of (k := 4) T sc_same fun lk => (sd_cons (sd_expr (pd_callC (C_need_rows.mono (Nat.le_of_ble_eq_true rfl)) (by kernel_rfl) (px_slot (i := 0) (by rfl) (.inl (by kernel_rfl)) (px_slot (i := 1) (by rfl) (.inl (by kernel_rfl)) px_nil))))
    (sd_cons (sd_expr (pd_callC (C_need_rows.mono (Nat.le_of_ble_eq_true rfl)) (by kernel_rfl) (px_slot (i := 0) (by rfl) (.inl (by kernel_rfl)) (px_slot (i := 2) (by rfl) (.inl (by kernel_rfl)) px_nil))))
    (sd_cons (sd_set (i := 3) sc_same.nd (by rfl) (.inl (by kernel_rfl)) (pd_makeC (C_Terms___init__.mono (Nat.le_of_ble_eq_true rfl)) (by kernel_rfl) (px_slot (i := 0) (by rfl) (.inl (by kernel_rfl)) px_nil)) (hf := .inl rfl))
    (sd_one (sd_ret (pd_cmp oy_eq ok_eq (pd_ix (pd_callC (C_put_rows.mono (Nat.le_of_ble_eq_true rfl)) (by kernel_rfl) (px_slot (i := 3) (by rfl) (.inl (by kernel_rfl)) (px_slot (i := 1) (by rfl) (.inl (by kernel_rfl)) px_nil))) (pd_of (pq_un uy_neg ok_neg pq_int))) (pd_ix (pd_callC (C_put_rows.mono (Nat.le_of_ble_eq_true rfl)) (by kernel_rfl) (px_slot (i := 3) (by rfl) (.inl (by kernel_rfl)) (px_slot (i := 2) (by rfl) (.inl (by kernel_rfl)) px_nil))) (pd_of (pq_un uy_neg ok_neg pq_int))) (nomark _)))))))
/-! law -/
abbrev s_law : Stmt := topS 39
theorem sc_law : FnScope ["script", "bag", "signs", "graph", "rows", "nodes", "letters", "seed", "worths", "own", "parting", "apart", "told", "lap", "k", "m", "row", "node", "key"] ["script"] (defScope s_law) := ⟨rfl, rfl, rfl, by decide +kernel, rfl, by decide +kernel, by decide +kernel⟩
def l_law_1 (lk : Lks) : Ev → Option Out := (sSeq (sPar lk 14 15 (eCons (eCall g__law_take (xSlot 1 (xVal (n1L opLen (qCons (qVar 4) qNil)) xNil))) (eCons (eCall g__law_take (xSlot 1 (xVal (n1L opLen (qCons (qVar 4) qNil)) xNil))) eNil)))
  (sIf (dNot (tdf (eCall g__law_alike (xVal (eLst (eCons (eCall g_same (xSlot 2 (xVal (nSl (qVar 4) qNo (qPart (q2f opAdd (qVar 14) (qC (.int 1))))) (xVal (nSl (qVar 4) qNo (qPart (q2f opAdd (qVar 15) (qC (.int 1))))) xNil)))) (eCons (eOf (q2f opEq (q2f opIx (qVar 12) (qVar 14)) (q2f opIx (qVar 12) (qVar 15)))) eNil))) (xVal (n2f opMul (qLst (qCons (q2f opEq (q2f opIx (qVar 5) (qVar 14)) (q2f opIx (qVar 5) (qVar 15))) qNil)) (qC (.int 2))) xNil))))) (sRet (eOf (qC (.bl false)))) sNil))
def b_law (lk : Lks) : Ev → Option Out := (sSeq (sAsg lk [1] (eCall g__law_bag (xSlot 0 xNil)) (gdName 1))
  (sSeq (sPar lk 2 3 (eCons (eCall g__law_signs (xSlot 1 xNil)) (eCons (eCall g__law_graph xNil) eNil)))
  (sSeq (sAsg lk [4] (eCall g__law_drawn_rows (xSlot 1 (xSlot 2 (xVal (eOf (qC (.int 18))) xNil)))) (gdName 4))
  (sSeq (sAsg lk [5] (eCall g__law_nodes (xSlot 3 (xSlot 2 (xSlot 4 xNil)))) (gdName 5))
  (sSeq (sAsg lk [6] (e1L opDict (eCons (eCompQ [16] 4 (gdName 16) (tOfQ (tqf (q2f opEq (q2f opIx (qVar 16) (qC (.int 0))) (qC (.str "letter"))))) (eTup (eCons (eOf (q2f opIx (qVar 16) (qC (.int 1)))) (eCons (e2f opSub (eCall g__law_take (xSlot 1 (xVal (eOf (qC (.int 40))) xNil))) (eOf (qC (.int 20)))) eNil)))) eNil)) (gdName 6))
  (sSeq (sAsg lk [7] (eCall g__law_some (xSlot 1 (xVal (eLst (eCons (eOf (qC (.int 0))) (eCons (eOf (qC (.int 7))) (eCons (eOf (q1f opNeg (qC (.int 5)))) (eCons (eOf (qC (.int 1000002))) (eCons (n2f opPow (qC (.int 10)) (qC (.int 30))) eNil)))))) xNil))) (gdName 7))
  (sSeq (sAsg lk [8, 9] (eTup (eCons (eCall g__law_worths_by (xVal (eMake "World" g_World___init__ (xSlot 2 (xVal (eTup (eCons (eOf (qC (.str "formula"))) (eCons (eVar 7) eNil))) (xVal (eTup eNil) (xVal (eTup eNil) xNil))))) (xSlot 4 (xSlot 6 xNil)))) (eCons (eCall g__law_worths (xSlot 3 (xSlot 2 (xSlot 7 (xSlot 6 (xSlot 5 xNil)))))) eNil))) (gdTup 2 (gdCons (gdName 8) (gdCons (gdName 9) gdNil))))
  (sSeq (sIf (dNot (tdf (eCall g__law_alike (xSlot 8 (xVal (eCompQ [17] 5 (gdName 17) dYes (eOf (q2f opIx (qVar 9) (qVar 17)))) xNil))))) (sRet (eOf (qC (.bl false)))) sNil)
  (sSeq (sAsg lk [10] (eMake "World" g_World___init__ (xSlot 2 (xVal (eTup (eCons (eOf (qC (.str "table"))) (eCons (eCall g__law_parting_rows (xSlot 3 (xSlot 2 xNil))) eNil))) (xVal (eTup eNil) (xVal (eTup eNil) xNil))))) (gdName 10))
  (sSeq (sAsg lk [11] (e1L opDict (eCons (eComp [17, 18] (iEnum (eCons (eAlt (eOf (q2f opIx (qVar 3) (qC (.int 1)))) (eLn (lnIx 1 (lnVar 3)))) eNil)) (gdTup 2 (gdCons (gdName 17) (gdCons (gdName 18) gdNil))) (tOfQ (tqf (q2f opEq (q2f opIx (qVar 18) (qC (.int 0))) (qC (.str "letter"))))) (eTup (eCons (eOf (q2f opIx (qVar 18) (qC (.int 1)))) (eCons (n2f opAdd (qC (.int 1000)) (qVar 17)) eNil)))) eNil)) (gdName 11))
  (sSeq (sAsg lk [12] (eCall g__law_worths_by (xSlot 10 (xSlot 4 (xSlot 11 xNil)))) (gdName 12))
  (sSeq (sFor lk [13] (iRange (eCons (eOf (qC (.int 10))) eNil)) (gdName 13) (l_law_1 lk))
  (sRet (eOf (qC (.bl true))))))))))))))))
abbrev g_law : Fs := runD 19 1 b_law
theorem fn_law {P : Program} {w : World} {K : PySem.W.Frag} {mg : Str → Option Value} {base : Heap} {a : Addr} {fd : FuncData} (nb : NoB K mg) (F : Fun K "law" "law" s_law a fd) (C__law_bag : Ca P w K mg base 1 "_law_bag" ["script"] g__law_bag) (C__law_signs : Ca P w K mg base 2 "_law_signs" ["bag"] g__law_signs) (C__law_graph : Ca P w K mg base 1 "_law_graph" [] g__law_graph) (C__law_drawn_rows : Ca P w K mg base 3 "_law_drawn_rows" ["bag", "signs", "many"] g__law_drawn_rows) (C__law_nodes : Ca P w K mg base 3 "_law_nodes" ["graph", "signs", "rows"] g__law_nodes) (C__law_take : Ca P w K mg base 1 "_law_take" ["bag", "many"] g__law_take) (C__law_some : Ca P w K mg base 2 "_law_some" ["bag", "things"] g__law_some) (C__law_worths_by : Ca P w K mg base 3 "_law_worths_by" ["world", "rows", "letters"] g__law_worths_by) (C_World___init__ : Ck P w K mg base 3 "World" ["self", "signs", "meaning", "reads", "answers"] g_World___init__) (C__law_worths : Ca P w K mg base 3 "_law_worths" ["graph", "signs", "seed", "letters", "nodes"] g__law_worths) (C__law_alike : Ca P w K mg base 1 "_law_alike" ["found", "due"] g__law_alike) (C__law_parting_rows : Ca P w K mg base 2 "_law_parting_rows" ["graph", "signs"] g__law_parting_rows) (C_same : Ca P w K mg base 5 "same" ["signs", "one", "other"] g_same) : FnG P w K mg base 6 a fd ["script"] g_law :=
  fnG_of (k := 5) F sc_law fun lk => (sd_cons (sd_set (i := 1) sc_law.nd (by rfl) (.inr (by kernel_rfl)) (pd_callC (C__law_bag.mono (Nat.le_of_ble_eq_true rfl)) (by kernel_rfl) (px_slot (i := 0) (by rfl) (.inl (by kernel_rfl)) px_nil)) (hf := .inl rfl))
    (sd_cons (sd_par (i := 2) (j := 3) sc_law.nd (by rfl) (by rfl) (by decide) (by kernel_rfl) (by kernel_rfl) (da_cons (pd_callC (C__law_signs.mono (Nat.le_of_ble_eq_true rfl)) (by kernel_rfl) (px_slot (i := 1) (by rfl) (.inr (.inl (by kernel_rfl))) px_nil)) (da_cons (pd_call0C (C__law_graph.mono (Nat.le_of_ble_eq_true rfl)) (by kernel_rfl)) da_nil)) (fun X h => (sw_scope h).trans (by kernel_rfl)))
    (sd_cons (sd_set (i := 4) sc_law.nd (by rfl) (.inl (by kernel_rfl)) (pd_callC (C__law_drawn_rows.mono (Nat.le_of_ble_eq_true rfl)) (by kernel_rfl) (px_slot (i := 1) (by rfl) (.inr (.inl (by kernel_rfl))) (px_slot (i := 2) (by rfl) (.inl (by kernel_rfl)) (px_val (pd_of pq_int) px_nil)))) (hf := .inl rfl))
    (sd_cons (sd_set (i := 5) sc_law.nd (by rfl) (.inl (by kernel_rfl)) (pd_callC (C__law_nodes.mono (Nat.le_of_ble_eq_true rfl)) (by kernel_rfl) (px_slot (i := 3) (by rfl) (.inl (by kernel_rfl)) (px_slot (i := 2) (by rfl) (.inl (by kernel_rfl)) (px_slot (i := 4) (by rfl) (.inl (by kernel_rfl)) px_nil)))) (hf := .inl rfl))
    (sd_cons (sd_set (i := 6) sc_law.nd (by rfl) (.inl (by kernel_rfl)) (pd_callT cy_dict ok_dict (by kernel_rfl) nb.b_dict bb_dict (da_cons (pd_compQ (own := [("row", 16)]) (ts := [16]) (j := 4) sc_law.nd (by rfl) (.inl (by kernel_rfl)) (blk_mk (by kernel_rfl)) (gd_name (i := 16) sc_law.nd (by rfl) (.inl (by kernel_rfl)) (hf := .inr (by kernel_rfl))) (ts_one (td_of (tq_cmp oy_eq ok_eq (pq_ix (pq_var (i := 16) (by rfl) (.inl (by kernel_rfl))) pq_int) pq_str (nomark _)))) (pd_tup (da_cons (pd_of (pq_ix (pq_var (i := 16) (by rfl) (.inl (by kernel_rfl))) pq_int)) (da_cons (pd_bin oy_sub ok_sub (pd_callC (C__law_take.mono (Nat.le_of_ble_eq_true rfl)) (by kernel_rfl) (px_slot (i := 1) (by rfl) (.inr (.inl (by kernel_rfl))) (px_val (pd_of pq_int) px_nil))) (pd_of pq_int)) da_nil))) (by decide) (by decide) (by decide)) da_nil)) (hf := .inl rfl))
    (sd_cons (sd_set (i := 7) sc_law.nd (by rfl) (.inl (by kernel_rfl)) (pd_callC (C__law_some.mono (Nat.le_of_ble_eq_true rfl)) (by kernel_rfl) (px_slot (i := 1) (by rfl) (.inr (.inl (by kernel_rfl))) (px_val (pd_lst (da_cons (pd_of pq_int) (da_cons (pd_of pq_int) (da_cons (pd_of (pq_un uy_neg ok_neg pq_int)) (da_cons (pd_of pq_int) (da_cons (pn_bin oy_pow ok_pow pq_int pq_int) da_nil)))))) px_nil))) (hf := .inl rfl))
    (sd_cons (sd_asg (ts := [8, 9]) (pd_tup (da_cons (pd_callC (C__law_worths_by.mono (Nat.le_of_ble_eq_true rfl)) (by kernel_rfl) (px_val (pd_makeC (C_World___init__.mono (Nat.le_of_ble_eq_true rfl)) (by kernel_rfl) (px_slot (i := 2) (by rfl) (.inl (by kernel_rfl)) (px_val (pd_tup (da_cons (pd_of pq_str) (da_cons (pd_var (i := 7) (by rfl) (.inl (by kernel_rfl))) da_nil))) (px_val (pd_tup da_nil) (px_val (pd_tup da_nil) px_nil))))) (px_slot (i := 4) (by rfl) (.inl (by kernel_rfl)) (px_slot (i := 6) (by rfl) (.inl (by kernel_rfl)) px_nil)))) (da_cons (pd_callC (C__law_worths.mono (Nat.le_of_ble_eq_true rfl)) (by kernel_rfl) (px_slot (i := 3) (by rfl) (.inl (by kernel_rfl)) (px_slot (i := 2) (by rfl) (.inl (by kernel_rfl)) (px_slot (i := 7) (by rfl) (.inl (by kernel_rfl)) (px_slot (i := 6) (by rfl) (.inl (by kernel_rfl)) (px_slot (i := 5) (by rfl) (.inl (by kernel_rfl)) px_nil)))))) da_nil))) (gd_tup (gds_cons (gd_name (i := 8) sc_law.nd (by rfl) (.inl (by kernel_rfl)) (hf := .inl rfl)) (gds_cons (gd_name (i := 9) sc_law.nd (by rfl) (.inr (by kernel_rfl)) (hf := .inl rfl)) gds_nil))) (hw := fun X h => (sw_scope h).trans (by kernel_rfl)))
    (sd_cons (sd_if (td_not (td_val (pd_callC (C__law_alike.mono (Nat.le_of_ble_eq_true rfl)) (by kernel_rfl) (px_slot (i := 8) (by rfl) (.inl (by kernel_rfl)) (px_val (pd_compQ (own := [("node", 17)]) (ts := [17]) (j := 5) sc_law.nd (by rfl) (.inl (by kernel_rfl)) (blk_mk (by kernel_rfl)) (gd_name (i := 17) sc_law.nd (by rfl) (.inl (by kernel_rfl)) (hf := .inr (by kernel_rfl))) ts_nil (pd_of (pq_ix (pq_var (i := 9) (by rfl) (.inr (.inl (by kernel_rfl)))) (pq_var (i := 17) (by rfl) (.inl (by kernel_rfl))))) (by decide) (by decide) (by decide)) px_nil))))) (sd_one (sd_ret (pd_of pq_bl))) sd_nil)
    (sd_cons (sd_set (i := 10) sc_law.nd (by rfl) (.inl (by kernel_rfl)) (pd_makeC (C_World___init__.mono (Nat.le_of_ble_eq_true rfl)) (by kernel_rfl) (px_slot (i := 2) (by rfl) (.inl (by kernel_rfl)) (px_val (pd_tup (da_cons (pd_of pq_str) (da_cons (pd_callC (C__law_parting_rows.mono (Nat.le_of_ble_eq_true rfl)) (by kernel_rfl) (px_slot (i := 3) (by rfl) (.inl (by kernel_rfl)) (px_slot (i := 2) (by rfl) (.inl (by kernel_rfl)) px_nil))) da_nil))) (px_val (pd_tup da_nil) (px_val (pd_tup da_nil) px_nil))))) (hf := .inl rfl))
    (sd_cons (sd_set (i := 11) sc_law.nd (by rfl) (.inl (by kernel_rfl)) (pd_callT cy_dict ok_dict (by kernel_rfl) nb.b_dict bb_dict (da_cons (pd_comp (own := [("node", 17), ("key", 18)]) (ts := [17, 18]) sc_law.nd (id_enum (by kernel_rfl) nb.b_enumerate (da_cons (pd_alt (pd_of (pq_ix (pq_var (i := 3) (by rfl) (.inl (by kernel_rfl))) pq_int)) (pd_ln (ln_ix (k := 1) (ln_var (i := 3) (by rfl) (.inl (by kernel_rfl)))))) da_nil)) (blk_mk (by kernel_rfl)) (gd_tup (gds_cons (gd_name (i := 17) sc_law.nd (by rfl) (.inl (by kernel_rfl)) (hf := .inr (by kernel_rfl))) (gds_cons (gd_name (i := 18) sc_law.nd (by rfl) (.inl (by kernel_rfl)) (hf := .inr (by kernel_rfl))) gds_nil))) (ts_one (td_of (tq_cmp oy_eq ok_eq (pq_ix (pq_var (i := 18) (by rfl) (.inl (by kernel_rfl))) pq_int) pq_str (nomark _)))) (pd_tup (da_cons (pd_of (pq_ix (pq_var (i := 18) (by rfl) (.inl (by kernel_rfl))) pq_int)) (da_cons (pn_bin oy_add ok_add pq_int (pq_var (i := 17) (by rfl) (.inl (by kernel_rfl)))) da_nil))) (by decide) (by decide)) da_nil)) (hf := .inl rfl))
    (sd_cons (sd_set (i := 12) sc_law.nd (by rfl) (.inl (by kernel_rfl)) (pd_callC (C__law_worths_by.mono (Nat.le_of_ble_eq_true rfl)) (by kernel_rfl) (px_slot (i := 10) (by rfl) (.inl (by kernel_rfl)) (px_slot (i := 4) (by rfl) (.inl (by kernel_rfl)) (px_slot (i := 11) (by rfl) (.inl (by kernel_rfl)) px_nil)))) (hf := .inl rfl))
    (sd_cons (sd_for (ts := [13]) (id_range1 (by kernel_rfl) nb.b_range (da_cons (pd_of pq_int) da_nil) (len_eCons len_eNil)) (gd_name (i := 13) sc_law.nd (by rfl) (.inl (by kernel_rfl)) (hf := .inl rfl)) (sd_cons (sd_par (i := 14) (j := 15) sc_law.nd (by rfl) (by rfl) (by decide) (by kernel_rfl) (by kernel_rfl) (da_cons (pd_callC (C__law_take.mono (Nat.le_of_ble_eq_true rfl)) (by kernel_rfl) (px_slot (i := 1) (by rfl) (.inr (.inl (by kernel_rfl))) (px_val (pn_callB cy_len ok_len (by kernel_rfl) nb.b_len bb_len (qa_cons (pq_var (i := 4) (by rfl) (.inl (by kernel_rfl))) qa_nil)) px_nil))) (da_cons (pd_callC (C__law_take.mono (Nat.le_of_ble_eq_true rfl)) (by kernel_rfl) (px_slot (i := 1) (by rfl) (.inr (.inl (by kernel_rfl))) (px_val (pn_callB cy_len ok_len (by kernel_rfl) nb.b_len bb_len (qa_cons (pq_var (i := 4) (by rfl) (.inl (by kernel_rfl))) qa_nil)) px_nil))) da_nil)) (fun X h => (sw_scope h).trans (by kernel_rfl)))
    (sd_one (sd_if (td_not (td_val (pd_callC (C__law_alike.mono (Nat.le_of_ble_eq_true rfl)) (by kernel_rfl) (px_val (pd_lst (da_cons (pd_callC (C_same.mono (Nat.le_of_ble_eq_true rfl)) (by kernel_rfl) (px_slot (i := 2) (by rfl) (.inl (by kernel_rfl)) (px_val (pn_sl (pq_var (i := 4) (by rfl) (.inl (by kernel_rfl))) qo_none (qo_some (pq_bin oy_add ok_add (pq_var (i := 14) (by rfl) (.inl (by kernel_rfl))) pq_int))) (px_val (pn_sl (pq_var (i := 4) (by rfl) (.inl (by kernel_rfl))) qo_none (qo_some (pq_bin oy_add ok_add (pq_var (i := 15) (by rfl) (.inl (by kernel_rfl))) pq_int))) px_nil)))) (da_cons (pd_of (pq_cmp oy_eq ok_eq (pq_ix (pq_var (i := 12) (by rfl) (.inl (by kernel_rfl))) (pq_var (i := 14) (by rfl) (.inl (by kernel_rfl)))) (pq_ix (pq_var (i := 12) (by rfl) (.inl (by kernel_rfl))) (pq_var (i := 15) (by rfl) (.inl (by kernel_rfl)))) (nomark _))) da_nil))) (px_val (pn_bin oy_mul ok_mul (pq_lst (qa_cons (pq_cmp oy_eq ok_eq (pq_ix (pq_var (i := 5) (by rfl) (.inl (by kernel_rfl))) (pq_var (i := 14) (by rfl) (.inl (by kernel_rfl)))) (pq_ix (pq_var (i := 5) (by rfl) (.inl (by kernel_rfl))) (pq_var (i := 15) (by rfl) (.inl (by kernel_rfl)))) (nomark _)) qa_nil)) pq_int) px_nil))))) (sd_one (sd_ret (pd_of pq_bl))) sd_nil))))
    (sd_one (sd_ret (pd_of pq_bl)))))))))))))))
set_option maxHeartbeats 0 in
theorem all_mk {w : World} {P : Program} {K : PySem.W.Frag} {h : Heap} {mg : Str → Option Value} {fa f0 f1 f2 f3 f4 f5 f6 f7 f8 f9 f10 f11 f12 f13 f14 f15 f16 f17 f18 f19 f20 f21 f22 f23 f24 f25 f26 f27 f28 f29 f30 f31 f32 f33 f34 f35 A_World A_Terms : Addr} (X : K.In h) (G : h.Ns mainGlobals mg) (hfa : mg "law" = some (.ref fa))
    (a_World : PySem.W.nsIn K mainGlobals "World" = some (some (.ref A_World))) (pg_World : PySem.W.plainGet K A_World Str.empty = true) (hd_World : PySem.W.hasDictIn K A_World = true) (po_World : PySem.W.plainOver K A_World = true) (sa_World : PySem.W.findIn K (.ref A_World) "__setattr__" = some (some (.builtin "object.__setattr__")))
    (mk_World : PySem.W.makesIn K A_World = true) (kc_World : PySem.W.keepIn K (.ref A_World) = true)
    (a_Terms : PySem.W.nsIn K mainGlobals "Terms" = some (some (.ref A_Terms))) (pg_Terms : PySem.W.plainGet K A_Terms Str.empty = true) (hd_Terms : PySem.W.hasDictIn K A_Terms = true) (po_Terms : PySem.W.plainOver K A_Terms = true) (sa_Terms : PySem.W.findIn K (.ref A_Terms) "__setattr__" = some (some (.builtin "object.__setattr__")))
    (mk_Terms : PySem.W.makesIn K A_Terms = true) (kc_Terms : PySem.W.keepIn K (.ref A_Terms) = true)
    {od0 an0 : Option Addr} {sl0 : Array (Option Value)} {oc0 kV0 dc0 pm0 cd0 ct0 : Value} (a0 : PySem.W.nsIn K mainGlobals "_law_bag" = some (some (.ref f0))) (l0 : K.lookup f0 = some ⟨oc0, od0, .func (PySem.W.fnOf "_law_bag" "_law_bag" (defArgs s__law_bag) (defBody s__law_bag) (defScope s__law_bag) .none kV0 dc0 pm0 an0 cd0 ct0), sl0⟩) (c0 : PySem.W.codeIn K cd0 "_law_bag" = true) (k0 : PySem.W.keepIn K (.ref f0) = true)
    {od1 an1 : Option Addr} {sl1 : Array (Option Value)} {oc1 kV1 dc1 pm1 cd1 ct1 : Value} (a1 : PySem.W.nsIn K mainGlobals "_law_take" = some (some (.ref f1))) (l1 : K.lookup f1 = some ⟨oc1, od1, .func (PySem.W.fnOf "_law_take" "_law_take" (defArgs s__law_take) (defBody s__law_take) (defScope s__law_take) .none kV1 dc1 pm1 an1 cd1 ct1), sl1⟩) (c1 : PySem.W.codeIn K cd1 "_law_take" = true) (k1 : PySem.W.keepIn K (.ref f1) = true)
    {od2 an2 : Option Addr} {sl2 : Array (Option Value)} {oc2 kV2 dc2 pm2 cd2 ct2 : Value} (a2 : PySem.W.nsIn K mainGlobals "_law_some" = some (some (.ref f2))) (l2 : K.lookup f2 = some ⟨oc2, od2, .func (PySem.W.fnOf "_law_some" "_law_some" (defArgs s__law_some) (defBody s__law_some) (defScope s__law_some) .none kV2 dc2 pm2 an2 cd2 ct2), sl2⟩) (c2 : PySem.W.codeIn K cd2 "_law_some" = true) (k2 : PySem.W.keepIn K (.ref f2) = true)
    {od3 an3 : Option Addr} {sl3 : Array (Option Value)} {oc3 kV3 dc3 pm3 cd3 ct3 : Value} (a3 : PySem.W.nsIn K mainGlobals "_law_drawn_rows" = some (some (.ref f3))) (l3 : K.lookup f3 = some ⟨oc3, od3, .func (PySem.W.fnOf "_law_drawn_rows" "_law_drawn_rows" (defArgs s__law_drawn_rows) (defBody s__law_drawn_rows) (defScope s__law_drawn_rows) .none kV3 dc3 pm3 an3 cd3 ct3), sl3⟩) (c3 : PySem.W.codeIn K cd3 "_law_drawn_rows" = true) (k3 : PySem.W.keepIn K (.ref f3) = true)
    {od4 an4 : Option Addr} {sl4 : Array (Option Value)} {oc4 kV4 dc4 pm4 cd4 ct4 : Value} (a4 : PySem.W.nsIn K mainGlobals "_law_node" = some (some (.ref f4))) (l4 : K.lookup f4 = some ⟨oc4, od4, .func (PySem.W.fnOf "_law_node" "_law_node" (defArgs s__law_node) (defBody s__law_node) (defScope s__law_node) .none kV4 dc4 pm4 an4 cd4 ct4), sl4⟩) (c4 : PySem.W.codeIn K cd4 "_law_node" = true) (k4 : PySem.W.keepIn K (.ref f4) = true)
    {od5 an5 : Option Addr} {sl5 : Array (Option Value)} {oc5 kV5 dc5 pm5 cd5 ct5 : Value} (a5 : PySem.W.nsIn K mainGlobals "_law_op" = some (some (.ref f5))) (l5 : K.lookup f5 = some ⟨oc5, od5, .func (PySem.W.fnOf "_law_op" "_law_op" (defArgs s__law_op) (defBody s__law_op) (defScope s__law_op) .none kV5 dc5 pm5 an5 cd5 ct5), sl5⟩) (c5 : PySem.W.codeIn K cd5 "_law_op" = true) (k5 : PySem.W.keepIn K (.ref f5) = true)
    {od6 an6 : Option Addr} {sl6 : Array (Option Value)} {oc6 kV6 dc6 pm6 cd6 ct6 : Value} (a6 : PySem.W.nsIn K mainGlobals "_law_nodes" = some (some (.ref f6))) (l6 : K.lookup f6 = some ⟨oc6, od6, .func (PySem.W.fnOf "_law_nodes" "_law_nodes" (defArgs s__law_nodes) (defBody s__law_nodes) (defScope s__law_nodes) .none kV6 dc6 pm6 an6 cd6 ct6), sl6⟩) (c6 : PySem.W.codeIn K cd6 "_law_nodes" = true) (k6 : PySem.W.keepIn K (.ref f6) = true)
    {od7 an7 : Option Addr} {sl7 : Array (Option Value)} {oc7 kV7 dc7 pm7 cd7 ct7 : Value} (a7 : PySem.W.nsIn K mainGlobals "swapping" = some (some (.ref f7))) (l7 : K.lookup f7 = some ⟨oc7, od7, .func (PySem.W.fnOf "swapping" "swapping" (defArgs s_swapping) (defBody s_swapping) (defScope s_swapping) .none kV7 dc7 pm7 an7 cd7 ct7), sl7⟩) (c7 : PySem.W.codeIn K cd7 "swapping" = true) (k7 : PySem.W.keepIn K (.ref f7) = true)
    {od8 an8 : Option Addr} {sl8 : Array (Option Value)} {oc8 kV8 dc8 pm8 cd8 ct8 : Value} (a8 : PySem.W.findIn K (.ref A_World) "__init__" = some (some (.ref f8))) (i8 : PySem.W.isFn K (.ref f8) = true) (l8 : K.lookup f8 = some ⟨oc8, od8, .func (PySem.W.fnOf "__init__" "World.__init__" (defArgs s_World___init__) (defBody s_World___init__) (defScope s_World___init__) .none kV8 dc8 pm8 an8 cd8 ct8), sl8⟩) (c8 : PySem.W.codeIn K cd8 "World.__init__" = true) (k8 : PySem.W.keepIn K (.ref f8) = true)
    {od9 an9 : Option Addr} {sl9 : Array (Option Value)} {oc9 kV9 dc9 pm9 cd9 ct9 : Value} (a9 : PySem.W.findIn K (.ref A_World) "ordered" = some (some (.ref f9))) (i9 : PySem.W.isFn K (.ref f9) = true) (l9 : K.lookup f9 = some ⟨oc9, od9, .func (PySem.W.fnOf "ordered" "World.ordered" (defArgs s_World_ordered) (defBody s_World_ordered) (defScope s_World_ordered) .none kV9 dc9 pm9 an9 cd9 ct9), sl9⟩) (c9 : PySem.W.codeIn K cd9 "World.ordered" = true) (k9 : PySem.W.keepIn K (.ref f9) = true)
    {od10 an10 : Option Addr} {sl10 : Array (Option Value)} {oc10 kV10 dc10 pm10 cd10 ct10 : Value} (a10 : PySem.W.nsIn K mainGlobals "mixed_worth" = some (some (.ref f10))) (l10 : K.lookup f10 = some ⟨oc10, od10, .func (PySem.W.fnOf "mixed_worth" "mixed_worth" (defArgs s_mixed_worth) (defBody s_mixed_worth) (defScope s_mixed_worth) .none kV10 dc10 pm10 an10 cd10 ct10), sl10⟩) (c10 : PySem.W.codeIn K cd10 "mixed_worth" = true) (k10 : PySem.W.keepIn K (.ref f10) = true)
    {od11 an11 : Option Addr} {sl11 : Array (Option Value)} {oc11 kV11 dc11 pm11 cd11 ct11 : Value} (a11 : PySem.W.findIn K (.ref A_World) "apply" = some (some (.ref f11))) (i11 : PySem.W.isFn K (.ref f11) = true) (l11 : K.lookup f11 = some ⟨oc11, od11, .func (PySem.W.fnOf "apply" "World.apply" (defArgs s_World_apply) (defBody s_World_apply) (defScope s_World_apply) .none kV11 dc11 pm11 an11 cd11 ct11), sl11⟩) (c11 : PySem.W.codeIn K cd11 "World.apply" = true) (k11 : PySem.W.keepIn K (.ref f11) = true)
    {od12 an12 : Option Addr} {sl12 : Array (Option Value)} {oc12 kV12 dc12 pm12 cd12 ct12 : Value} (a12 : PySem.W.findIn K (.ref A_World) "number" = some (some (.ref f12))) (i12 : PySem.W.isFn K (.ref f12) = true) (l12 : K.lookup f12 = some ⟨oc12, od12, .func (PySem.W.fnOf "number" "World.number" (defArgs s_World_number) (defBody s_World_number) (defScope s_World_number) .none kV12 dc12 pm12 an12 cd12 ct12), sl12⟩) (c12 : PySem.W.codeIn K cd12 "World.number" = true) (k12 : PySem.W.keepIn K (.ref f12) = true)
    {od13 an13 : Option Addr} {sl13 : Array (Option Value)} {oc13 kV13 dc13 pm13 cd13 ct13 : Value} (a13 : PySem.W.nsIn K mainGlobals "_law_worths_by" = some (some (.ref f13))) (l13 : K.lookup f13 = some ⟨oc13, od13, .func (PySem.W.fnOf "_law_worths_by" "_law_worths_by" (defArgs s__law_worths_by) (defBody s__law_worths_by) (defScope s__law_worths_by) .none kV13 dc13 pm13 an13 cd13 ct13), sl13⟩) (c13 : PySem.W.codeIn K cd13 "_law_worths_by" = true) (k13 : PySem.W.keepIn K (.ref f13) = true)
    {od14 an14 : Option Addr} {sl14 : Array (Option Value)} {oc14 kV14 dc14 pm14 cd14 ct14 : Value} (a14 : PySem.W.nsIn K mainGlobals "_law_signs" = some (some (.ref f14))) (l14 : K.lookup f14 = some ⟨oc14, od14, .func (PySem.W.fnOf "_law_signs" "_law_signs" (defArgs s__law_signs) (defBody s__law_signs) (defScope s__law_signs) .none kV14 dc14 pm14 an14 cd14 ct14), sl14⟩) (c14 : PySem.W.codeIn K cd14 "_law_signs" = true) (k14 : PySem.W.keepIn K (.ref f14) = true)
    {od15 an15 : Option Addr} {sl15 : Array (Option Value)} {oc15 kV15 dc15 pm15 cd15 ct15 : Value} (a15 : PySem.W.nsIn K mainGlobals "_law_graph" = some (some (.ref f15))) (l15 : K.lookup f15 = some ⟨oc15, od15, .func (PySem.W.fnOf "_law_graph" "_law_graph" (defArgs s__law_graph) (defBody s__law_graph) (defScope s__law_graph) .none kV15 dc15 pm15 an15 cd15 ct15), sl15⟩) (c15 : PySem.W.codeIn K cd15 "_law_graph" = true) (k15 : PySem.W.keepIn K (.ref f15) = true)
    {od16 an16 : Option Addr} {sl16 : Array (Option Value)} {oc16 kV16 dc16 pm16 cd16 ct16 : Value} (a16 : PySem.W.nsIn K mainGlobals "_law_parts_of" = some (some (.ref f16))) (l16 : K.lookup f16 = some ⟨oc16, od16, .func (PySem.W.fnOf "_law_parts_of" "_law_parts_of" (defArgs s__law_parts_of) (defBody s__law_parts_of) (defScope s__law_parts_of) .none kV16 dc16 pm16 an16 cd16 ct16), sl16⟩) (c16 : PySem.W.codeIn K cd16 "_law_parts_of" = true) (k16 : PySem.W.keepIn K (.ref f16) = true)
    {od17 an17 : Option Addr} {sl17 : Array (Option Value)} {oc17 kV17 dc17 pm17 cd17 ct17 : Value} (a17 : PySem.W.nsIn K mainGlobals "_law_below" = some (some (.ref f17))) (l17 : K.lookup f17 = some ⟨oc17, od17, .func (PySem.W.fnOf "_law_below" "_law_below" (defArgs s__law_below) (defBody s__law_below) (defScope s__law_below) .none kV17 dc17 pm17 an17 cd17 ct17), sl17⟩) (c17 : PySem.W.codeIn K cd17 "_law_below" = true) (k17 : PySem.W.keepIn K (.ref f17) = true)
    {od18 an18 : Option Addr} {sl18 : Array (Option Value)} {oc18 kV18 dc18 pm18 cd18 ct18 : Value} (a18 : PySem.W.nsIn K mainGlobals "_law_formula" = some (some (.ref f18))) (l18 : K.lookup f18 = some ⟨oc18, od18, .func (PySem.W.fnOf "_law_formula" "_law_formula" (defArgs s__law_formula) (defBody s__law_formula) (defScope s__law_formula) .none kV18 dc18 pm18 an18 cd18 ct18), sl18⟩) (c18 : PySem.W.codeIn K cd18 "_law_formula" = true) (k18 : PySem.W.keepIn K (.ref f18) = true)
    {od19 an19 : Option Addr} {sl19 : Array (Option Value)} {oc19 kV19 dc19 pm19 cd19 ct19 : Value} (a19 : PySem.W.nsIn K mainGlobals "_law_swaps" = some (some (.ref f19))) (l19 : K.lookup f19 = some ⟨oc19, od19, .func (PySem.W.fnOf "_law_swaps" "_law_swaps" (defArgs s__law_swaps) (defBody s__law_swaps) (defScope s__law_swaps) .none kV19 dc19 pm19 an19 cd19 ct19), sl19⟩) (c19 : PySem.W.codeIn K cd19 "_law_swaps" = true) (k19 : PySem.W.keepIn K (.ref f19) = true)
    {od20 an20 : Option Addr} {sl20 : Array (Option Value)} {oc20 kV20 dc20 pm20 cd20 ct20 : Value} (a20 : PySem.W.nsIn K mainGlobals "_law_worths" = some (some (.ref f20))) (l20 : K.lookup f20 = some ⟨oc20, od20, .func (PySem.W.fnOf "_law_worths" "_law_worths" (defArgs s__law_worths) (defBody s__law_worths) (defScope s__law_worths) .none kV20 dc20 pm20 an20 cd20 ct20), sl20⟩) (c20 : PySem.W.codeIn K cd20 "_law_worths" = true) (k20 : PySem.W.keepIn K (.ref f20) = true)
    {od21 an21 : Option Addr} {sl21 : Array (Option Value)} {oc21 kV21 dc21 pm21 cd21 ct21 : Value} (a21 : PySem.W.nsIn K mainGlobals "_law_alike" = some (some (.ref f21))) (l21 : K.lookup f21 = some ⟨oc21, od21, .func (PySem.W.fnOf "_law_alike" "_law_alike" (defArgs s__law_alike) (defBody s__law_alike) (defScope s__law_alike) .none kV21 dc21 pm21 an21 cd21 ct21), sl21⟩) (c21 : PySem.W.codeIn K cd21 "_law_alike" = true) (k21 : PySem.W.keepIn K (.ref f21) = true)
    {od22 an22 : Option Addr} {sl22 : Array (Option Value)} {oc22 kV22 dc22 pm22 cd22 ct22 : Value} (a22 : PySem.W.nsIn K mainGlobals "_law_parting_rows" = some (some (.ref f22))) (l22 : K.lookup f22 = some ⟨oc22, od22, .func (PySem.W.fnOf "_law_parting_rows" "_law_parting_rows" (defArgs s__law_parting_rows) (defBody s__law_parting_rows) (defScope s__law_parting_rows) .none kV22 dc22 pm22 an22 cd22 ct22), sl22⟩) (c22 : PySem.W.codeIn K cd22 "_law_parting_rows" = true) (k22 : PySem.W.keepIn K (.ref f22) = true)
    {od23 an23 : Option Addr} {sl23 : Array (Option Value)} {oc23 kV23 dc23 pm23 cd23 ct23 : Value} (a23 : PySem.W.nsIn K mainGlobals "parts_of_signs" = some (some (.ref f23))) (l23 : K.lookup f23 = some ⟨oc23, od23, .func (PySem.W.fnOf "parts_of_signs" "parts_of_signs" (defArgs s_parts_of_signs) (defBody s_parts_of_signs) (defScope s_parts_of_signs) .none kV23 dc23 pm23 an23 cd23 ct23), sl23⟩) (c23 : PySem.W.codeIn K cd23 "parts_of_signs" = true) (k23 : PySem.W.keepIn K (.ref f23) = true)
    {od24 an24 : Option Addr} {sl24 : Array (Option Value)} {oc24 kV24 dc24 pm24 cd24 ct24 : Value} (a24 : PySem.W.nsIn K mainGlobals "is_integer" = some (some (.ref f24))) (l24 : K.lookup f24 = some ⟨oc24, od24, .func (PySem.W.fnOf "is_integer" "is_integer" (defArgs s_is_integer) (defBody s_is_integer) (defScope s_is_integer) .none kV24 dc24 pm24 an24 cd24 ct24), sl24⟩) (c24 : PySem.W.codeIn K cd24 "is_integer" = true) (k24 : PySem.W.keepIn K (.ref f24) = true)
    {od25 an25 : Option Addr} {sl25 : Array (Option Value)} {oc25 kV25 dc25 pm25 cd25 ct25 : Value} (a25 : PySem.W.nsIn K mainGlobals "is_row" = some (some (.ref f25))) (l25 : K.lookup f25 = some ⟨oc25, od25, .func (PySem.W.fnOf "is_row" "is_row" (defArgs s_is_row) (defBody s_is_row) (defScope s_is_row) .none kV25 dc25 pm25 an25 cd25 ct25), sl25⟩) (c25 : PySem.W.codeIn K cd25 "is_row" = true) (k25 : PySem.W.keepIn K (.ref f25) = true)
    {od26 an26 : Option Addr} {sl26 : Array (Option Value)} {oc26 kV26 dc26 pm26 cd26 ct26 : Value} (a26 : PySem.W.nsIn K mainGlobals "is_rows" = some (some (.ref f26))) (l26 : K.lookup f26 = some ⟨oc26, od26, .func (PySem.W.fnOf "is_rows" "is_rows" (defArgs s_is_rows) (defBody s_is_rows) (defScope s_is_rows) .none kV26 dc26 pm26 an26 cd26 ct26), sl26⟩) (c26 : PySem.W.codeIn K cd26 "is_rows" = true) (k26 : PySem.W.keepIn K (.ref f26) = true)
    {od27 an27 : Option Addr} {sl27 : Array (Option Value)} {oc27 kV27 dc27 pm27 cd27 ct27 : Value} (a27 : PySem.W.nsIn K mainGlobals "need_rows" = some (some (.ref f27))) (l27 : K.lookup f27 = some ⟨oc27, od27, .func (PySem.W.fnOf "need_rows" "need_rows" (defArgs s_need_rows) (defBody s_need_rows) (defScope s_need_rows) .none kV27 dc27 pm27 an27 cd27 ct27), sl27⟩) (c27 : PySem.W.codeIn K cd27 "need_rows" = true) (k27 : PySem.W.keepIn K (.ref f27) = true)
    {od28 an28 : Option Addr} {sl28 : Array (Option Value)} {oc28 kV28 dc28 pm28 cd28 ct28 : Value} (a28 : PySem.W.findIn K (.ref A_Terms) "__init__" = some (some (.ref f28))) (i28 : PySem.W.isFn K (.ref f28) = true) (l28 : K.lookup f28 = some ⟨oc28, od28, .func (PySem.W.fnOf "__init__" "Terms.__init__" (defArgs s_Terms___init__) (defBody s_Terms___init__) (defScope s_Terms___init__) .none kV28 dc28 pm28 an28 cd28 ct28), sl28⟩) (c28 : PySem.W.codeIn K cd28 "Terms.__init__" = true) (k28 : PySem.W.keepIn K (.ref f28) = true)
    {od29 an29 : Option Addr} {sl29 : Array (Option Value)} {oc29 kV29 dc29 pm29 cd29 ct29 : Value} (a29 : PySem.W.findIn K (.ref A_Terms) "numbered" = some (some (.ref f29))) (i29 : PySem.W.isFn K (.ref f29) = true) (l29 : K.lookup f29 = some ⟨oc29, od29, .func (PySem.W.fnOf "numbered" "Terms.numbered" (defArgs s_Terms_numbered) (defBody s_Terms_numbered) (defScope s_Terms_numbered) .none kV29 dc29 pm29 an29 cd29 ct29), sl29⟩) (c29 : PySem.W.codeIn K cd29 "Terms.numbered" = true) (k29 : PySem.W.keepIn K (.ref f29) = true)
    {od30 an30 : Option Addr} {sl30 : Array (Option Value)} {oc30 kV30 dc30 pm30 cd30 ct30 : Value} (a30 : PySem.W.findIn K (.ref A_Terms) "letter" = some (some (.ref f30))) (i30 : PySem.W.isFn K (.ref f30) = true) (l30 : K.lookup f30 = some ⟨oc30, od30, .func (PySem.W.fnOf "letter" "Terms.letter" (defArgs s_Terms_letter) (defBody s_Terms_letter) (defScope s_Terms_letter) .none kV30 dc30 pm30 an30 cd30 ct30), sl30⟩) (c30 : PySem.W.codeIn K cd30 "Terms.letter" = true) (k30 : PySem.W.keepIn K (.ref f30) = true)
    {od31 an31 : Option Addr} {sl31 : Array (Option Value)} {oc31 kV31 dc31 pm31 cd31 ct31 : Value} (a31 : PySem.W.findIn K (.ref A_Terms) "num" = some (some (.ref f31))) (i31 : PySem.W.isFn K (.ref f31) = true) (l31 : K.lookup f31 = some ⟨oc31, od31, .func (PySem.W.fnOf "num" "Terms.num" (defArgs s_Terms_num) (defBody s_Terms_num) (defScope s_Terms_num) .none kV31 dc31 pm31 an31 cd31 ct31), sl31⟩) (c31 : PySem.W.codeIn K cd31 "Terms.num" = true) (k31 : PySem.W.keepIn K (.ref f31) = true)
    {od32 an32 : Option Addr} {sl32 : Array (Option Value)} {oc32 kV32 dc32 pm32 cd32 ct32 : Value} (a32 : PySem.W.findIn K (.ref A_Terms) "op" = some (some (.ref f32))) (i32 : PySem.W.isFn K (.ref f32) = true) (l32 : K.lookup f32 = some ⟨oc32, od32, .func (PySem.W.fnOf "op" "Terms.op" (defArgs s_Terms_op) (defBody s_Terms_op) (defScope s_Terms_op) .none kV32 dc32 pm32 an32 cd32 ct32), sl32⟩) (c32 : PySem.W.codeIn K cd32 "Terms.op" = true) (k32 : PySem.W.keepIn K (.ref f32) = true)
    {od33 an33 : Option Addr} {sl33 : Array (Option Value)} {oc33 kV33 dc33 pm33 cd33 ct33 : Value} (a33 : PySem.W.nsIn K mainGlobals "put_rows" = some (some (.ref f33))) (l33 : K.lookup f33 = some ⟨oc33, od33, .func (PySem.W.fnOf "put_rows" "put_rows" (defArgs s_put_rows) (defBody s_put_rows) (defScope s_put_rows) .none kV33 dc33 pm33 an33 cd33 ct33), sl33⟩) (c33 : PySem.W.codeIn K cd33 "put_rows" = true) (k33 : PySem.W.keepIn K (.ref f33) = true)
    {od34 an34 : Option Addr} {sl34 : Array (Option Value)} {oc34 kV34 dc34 pm34 cd34 ct34 : Value} (a34 : PySem.W.nsIn K mainGlobals "same" = some (some (.ref f34))) (l34 : K.lookup f34 = some ⟨oc34, od34, .func (PySem.W.fnOf "same" "same" (defArgs s_same) (defBody s_same) (defScope s_same) .none kV34 dc34 pm34 an34 cd34 ct34), sl34⟩) (c34 : PySem.W.codeIn K cd34 "same" = true) (k34 : PySem.W.keepIn K (.ref f34) = true)
    {od35 an35 : Option Addr} {sl35 : Array (Option Value)} {oc35 kV35 dc35 pm35 cd35 ct35 : Value} (a35 : PySem.W.nsIn K mainGlobals "law" = some (some (.ref f35))) (l35 : K.lookup f35 = some ⟨oc35, od35, .func (PySem.W.fnOf "law" "law" (defArgs s_law) (defBody s_law) (defScope s_law) .none kV35 dc35 pm35 an35 cd35 ct35), sl35⟩) (c35 : PySem.W.codeIn K cd35 "law" = true) (k35 : PySem.W.keepIn K (.ref f35) = true)
    (z_abs : PySem.W.nsIn K mainGlobals "abs" = some none)
    (z_all : PySem.W.nsIn K mainGlobals "all" = some none)
    (z_bool : PySem.W.nsIn K mainGlobals "bool" = some none)
    (z_dict : PySem.W.nsIn K mainGlobals "dict" = some none)
    (z_enumerate : PySem.W.nsIn K mainGlobals "enumerate" = some none)
    (z_int : PySem.W.nsIn K mainGlobals "int" = some none)
    (z_isinstance : PySem.W.nsIn K mainGlobals "isinstance" = some none)
    (z_len : PySem.W.nsIn K mainGlobals "len" = some none)
    (z_list : PySem.W.nsIn K mainGlobals "list" = some none)
    (z_max : PySem.W.nsIn K mainGlobals "max" = some none)
    (z_range : PySem.W.nsIn K mainGlobals "range" = some none)
    (z_repr : PySem.W.nsIn K mainGlobals "repr" = some none)
    (z_sorted : PySem.W.nsIn K mainGlobals "sorted" = some none)
    (z_str : PySem.W.nsIn K mainGlobals "str" = some none)
    (z_tuple : PySem.W.nsIn K mainGlobals "tuple" = some none)
    {t_MODULUS : Tok} (y_MODULUS : PySem.W.nsIn K mainGlobals "MODULUS" = some (some (.int 1000003 t_MODULUS)))
    {t_SIGNS : Tok} (y_SIGNS : PySem.W.nsIn K mainGlobals "SIGNS" = some (some (.str "0123456789abcdefghijklmnopqrstuvwxyz" t_SIGNS)))
    {t_HALF : Tok} (y_HALF : PySem.W.nsIn K mainGlobals "HALF" = some (some (.int 500000 t_HALF)))
    (n_World_signs : PySem.W.findIn K (.ref A_World) "signs" = some none)
    (n_World_meaning : PySem.W.findIn K (.ref A_World) "meaning" = some none)
    (n_World_reads : PySem.W.findIn K (.ref A_World) "reads" = some none)
    (n_World_answers : PySem.W.findIn K (.ref A_World) "answers" = some none)
    (n_World_swaps : PySem.W.findIn K (.ref A_World) "swaps" = some none)
    (n_World_table : PySem.W.findIn K (.ref A_World) "table" = some none)
    (n_Terms_its_signs : PySem.W.findIn K (.ref A_Terms) "its_signs" = some none)
    (n_Terms_its_heads : PySem.W.findIn K (.ref A_Terms) "its_heads" = some none)
    (n_Terms_its_numbers : PySem.W.findIn K (.ref A_Terms) "its_numbers" = some none)
    (n_Terms_its_heights : PySem.W.findIn K (.ref A_Terms) "its_heights" = some none) :
    ∃ fd : FuncData, (∀ (s : Shared) (u : Value), BindsTo s fd ⟨[u], []⟩ [("script", u)]) ∧ ∀ base : Heap, K.In base → base.Ns mainGlobals mg → FnG P w K mg base 6 fa fd ["script"] g_law := by
  have e := hfa.symm.trans (PySem.W.mg_of X G a35)
  cases e
  have m_World := PySem.W.mg_of X G a_World
  have cl_World : Cls K A_World := ⟨pg_World, hd_World, po_World, sa_World⟩
  have m_Terms := PySem.W.mg_of X G a_Terms
  have cl_Terms : Cls K A_Terms := ⟨pg_Terms, hd_Terms, po_Terms, sa_Terms⟩
  have nb : NoB K mg := ⟨PySem.W.mg_none_of X G z_abs, PySem.W.mg_none_of X G z_all, PySem.W.mg_none_of X G z_bool, PySem.W.mg_none_of X G z_dict, PySem.W.mg_none_of X G z_enumerate, PySem.W.mg_none_of X G z_int, PySem.W.mg_none_of X G z_isinstance, PySem.W.mg_none_of X G z_len, PySem.W.mg_none_of X G z_list, PySem.W.mg_none_of X G z_max, PySem.W.mg_none_of X G z_range, PySem.W.mg_none_of X G z_repr, PySem.W.mg_none_of X G z_sorted, PySem.W.mg_none_of X G z_str, PySem.W.mg_none_of X G z_tuple, cst_int (PySem.W.mg_of X G y_MODULUS), cst_str (PySem.W.mg_of X G y_SIGNS), cst_int (PySem.W.mg_of X G y_HALF), at_mk m_World cl_World n_World_signs, at_mk m_World cl_World n_World_meaning, at_mk m_World cl_World n_World_reads, at_mk m_World cl_World n_World_answers, at_mk m_World cl_World n_World_swaps, at_mk m_World cl_World n_World_table, at_mk m_Terms cl_Terms n_Terms_its_signs, at_mk m_Terms cl_Terms n_Terms_its_heads, at_mk m_Terms cl_Terms n_Terms_its_numbers, at_mk m_Terms cl_Terms n_Terms_its_heights⟩
  have T__law_bag : Top K mg "_law_bag" s__law_bag ["script"] := top_mk (PySem.W.mg_of X G a0) l0 c0 k0 fun _ _ _ _ _ _ us hl => match us, hl with | [_], _ => rfl
  have T__law_take : Top K mg "_law_take" s__law_take ["bag", "many"] := top_mk (PySem.W.mg_of X G a1) l1 c1 k1 fun _ _ _ _ _ _ us hl => match us, hl with | [_, _], _ => rfl
  have T__law_some : Top K mg "_law_some" s__law_some ["bag", "things"] := top_mk (PySem.W.mg_of X G a2) l2 c2 k2 fun _ _ _ _ _ _ us hl => match us, hl with | [_, _], _ => rfl
  have T__law_drawn_rows : Top K mg "_law_drawn_rows" s__law_drawn_rows ["bag", "signs", "many"] := top_mk (PySem.W.mg_of X G a3) l3 c3 k3 fun _ _ _ _ _ _ us hl => match us, hl with | [_, _, _], _ => rfl
  have T__law_node : Top K mg "_law_node" s__law_node ["graph", "key"] := top_mk (PySem.W.mg_of X G a4) l4 c4 k4 fun _ _ _ _ _ _ us hl => match us, hl with | [_, _], _ => rfl
  have T__law_op : Top K mg "_law_op" s__law_op ["graph", "signs", "o", "parts"] := top_mk (PySem.W.mg_of X G a5) l5 c5 k5 fun _ _ _ _ _ _ us hl => match us, hl with | [_, _, _, _], _ => rfl
  have T__law_nodes : Top K mg "_law_nodes" s__law_nodes ["graph", "signs", "rows"] := top_mk (PySem.W.mg_of X G a6) l6 c6 k6 fun _ _ _ _ _ _ us hl => match us, hl with | [_, _, _], _ => rfl
  have T_swapping : Top K mg "swapping" s_swapping ["signs"] := top_mk (PySem.W.mg_of X G a7) l7 c7 k7 fun _ _ _ _ _ _ us hl => match us, hl with | [_], _ => rfl
  have T_World___init__ : TopI K mg "World" "World.__init__" s_World___init__ ["self", "signs", "meaning", "reads", "answers"] := topI_mk m_World mk_World kc_World a8 i8 l8 c8 k8 fun _ _ _ _ _ _ us hl => match us, hl with | [_, _, _, _, _], _ => rfl
  have T_World_ordered : TopM K mg "World" "ordered" "World.ordered" s_World_ordered ["self", "o", "parts"] := topM_mk m_World cl_World a9 i9 l9 c9 k9 fun _ _ _ _ _ _ us hl => match us, hl with | [_, _, _], _ => rfl
  have T_mixed_worth : Top K mg "mixed_worth" s_mixed_worth ["seed", "name", "parts"] := top_mk (PySem.W.mg_of X G a10) l10 c10 k10 fun _ _ _ _ _ _ us hl => match us, hl with | [_, _, _], _ => rfl
  have T_World_apply : TopM K mg "World" "apply" "World.apply" s_World_apply ["self", "o", "parts"] := topM_mk m_World cl_World a11 i11 l11 c11 k11 fun _ _ _ _ _ _ us hl => match us, hl with | [_, _, _], _ => rfl
  have T_World_number : TopM K mg "World" "number" "World.number" s_World_number ["self", "n"] := topM_mk m_World cl_World a12 i12 l12 c12 k12 fun _ _ _ _ _ _ us hl => match us, hl with | [_, _], _ => rfl
  have T__law_worths_by : Top K mg "_law_worths_by" s__law_worths_by ["world", "rows", "letters"] := top_mk (PySem.W.mg_of X G a13) l13 c13 k13 fun _ _ _ _ _ _ us hl => match us, hl with | [_, _, _], _ => rfl
  have T__law_signs : Top K mg "_law_signs" s__law_signs ["bag"] := top_mk (PySem.W.mg_of X G a14) l14 c14 k14 fun _ _ _ _ _ _ us hl => match us, hl with | [_], _ => rfl
  have T__law_graph : Top K mg "_law_graph" s__law_graph [] := top_mk (PySem.W.mg_of X G a15) l15 c15 k15 fun _ _ _ _ _ _ us hl => match us, hl with | [], _ => rfl
  have T__law_parts_of : Top K mg "_law_parts_of" s__law_parts_of ["key"] := top_mk (PySem.W.mg_of X G a16) l16 c16 k16 fun _ _ _ _ _ _ us hl => match us, hl with | [_], _ => rfl
  have T__law_below : Top K mg "_law_below" s__law_below ["graph", "goals"] := top_mk (PySem.W.mg_of X G a17) l17 c17 k17 fun _ _ _ _ _ _ us hl => match us, hl with | [_, _], _ => rfl
  have T__law_formula : Top K mg "_law_formula" s__law_formula ["seed", "o", "parts"] := top_mk (PySem.W.mg_of X G a18) l18 c18 k18 fun _ _ _ _ _ _ us hl => match us, hl with | [_, _, _], _ => rfl
  have T__law_swaps : Top K mg "_law_swaps" s__law_swaps ["signs", "o"] := top_mk (PySem.W.mg_of X G a19) l19 c19 k19 fun _ _ _ _ _ _ us hl => match us, hl with | [_, _], _ => rfl
  have T__law_worths : Top K mg "_law_worths" s__law_worths ["graph", "signs", "seed", "letters", "nodes"] := top_mk (PySem.W.mg_of X G a20) l20 c20 k20 fun _ _ _ _ _ _ us hl => match us, hl with | [_, _, _, _, _], _ => rfl
  have T__law_alike : Top K mg "_law_alike" s__law_alike ["found", "due"] := top_mk (PySem.W.mg_of X G a21) l21 c21 k21 fun _ _ _ _ _ _ us hl => match us, hl with | [_, _], _ => rfl
  have T__law_parting_rows : Top K mg "_law_parting_rows" s__law_parting_rows ["graph", "signs"] := top_mk (PySem.W.mg_of X G a22) l22 c22 k22 fun _ _ _ _ _ _ us hl => match us, hl with | [_, _], _ => rfl
  have T_parts_of_signs : Top K mg "parts_of_signs" s_parts_of_signs ["signs"] := top_mk (PySem.W.mg_of X G a23) l23 c23 k23 fun _ _ _ _ _ _ us hl => match us, hl with | [_], _ => rfl
  have T_is_integer : Top K mg "is_integer" s_is_integer ["thing"] := top_mk (PySem.W.mg_of X G a24) l24 c24 k24 fun _ _ _ _ _ _ us hl => match us, hl with | [_], _ => rfl
  have T_is_row : Top K mg "is_row" s_is_row ["signs", "row", "at"] := top_mk (PySem.W.mg_of X G a25) l25 c25 k25 fun _ _ _ _ _ _ us hl => match us, hl with | [_, _, _], _ => rfl
  have T_is_rows : Top K mg "is_rows" s_is_rows ["signs", "thing"] := top_mk (PySem.W.mg_of X G a26) l26 c26 k26 fun _ _ _ _ _ _ us hl => match us, hl with | [_, _], _ => rfl
  have T_need_rows : Top K mg "need_rows" s_need_rows ["signs", "rows"] := top_mk (PySem.W.mg_of X G a27) l27 c27 k27 fun _ _ _ _ _ _ us hl => match us, hl with | [_, _], _ => rfl
  have T_Terms___init__ : TopI K mg "Terms" "Terms.__init__" s_Terms___init__ ["self", "signs"] := topI_mk m_Terms mk_Terms kc_Terms a28 i28 l28 c28 k28 fun _ _ _ _ _ _ us hl => match us, hl with | [_, _], _ => rfl
  have T_Terms_numbered : TopM K mg "Terms" "numbered" "Terms.numbered" s_Terms_numbered ["self", "head", "height"] := topM_mk m_Terms cl_Terms a29 i29 l29 c29 k29 fun _ _ _ _ _ _ us hl => match us, hl with | [_, _, _], _ => rfl
  have T_Terms_letter : TopM K mg "Terms" "letter" "Terms.letter" s_Terms_letter ["self", "text"] := topM_mk m_Terms cl_Terms a30 i30 l30 c30 k30 fun _ _ _ _ _ _ us hl => match us, hl with | [_, _], _ => rfl
  have T_Terms_num : TopM K mg "Terms" "num" "Terms.num" s_Terms_num ["self", "n"] := topM_mk m_Terms cl_Terms a31 i31 l31 c31 k31 fun _ _ _ _ _ _ us hl => match us, hl with | [_, _], _ => rfl
  have T_Terms_op : TopM K mg "Terms" "op" "Terms.op" s_Terms_op ["self", "o", "parts"] := topM_mk m_Terms cl_Terms a32 i32 l32 c32 k32 fun _ _ _ _ _ _ us hl => match us, hl with | [_, _, _], _ => rfl
  have T_put_rows : Top K mg "put_rows" s_put_rows ["terms", "rows"] := top_mk (PySem.W.mg_of X G a33) l33 c33 k33 fun _ _ _ _ _ _ us hl => match us, hl with | [_, _], _ => rfl
  have T_same : Top K mg "same" s_same ["signs", "one", "other"] := top_mk (PySem.W.mg_of X G a34) l34 c34 k34 fun _ _ _ _ _ _ us hl => match us, hl with | [_, _, _], _ => rfl
  have F := fun_mk (st := s_law) l35 c35 k35
  refine ⟨PySem.W.fnOf "law" "law" (defArgs s_law) (defBody s_law) (defScope s_law) .none kV35 dc35 pm35 an35 cd35 ct35, fun s v => .of_eq rfl, fun base _ _ => ?_⟩
  have C__law_bag := ok__law_bag (P := P) (w := w) (base := base) nb T__law_bag 
  have C__law_take := ok__law_take (P := P) (w := w) (base := base) nb T__law_take 
  have C__law_some := ok__law_some (P := P) (w := w) (base := base) nb T__law_some C__law_take
  have C__law_drawn_rows := ok__law_drawn_rows (P := P) (w := w) (base := base) nb T__law_drawn_rows C__law_take C__law_some
  have C__law_node := ok__law_node (P := P) (w := w) (base := base) nb T__law_node 
  have C__law_op := ok__law_op (P := P) (w := w) (base := base) nb T__law_op C__law_node
  have C__law_nodes := ok__law_nodes (P := P) (w := w) (base := base) nb T__law_nodes C__law_op C__law_node
  have C_swapping := ok_swapping (P := P) (w := w) (base := base) nb T_swapping 
  have C_World___init__ := ok_World___init__ (P := P) (w := w) (base := base) nb T_World___init__ C_swapping
  have C_World_ordered := ok_World_ordered (P := P) (w := w) (base := base) nb T_World_ordered 
  have C_mixed_worth := ok_mixed_worth (P := P) (w := w) (base := base) nb T_mixed_worth 
  have C_World_apply := ok_World_apply (P := P) (w := w) (base := base) nb T_World_apply C_World_ordered C_mixed_worth
  have C_World_number := ok_World_number (P := P) (w := w) (base := base) nb T_World_number 
  have C__law_worths_by := ok__law_worths_by (P := P) (w := w) (base := base) nb T__law_worths_by C_World_apply C_World_number
  have C__law_signs := ok__law_signs (P := P) (w := w) (base := base) nb T__law_signs C__law_take
  have C__law_graph := ok__law_graph (P := P) (w := w) (base := base) nb T__law_graph 
  have C__law_parts_of := ok__law_parts_of (P := P) (w := w) (base := base) nb T__law_parts_of 
  have C__law_below := ok__law_below (P := P) (w := w) (base := base) nb T__law_below C__law_parts_of
  have C__law_formula := ok__law_formula (P := P) (w := w) (base := base) nb T__law_formula 
  have C__law_swaps := ok__law_swaps (P := P) (w := w) (base := base) nb T__law_swaps 
  have C__law_worths := ok__law_worths (P := P) (w := w) (base := base) nb T__law_worths C__law_below C__law_formula C__law_swaps
  have C__law_alike := ok__law_alike (P := P) (w := w) (base := base) nb T__law_alike 
  have C__law_parting_rows := ok__law_parting_rows (P := P) (w := w) (base := base) nb T__law_parting_rows C__law_swaps
  have C_parts_of_signs := ok_parts_of_signs (P := P) (w := w) (base := base) nb T_parts_of_signs 
  have C_is_integer := ok_is_integer (P := P) (w := w) (base := base) nb T_is_integer 
  have C_is_row := ok_is_row (P := P) (w := w) (base := base) nb T_is_row C_is_integer
  have C_is_rows := ok_is_rows (P := P) (w := w) (base := base) nb T_is_rows C_parts_of_signs C_is_row
  have C_need_rows := ok_need_rows (P := P) (w := w) (base := base) nb T_need_rows C_is_rows
  have C_Terms___init__ := ok_Terms___init__ (P := P) (w := w) (base := base) nb T_Terms___init__ C_parts_of_signs
  have C_Terms_numbered := ok_Terms_numbered (P := P) (w := w) (base := base) nb T_Terms_numbered 
  have C_Terms_letter := ok_Terms_letter (P := P) (w := w) (base := base) nb T_Terms_letter C_Terms_numbered
  have C_Terms_num := ok_Terms_num (P := P) (w := w) (base := base) nb T_Terms_num C_Terms_numbered
  have C_Terms_op := ok_Terms_op (P := P) (w := w) (base := base) nb T_Terms_op C_Terms_numbered
  have C_put_rows := ok_put_rows (P := P) (w := w) (base := base) nb T_put_rows C_Terms_letter C_Terms_num C_Terms_op
  have C_same := ok_same (P := P) (w := w) (base := base) nb T_same C_need_rows C_Terms___init__ C_put_rows
  exact fn_law nb F C__law_bag C__law_signs C__law_graph C__law_drawn_rows C__law_nodes C__law_take C__law_some C__law_worths_by C_World___init__ C__law_worths C__law_alike C__law_parting_rows C_same
end K31

namespace K31
open PySem Dm
/-! ### draws (as in k19) -/
theorem eq_int (x y : Int) : opEq (.int x) (.int y) = some (.bl (x == y)) := rfl
theorem qLst_one {d : D} (hz : isFz d = true) (E : Ev) : qLst (qCons (qC d) qNil) E = some (.lst true [d]) := by
  unfold qLst
  rw [qCons_of (f := qC d) (g := qNil) (E := E) (d := d) (ds := []) rfl rfl]
  show (if isFzL [d] = true ∧ [d].length ≤ sizeLine then some (D.lst true [d]) else none) = _
  rw [if_pos ⟨by simp only [isFzL, hz]; rfl, by rw [List.length_singleton]; decide⟩]
theorem eTup_two {f g : Ev → Option (D × Ev)} {E E1 E2 : Ev} {x y : D} (h : f E = some (x, E1)) (h2 : g E1 = some (y, E2)) : eTup (eCons f (eCons g eNil)) E = some (.tup [x, y], E2) := by
  unfold eTup
  rw [eCons_of h (eCons_of h2 (rfl : eNil E2 = some ([], E2)))]
  show (if [x, y].length ≤ sizeLine then some (D.tup [x, y], E2) else none) = _
  rw [if_pos (by simp only [List.length_cons, List.length_nil]; decide)]
theorem runD_of {n np : Nat} {b : Lks → Ev → Option Out} {ds os : List D} {d : D} {E' : Ev} (hl : ds.length = np) (h : b (lkOf ds) (ds.map some ++ List.replicate (n - np) none) = some (.ret d E')) (ho : outsD ds E' = some os) : runD n np b ds = some (d, os) := by
  unfold runD
  rw [if_pos hl, h]
  show (match outsD ds E' with | some os => some (d, os) | none => none) = _
  rw [ho]
def bagD (x y z : Int) (cs : List Int) : D := .lst true [.int x, .int y, .int z, .lst true (cs.map .int)]
theorem mul_s {i j : Int} (h : small i = true ∨ small j = true) : opMul (.int i) (.int j) = some (.int (i * j)) := if_pos h
theorem mod_s {i j : Int} (h : j ≠ 0) : opMod (.int i) (.int j) = some (.int (i.fmod j)) := if_pos h
theorem fdiv_s {i j : Int} (h : j ≠ 0) (h2 : j.natAbs < 1073741824) : opFDiv (.int i) (.int j) = some (.int (i.fdiv j)) := if_pos ⟨h, h2⟩
theorem pow18 : opPow (.int 10) (.int 18) = some (.int 1000000000000000000) := by
  show (if 0 ≤ (18 : Int) ∧ (18 : Int) ≤ 1000000 ∧ (10 : Int).natAbs < 2 ^ 64 then some (D.int ((10 : Int) ^ (18 : Int).toNat)) else none) = _
  rw [if_pos (by decide)]
  rfl
theorem cut_map (f : Int → D) (xs : List Int) (lo hi : Option Int) : cutG (xs.map f) lo hi = (cutG xs lo hi).map f := by
  unfold cutG
  rw [List.length_map, ← List.map_drop, ← List.map_take]
theorem cell_ok (cs : List Int) (hc : cs.length ≤ 1000) (z : Int) : ∃ c, ∀ (x y : Int) (E : Ev), E[0]? = some (some (bagD x y z cs)) → eOf (q2f opIx (q2f opAdd (qSl (q2f opIx (qVar 0) (qC (.int 3))) (qPart (q2f opIx (qVar 0) (qC (.int 2)))) qNo) (qLst (qCons (qC (.int 0)) qNil))) (qC (.int 0))) E = some (.int c, E) := by
  have hne : cutG cs (some z) none ++ [0] ≠ [] := by simp
  refine ⟨(cutG cs (some z) none ++ [0]).head hne, fun x y E h => ?_⟩
  have q0 : qVar 0 E = some (bagD x y z cs) := by unfold qVar; rw [h]
  have q3 : q2f opIx (qVar 0) (qC (.int 3)) E = some (.lst true (cs.map .int)) := q2f_of q0 rfl rfl
  have q2 : q2f opIx (qVar 0) (qC (.int 2)) E = some (.int z) := q2f_of q0 rfl rfl
  have s1 : qSl (q2f opIx (qVar 0) (qC (.int 3))) (qPart (q2f opIx (qVar 0) (qC (.int 2)))) qNo E = some (.lst true ((cutG cs (some z) none).map .int)) := by
    have p2 : qPart (q2f opIx (qVar 0) (qC (.int 2))) E = some (some z) := by
      unfold qPart
      rw [q2]; rfl
    unfold qSl
    rw [q3, p2]
    show (if isFzL (cs.map .int) = true then some (D.lst true (cutG (cs.map .int) (some z) none)) else none) = _
    rw [if_pos (fz_ints cs), cut_map]
  have hl : (cutG cs (some z) none).length ≤ 1000 := by
    unfold cutG
    rw [List.length_take, List.length_drop]
    omega
  have a1 : opAdd (.lst true ((cutG cs (some z) none).map .int)) (.lst true [.int 0]) = some (.lst true ((cutG cs (some z) none ++ [0]).map .int)) := by
    show (if ((cutG cs (some z) none).map D.int).length + [D.int 0].length ≤ sizeLine ∧ isFzL ((cutG cs (some z) none).map D.int) = true ∧ isFzL [D.int 0] = true then some (D.lst true ((cutG cs (some z) none).map D.int ++ [.int 0])) else none) = _
    rw [if_pos ⟨by rw [List.length_map]; exact Nat.le_trans (by simp; omega : (cutG cs (some z) none).length + [D.int 0].length ≤ 5000) (by decide), fz_ints _, rfl⟩, List.map_append]
    rfl
  refine eOf_of (q2f_of (q2f_of s1 (qLst_one rfl E) a1) rfl ?_) rfl
  show L2.atI ((cutG cs (some z) none ++ [0]).map D.int) ((0 : Nat) : Int) = _
  refine L2.atI_nat ?_
  rw [List.getElem?_map, ← List.head?_eq_getElem?, List.head?_eq_some_head hne]
  rfl
theorem take_ok (x y z : Int) (cs : List Int) (hc : cs.length ≤ 1000) {n : Int} (h0 : 0 < n) (h1 : n ≤ 1000) :
    ∃ x' y' z' v, 0 ≤ v ∧ v < n ∧ g__law_take [bagD x y z cs, .int n] = some (.int v, [bagD x' y' z' cs, .int n]) := by
  have hn : n ≠ 0 := by omega
  have hn2 : n.natAbs < 1073741824 := by omega
  -- the first part
  have first : ∃ x' y' z' c2 c3, (sIf (tOfQ (tqf (q2f opEq (q2f opIx (qVar 0) (qC (.int 0))) (qC (.int 0))))) (sSeq (sAsg (lkOf [bagD x y z cs, .int n]) [2] (eOf (q2f opIx (q2f opAdd (qSl (q2f opIx (qVar 0) (qC (.int 3))) (qPart (q2f opIx (qVar 0) (qC (.int 2)))) qNo) (qLst (qCons (qC (.int 0)) qNil))) (qC (.int 0)))) (gdName 2))
  (sSeq (sAugIx 0 opIAdd (qC (.int 2)) (qC (.int 1)))
  (sSeq (sIf (tOfQ (tqf (q2f opGe (qVar 2) (q2f opPow (qC (.int 10)) (qC (.int 18)))))) (sAsg (lkOf [bagD x y z cs, .int n]) [] (eVar 2) (gdPut (lnVar 0) (qC (.int 0)))) sNil)
  (sSeq (sAsg (lkOf [bagD x y z cs, .int n]) [3] (n2f opAdd (q2f opAdd (q2f opMul (q2f opIx (qVar 0) (qC (.int 1))) (qC (.int 48271))) (q2f opMod (q1L opInt (qCons (qVar 2) qNil)) (qC (.int 2147483647)))) (q2f opMul (qC (.int 7919)) (q2f opIx (qVar 0) (qC (.int 2))))) (gdName 3))
  (sAsg (lkOf [bagD x y z cs, .int n]) [] (n2f opMod (q1L opInt (qCons (qVar 3) qNil)) (qC (.int 2147483647))) (gdPut (lnVar 0) (qC (.int 1)))))))) sNil) [some (bagD x y z cs), some (.int n), none, none, none, none, none] = some (.nx [some (bagD x' y' z' cs), some (.int n), c2, c3, none, none, none]) := by
    by_cases hx : x = 0
    · obtain ⟨c, hcell⟩ := cell_ok cs hc z
      have p1 := sAsg_of (lk := lkOf [bagD x y z cs, .int n]) (ts := [2]) (g := gdName 2) (E2 := [some (bagD x y z cs), some (.int n), some (.int c), none, none, none, none]) rfl (hcell x y [some (bagD x y z cs), some (.int n), none, none, none, none, none] rfl) rfl
      have p2 : sAugIx 0 opIAdd (qC (.int 2)) (qC (.int 1)) [some (bagD x y z cs), some (.int n), some (.int c), none, none, none, none] = some (.nx [some (bagD x y (z + 1) cs), some (.int n), some (.int c), none, none, none, none]) := rfl
      have g1 : q2f opGe (qVar 2) (q2f opPow (qC (.int 10)) (qC (.int 18))) [some (bagD x y (z + 1) cs), some (.int n), some (.int c), none, none, none, none] = some (.bl (decide (1000000000000000000 ≤ c))) := q2f_of rfl (q2f_of rfl rfl pow18) rfl
      have p3 : ∃ x', (sIf (tOfQ (tqf (q2f opGe (qVar 2) (q2f opPow (qC (.int 10)) (qC (.int 18)))))) (sAsg (lkOf [bagD x y z cs, .int n]) [] (eVar 2) (gdPut (lnVar 0) (qC (.int 0)))) sNil) [some (bagD x y (z + 1) cs), some (.int n), some (.int c), none, none, none, none] = some (.nx [some (bagD x' y (z + 1) cs), some (.int n), some (.int c), none, none, none, none]) := by
        by_cases hg : 1000000000000000000 ≤ c
        · rw [decide_eq_true hg] at g1
          exact ⟨c, sIf_t (tOfQ_of (tqf_of g1)) rfl⟩
        · rw [decide_eq_false hg] at g1
          exact ⟨x, sIf_f (tOfQ_of (tqf_of g1)) rfl⟩
      obtain ⟨x', p3⟩ := p3
      have m1 : q2f opMul (q2f opIx (qVar 0) (qC (.int 1))) (qC (.int 48271)) [some (bagD x' y (z + 1) cs), some (.int n), some (.int c), none, none, none, none] = some (.int (y * 48271)) := q2f_of rfl rfl (mul_s (.inr (by decide)))
      have m2 : q2f opMod (q1L opInt (qCons (qVar 2) qNil)) (qC (.int 2147483647)) [some (bagD x' y (z + 1) cs), some (.int n), some (.int c), none, none, none, none] = some (.int (c.fmod 2147483647)) := q2f_of rfl rfl (mod_s (by decide))
      have m3 : q2f opMul (qC (.int 7919)) (q2f opIx (qVar 0) (qC (.int 2))) [some (bagD x' y (z + 1) cs), some (.int n), some (.int c), none, none, none, none] = some (.int (7919 * (z + 1))) := q2f_of rfl rfl (mul_s (.inl (by decide)))
      have p4 := sAsg_of (lk := lkOf [bagD x y z cs, .int n]) (ts := [3]) (g := gdName 3) (E2 := [some (bagD x' y (z + 1) cs), some (.int n), some (.int c), some (.int (y * 48271 + c.fmod 2147483647 + 7919 * (z + 1))), none, none, none]) rfl (n2f_of (op := opAdd) (q2f_of (op := opAdd) m1 m2 rfl) m3 rfl) rfl
      have p5 := sAsg_of (lk := lkOf [bagD x y z cs, .int n]) (ts := []) (g := gdPut (lnVar 0) (qC (.int 1))) (E2 := [some (bagD x' ((y * 48271 + c.fmod 2147483647 + 7919 * (z + 1)).fmod 2147483647) (z + 1) cs), some (.int n), some (.int c), some (.int (y * 48271 + c.fmod 2147483647 + 7919 * (z + 1))), none, none, none]) rfl (n2f_of (op := opMod) (f := q1L opInt (qCons (qVar 3) qNil)) (g := qC (.int 2147483647)) (x := .int (y * 48271 + c.fmod 2147483647 + 7919 * (z + 1))) (E := [some (bagD x' y (z + 1) cs), some (.int n), some (.int c), some (.int (y * 48271 + c.fmod 2147483647 + 7919 * (z + 1))), none, none, none]) rfl rfl (mod_s (by decide))) rfl
      subst hx
      exact ⟨_, _, _, _, _, sIf_t (E1 := [some (bagD 0 y z cs), some (.int n), none, none, none, none, none]) rfl (sSeq_nx p1 (sSeq_nx p2 (sSeq_nx p3 (sSeq_nx p4 p5))))⟩
    · have c : tOfQ (tqf (q2f opEq (q2f opIx (qVar 0) (qC (.int 0))) (qC (.int 0)))) [some (bagD x y z cs), some (.int n), none, none, none, none, none] = some (false, [some (bagD x y z cs), some (.int n), none, none, none, none, none]) := by
        refine tOfQ_of (tqf_of (q2f_of (x := .int x) rfl rfl ?_))
        rw [eq_int]
        have : (x == 0) = false := by simpa using hx
        rw [this]
      exact ⟨x, y, z, none, none, sIf_f c rfl⟩
  obtain ⟨x', y', z', c2, c3, first⟩ := first
  have g2 : q2f opGt (q2f opIx (qVar 0) (qC (.int 0))) (qC (.int 0)) [some (bagD x' y' z' cs), some (.int n), c2, c3, none, none, none] = some (.bl (decide (0 < x'))) := rfl
  by_cases hp : 0 < x'
  · rw [decide_eq_true hp] at g2
    refine ⟨x'.fdiv n, y', z', x'.fmod n, Int.fmod_nonneg_of_pos _ h0, Int.fmod_lt_of_pos _ h0, ?_⟩
    refine runD_of (E' := [some (bagD (x'.fdiv n) y' z' cs), some (.int n), c2, c3, some (.int (x'.fmod n)), none, none]) rfl ?_ rfl
    show b__law_take (lkOf [bagD x y z cs, .int n]) [some (bagD x y z cs), some (.int n), none, none, none, none, none] = _
    unfold b__law_take
    have p1 := sAsg_of (lk := lkOf [bagD x y z cs, .int n]) (ts := [4]) (g := gdName 4) (E2 := [some (bagD x' y' z' cs), some (.int n), c2, c3, some (.int (x'.fmod n)), none, none]) rfl (n2f_of (op := opMod) (f := q1L opInt (qCons (q2f opIx (qVar 0) (qC (.int 0))) qNil)) (g := qVar 1) (x := .int x') (E := [some (bagD x' y' z' cs), some (.int n), c2, c3, none, none, none]) rfl rfl (mod_s hn)) rfl
    have p2 := sAsg_of (lk := lkOf [bagD x y z cs, .int n]) (ts := []) (g := gdPut (lnVar 0) (qC (.int 0))) (E2 := [some (bagD (x'.fdiv n) y' z' cs), some (.int n), c2, c3, some (.int (x'.fmod n)), none, none]) rfl (n2f_of (op := opFDiv) (f := q1L opInt (qCons (q2f opIx (qVar 0) (qC (.int 0))) qNil)) (g := qVar 1) (x := .int x') (E := [some (bagD x' y' z' cs), some (.int n), c2, c3, some (.int (x'.fmod n)), none, none]) rfl rfl (fdiv_s hn hn2)) rfl
    exact sSeq_nx first (sSeq_ret (sIf_t (tOfQ_of (tqf_of g2)) (sSeq_nx p1 (sSeq_nx p2 rfl))))
  · rw [decide_eq_false hp] at g2
    have hb0 : 0 ≤ ((y' + 1) * 39373).fmod 1000000007 := Int.fmod_nonneg_of_pos _ (by decide)
    have hb1 : ((y' + 1) * 39373).fmod 1000000007 < 1000000007 := Int.fmod_lt_of_pos _ (by decide)
    generalize hbg : ((y' + 1) * 39373).fmod 1000000007 = bg at hb0 hb1
    have hs0 : small bg = true := small_iff.mpr ⟨by omega, by omega⟩
    refine ⟨x', y', z', (((((bg * bg).fmod 998244353) * 30011).fmod 998244353).fdiv 7).fmod n, Int.fmod_nonneg_of_pos _ h0, Int.fmod_lt_of_pos _ h0, ?_⟩
    refine runD_of (E' := [some (bagD x' y' z' cs), some (.int n), c2, c3, none, some (.int bg), some (.int ((((bg * bg).fmod 998244353) * 30011).fmod 998244353))]) rfl ?_ rfl
    show b__law_take (lkOf [bagD x y z cs, .int n]) [some (bagD x y z cs), some (.int n), none, none, none, none, none] = _
    unfold b__law_take
    have m1 : q2f opMul (q2f opAdd (q2f opIx (qVar 0) (qC (.int 1))) (qC (.int 1))) (qC (.int 39373)) [some (bagD x' y' z' cs), some (.int n), c2, c3, none, none, none] = some (.int ((y' + 1) * 39373)) := q2f_of (x := .int (y' + 1)) rfl rfl (mul_s (.inr (by decide)))
    have e1 : n2f opMod (q1L opInt (qCons (q2f opMul (q2f opAdd (q2f opIx (qVar 0) (qC (.int 1))) (qC (.int 1))) (qC (.int 39373))) qNil)) (qC (.int 1000000007)) [some (bagD x' y' z' cs), some (.int n), c2, c3, none, none, none] = some (.int bg, [some (bagD x' y' z' cs), some (.int n), c2, c3, none, none, none]) := by
      rw [← hbg]
      exact n2f_of (q1L_of (qCons_of m1 rfl) rfl) rfl (mod_s (by decide))
    have p1 := sAsg_of (lk := lkOf [bagD x y z cs, .int n]) (ts := [5]) (g := gdName 5) (E2 := [some (bagD x' y' z' cs), some (.int n), c2, c3, none, some (.int bg), none]) rfl e1 rfl
    have m2 : q2f opMul (qVar 5) (qVar 5) [some (bagD x' y' z' cs), some (.int n), c2, c3, none, some (.int bg), none] = some (.int (bg * bg)) := q2f_of rfl rfl (mul_s (.inl hs0))
    have m3 : q2f opMod (q1L opInt (qCons (q2f opMul (qVar 5) (qVar 5)) qNil)) (qC (.int 998244353)) [some (bagD x' y' z' cs), some (.int n), c2, c3, none, some (.int bg), none] = some (.int ((bg * bg).fmod 998244353)) := q2f_of (q1L_of (qCons_of m2 rfl) rfl) rfl (mod_s (by decide))
    have m4 : q2f opMul (q2f opMod (q1L opInt (qCons (q2f opMul (qVar 5) (qVar 5)) qNil)) (qC (.int 998244353))) (qC (.int 30011)) [some (bagD x' y' z' cs), some (.int n), c2, c3, none, some (.int bg), none] = some (.int (((bg * bg).fmod 998244353) * 30011)) := q2f_of m3 rfl (mul_s (.inr (by decide)))
    have p2 := sAsg_of (lk := lkOf [bagD x y z cs, .int n]) (ts := [6]) (g := gdName 6) (E2 := [some (bagD x' y' z' cs), some (.int n), c2, c3, none, some (.int bg), some (.int ((((bg * bg).fmod 998244353) * 30011).fmod 998244353))]) rfl (n2f_of (op := opMod) (f := q1L opInt (qCons (q2f opMul (q2f opMod (q1L opInt (qCons (q2f opMul (qVar 5) (qVar 5)) qNil)) (qC (.int 998244353))) (qC (.int 30011))) qNil)) (g := qC (.int 998244353)) (q1L_of (op := opInt) (qCons_of m4 rfl) rfl) rfl (mod_s (by decide))) rfl
    have m5 : q2f opFDiv (qVar 6) (qC (.int 7)) [some (bagD x' y' z' cs), some (.int n), c2, c3, none, some (.int bg), some (.int ((((bg * bg).fmod 998244353) * 30011).fmod 998244353))] = some (.int (((((bg * bg).fmod 998244353) * 30011).fmod 998244353).fdiv 7)) := q2f_of rfl rfl (fdiv_s (by decide) (by decide))
    have p3 := sRet_of (n2f_of (op := opMod) (f := q1L opInt (qCons (q2f opFDiv (qVar 6) (qC (.int 7))) qNil)) (g := qVar 1) (q1L_of (op := opInt) (qCons_of m5 rfl) rfl) rfl (mod_s hn))
    exact sSeq_nx first (sSeq_nx (sIf_f (tOfQ_of (tqf_of g2)) rfl) (sSeq_nx p1 (sSeq_nx p2 p3)))
theorem len_ds (o : Bool) (ds : List D) : opLen [.lst o ds] = some (.int ds.length) := rfl
theorem call_take {E : Ev} {x y z : Int} {cs : List Int} (hc : cs.length ≤ 1000) {i : Nat} {f : Ev → Option (D × Ev)} {n : Int} (hb : E[i]? = some (some (bagD x y z cs))) (hf : f E = some (.int n, E)) (h0 : 0 < n) (h1 : n ≤ 1000) :
    ∃ x' y' z' v, 0 ≤ v ∧ v < n ∧ eCall g__law_take (xSlot i (xVal f xNil)) E = some (.int v, E.set i (some (bagD x' y' z' cs))) := by
  obtain ⟨x', y', z', v, v0, v1, q⟩ := take_ok x y z cs hc h0 h1
  refine ⟨x', y', z', v, v0, v1, ?_⟩
  rw [eCall_of (xSlot_of hb (xVal_of hf rfl)) (E2 := E.set i none) (ds := [bagD x y z cs, .int n]) ?_ q]
  · show some (D.int v, (E.set i none).set i (some (bagD x' y' z' cs))) = _
    rw [List.set_set]
  · unfold gather
    rw [hb]
    rfl
theorem some_ok (x y z : Int) (cs : List Int) (hc : cs.length ≤ 1000) {ds : List D} (h0 : ds ≠ []) (h1 : ds.length ≤ 1000) (hz : ∀ d ∈ ds, isFz (froz d) = true) :
    ∃ x' y' z' d t, d ∈ ds ∧ g__law_some [bagD x y z cs, .lst true ds] = some (froz d, [bagD x' y' z' cs, t]) := by
  have hpos : 0 < ds.length := List.length_pos_iff.mpr h0
  obtain ⟨x', y', z', v, v0, v1, q⟩ := call_take (E := [some (bagD x y z cs), some (.lst true ds)]) (i := 0) (f := n1L opLen (qCons (qVar 1) qNil)) (n := ds.length) hc rfl rfl (by omega) (by omega)
  obtain ⟨j, rfl⟩ : ∃ j : Nat, v = j := ⟨v.toNat, by omega⟩
  have hj : j < ds.length := by omega
  have hat : opIx (.lst true ds) (.int (j : Nat)) = some ds[j] := by
    exact L2.atI_nat (List.getElem?_eq_getElem (by simpa using hj))
  by_cases hfz : isFz ds[j] = true
  · refine ⟨x', y', z', ds[j], .lst true ds, List.getElem_mem hj, ?_⟩
    refine runD_of (E' := [some (bagD x' y' z' cs), some (.lst true ds)]) rfl (sRet_of ?_) rfl
    show eIxN 1 _ [some (bagD x y z cs), some (.lst true ds)] = _
    unfold eIxN
    show (match eCall g__law_take (xSlot 0 (xVal (n1L opLen (qCons (qVar 1) qNil)) xNil)) [some (bagD x y z cs), some (.lst true ds)] with | some (k, E1) => _ | none => _) = _
    rw [q]
    show (match opIxF (.lst true ds) (.int (j : Nat)) with | some d => some (d, [some (bagD x' y' z' cs), some (.lst true ds)]) | none => _) = _
    have : opIxF (.lst true ds) (.int (j : Nat)) = some ds[j] := by
      unfold opIxF
      rw [hat]
      exact if_pos hfz
    rw [this, froz_fz _ hfz]
  · have hl : frozL ds = ds.map froz := frozL_map ds
    refine ⟨x', y', z', ds[j], .lst false (frozL ds), List.getElem_mem hj, ?_⟩
    refine runD_of (E' := [some (bagD x' y' z' cs), some (.lst false (frozL ds))]) rfl (sRet_of ?_) rfl
    show eIxN 1 _ [some (bagD x y z cs), some (.lst true ds)] = _
    unfold eIxN
    show (match eCall g__law_take (xSlot 0 (xVal (n1L opLen (qCons (qVar 1) qNil)) xNil)) [some (bagD x y z cs), some (.lst true ds)] with | some (k, E1) => _ | none => _) = _
    rw [q]
    show (match opIxF (.lst true ds) (.int (j : Nat)) with | some d => some (d, [some (bagD x' y' z' cs), some (.lst true ds)]) | none => (match opIxF (froz (.lst true ds)) (.int (j : Nat)) with | some d => some (d, [some (bagD x' y' z' cs), some (froz (.lst true ds))]) | none => none)) = _
    have e1 : opIxF (.lst true ds) (.int (j : Nat)) = none := by
      unfold opIxF
      rw [hat]
      exact if_neg hfz
    have e2 : opIxF (froz (.lst true ds)) (.int (j : Nat)) = some (froz ds[j]) := by
      have ef : froz (.lst true ds) = .lst false (frozL ds) := by simp only [froz]
      unfold opIxF
      rw [ef]
      have : opIx (.lst false (frozL ds)) (.int (j : Nat)) = some (froz ds[j]) := by
        show L2.atI (frozL ds) ((j : Nat) : Int) = _
        rw [hl]
        refine L2.atI_nat ?_
        rw [List.getElem?_map, List.getElem?_eq_getElem (by simpa using hj)]
        simp
      rw [this]
      exact if_pos (hz _ (List.getElem_mem hj))
    rw [e1, e2]
    have ef : froz (.lst true ds) = .lst false (frozL ds) := by simp only [froz]
    rw [ef]
theorem call_some {E E1 : Ev} {x y z : Int} {cs : List Int} (hc : cs.length ≤ 1000) {i : Nat} {f : Ev → Option (D × Ev)} {ds : List D} (h : E[i]? = some (some (bagD x y z cs))) (hf : f E = some (.lst true ds, E1)) (hb : E1[i]? = some (some (bagD x y z cs))) (h0 : ds ≠ []) (h1 : ds.length ≤ 1000) (hz : ∀ d ∈ ds, isFz (froz d) = true) :
    ∃ x' y' z' d, d ∈ ds ∧ eCall g__law_some (xSlot i (xVal f xNil)) E = some (froz d, E1.set i (some (bagD x' y' z' cs))) := by
  obtain ⟨x', y', z', d, t, hd, q⟩ := some_ok x y z cs hc h0 h1 hz
  refine ⟨x', y', z', d, hd, ?_⟩
  rw [eCall_of (xSlot_of h (xVal_of hf rfl)) (E2 := E1.set i none) (ds := [bagD x y z cs, .lst true ds]) ?_ q]
  · show some (froz d, (E1.set i none).set i (some (bagD x' y' z' cs))) = _
    rw [List.set_set]
  · unfold gather
    rw [hb]
    rfl
/-- .. the slot's bag may have changed while the things were made -/
theorem call_some2 {E E1 : Ev} {x y z x0 y0 z0 : Int} {cs : List Int} (hc : cs.length ≤ 1000) {i : Nat} {f : Ev → Option (D × Ev)} {ds : List D} (h : E[i]? = some (some (bagD x0 y0 z0 cs))) (hf : f E = some (.lst true ds, E1)) (hb : E1[i]? = some (some (bagD x y z cs))) (h0 : ds ≠ []) (h1 : ds.length ≤ 1000) (hz : ∀ d ∈ ds, isFz (froz d) = true) :
    ∃ x' y' z' d, d ∈ ds ∧ eCall g__law_some (xSlot i (xVal f xNil)) E = some (froz d, E1.set i (some (bagD x' y' z' cs))) := by
  obtain ⟨x', y', z', d, t, hd, q⟩ := some_ok x y z cs hc h0 h1 hz
  refine ⟨x', y', z', d, hd, ?_⟩
  rw [eCall_of (xSlot_of h (xVal_of hf rfl)) (E2 := E1.set i none) (ds := [bagD x y z cs, .lst true ds]) ?_ q]
  · show some (froz d, (E1.set i none).set i (some (bagD x' y' z' cs))) = _
    rw [List.set_set]
  · unfold gather
    rw [hb]
    rfl
/-! the bag, whatever it holds -/
def Bag (cs : List Int) (b : D) : Prop := cs.length ≤ 1000 ∧ ∃ x y z, b = bagD x y z cs
theorem bag_nz {cs : List Int} {b : D} (h : Bag cs b) : isFz b = false := by obtain ⟨_, x, y, z, e⟩ := h; subst e; rfl
theorem take_b {cs : List Int} {b : D} (hb : Bag cs b) {E : Ev} {i : Nat} {f : Ev → Option (D × Ev)} {n : Int} (he : E[i]? = some (some b)) (hf : f E = some (.int n, E)) (h0 : 0 < n) (h1 : n ≤ 1000) :
    ∃ b' v, Bag cs b' ∧ 0 ≤ v ∧ v < n ∧ eCall g__law_take (xSlot i (xVal f xNil)) E = some (.int v, E.set i (some b')) := by
  obtain ⟨hc, x, y, z, rfl⟩ := hb
  obtain ⟨x', y', z', v, v0, v1, q⟩ := call_take hc he hf h0 h1
  exact ⟨_, v, ⟨hc, x', y', z', rfl⟩, v0, v1, q⟩
theorem some_b {cs : List Int} {b b1 : D} (hb : Bag cs b) (hb1 : Bag cs b1) {E E1 : Ev} {i : Nat} {f : Ev → Option (D × Ev)} {ds : List D} (he : E[i]? = some (some b)) (hf : f E = some (.lst true ds, E1)) (he1 : E1[i]? = some (some b1)) (h0 : ds ≠ []) (h1 : ds.length ≤ 1000) (hz : ∀ d ∈ ds, isFz (froz d) = true) :
    ∃ b' d, Bag cs b' ∧ d ∈ ds ∧ eCall g__law_some (xSlot i (xVal f xNil)) E = some (froz d, E1.set i (some b')) := by
  obtain ⟨hc, x, y, z, rfl⟩ := hb
  obtain ⟨_, x1, y1, z1, rfl⟩ := hb1
  obtain ⟨x', y', z', d, hd, q⟩ := call_some2 hc he hf he1 h0 h1 hz
  exact ⟨_, d, ⟨hc, x', y', z', rfl⟩, hd, q⟩
end K31

namespace K31
open PySem Dm
/-! ### the data -/
inductive Rw where
  | let (s : Str) | num (n : Int) | op (o : Str) (ks : List Nat)
deriving DecidableEq
def nD (k : Nat) : D := .int (k : Nat)
def Rw.d : Rw → D
  | .let s => .tup [.str "letter", .str s]
  | .num n => .tup [.str "num", .int n]
  | .op o ks => .tup [.str "op", .str o, .tup (ks.map nD)]
theorem nD_inj {a b : Nat} (h : nD a = nD b) : a = b := by
  unfold nD at h
  injection h with h
  exact Int.ofNat.inj h
theorem fz_nD (k : Nat) : isFz (nD k) = true := rfl
theorem Rw.fz (r : Rw) : isFz r.d = true := by
  cases r with
  | «let» s => rfl
  | num n => rfl
  | op o ks =>
    show (true && (true && (isFz (.tup (ks.map nD)) && true))) = true
    simp only [isFz, isFzL_map nD fz_nD, Bool.and_true]
def Rw.nk : Rw → NestedKey
  | .let s => .tup [.text "letter", .text s]
  | .num n => .tup [.text "num", .num n]
  | .op o ks => .tup [.text "op", .text o, .tup (ks.map fun (k : Nat) => .num (k : Nat))]
theorem keysN_nD : ∀ ks : List Nat, keysN (ks.map nD) = some (ks.map fun (k : Nat) => NestedKey.num (k : Nat))
  | [] => rfl
  | k :: ks => by
    rw [List.map_cons, List.map_cons]
    unfold keysN
    rw [keysN_nD ks]
    rfl
theorem Rw.keyN (r : Rw) : keyN r.d = some r.nk := by
  cases r with
  | «let» s => rfl
  | num n => rfl
  | op o ks =>
    show Dm.keyN (.tup [.str "op", .str o, .tup (ks.map nD)]) = _
    simp only [Dm.keyN, keysN, keysN_nD]
    rfl
theorem depth_nums : ∀ ks : List Nat, NestedKey.depthAll (ks.map fun (k : Nat) => NestedKey.num (k : Nat)) = 0
  | [] => rfl
  | k :: ks => by
    rw [List.map_cons]
    show max 0 (NestedKey.depthAll _) = 0
    rw [depth_nums ks]
    rfl
theorem Rw.dep (r : Rw) : r.nk.depth ≤ 8 := by
  cases r with
  | «let» s => simp only [Rw.nk, NestedKey.depth, NestedKey.depthAll]; decide
  | num n => simp only [Rw.nk, NestedKey.depth, NestedKey.depthAll]; decide
  | op o ks =>
    have h := depth_nums ks
    simp only [Rw.nk, NestedKey.depth, NestedKey.depthAll, h]
    decide
theorem Rw.keyT (r : Rw) : keyT r.d = some r.nk := by
  have h : ∃ xs, r.d = .tup xs := by cases r <;> exact ⟨_, rfl⟩
  obtain ⟨xs, e⟩ := h
  unfold Dm.keyT
  rw [e]
  show (match Dm.keyN (.tup xs) with | some k => (if k.depth ≤ 8 then some k else none) | none => none) = _
  rw [← e, r.keyN]
  exact if_pos r.dep
theorem nums_inj : ∀ {a b : List Nat}, (a.map fun (k : Nat) => NestedKey.num (k : Nat)) = (b.map fun (k : Nat) => NestedKey.num (k : Nat)) → a = b
  | [], [], _ => rfl
  | [], _ :: _, h => by simp at h
  | _ :: _, [], h => by simp at h
  | x :: a, y :: b, h => by
    rw [List.map_cons, List.map_cons] at h
    injection h with h1 h2
    injection h1 with h1
    rw [Int.ofNat.inj h1, nums_inj h2]
theorem Rw.inj (a b : Rw) (h : a.nk = b.nk) : a = b := by
  cases a <;> cases b <;> simp only [Rw.nk, NestedKey.tup.injEq, List.cons.injEq, NestedKey.text.injEq, NestedKey.num.injEq, and_true, true_and] at h
  · rw [h]
  · exact absurd h.1 (by decide)
  · exact absurd h.1 (by decide)
  · exact absurd h.1 (by decide)
  · rw [h]
  · exact absurd h.1 (by decide)
  · exact absurd h.1 (by decide)
  · exact absurd h.1 (by decide)
  · rw [h.1, nums_inj h.2]
theorem kc_rw : Kc Rw.d := .inr ⟨Rw.nk, Rw.inj, Rw.keyT⟩
/-! ### the graph -/
def idsD (n : Nat) : List D := (List.range n).map nD
def grD (o : Bool) (g : List Rw) : D := .tup [dicT Rw.d true g (idsD g.length), .lst o (g.map Rw.d)]
theorem idsD_len (n : Nat) : (idsD n).length = n := by unfold idsD; rw [List.length_map, List.length_range]
theorem idsD_succ (n : Nat) : idsD n ++ [nD n] = idsD (n + 1) := by
  unfold idsD
  rw [List.range_succ, List.map_append]
  rfl
theorem idsD_get {n j : Nat} (h : j < n) : (idsD n)[j]? = some (nD j) := by
  unfold idsD
  rw [List.getElem?_map, List.getElem?_range h]
  rfl
theorem grD_nz (o : Bool) (g : List Rw) : isFz (grD o g) = false := rfl
theorem ixOf_new {g : List Rw} {r : Rw} (n : r ∉ g) : ixOf (g ++ [r]) r = some g.length := by
  induction g with
  | nil => show (if r = r then some 0 else _) = _; rw [if_pos rfl]; rfl
  | cons x g ih =>
    rw [List.mem_cons, not_or] at n
    show (if x = r then some 0 else (ixOf (g ++ [r]) r).map (· + 1)) = _
    rw [if_neg fun e => n.1 e.symm, ih n.2]
    rfl
def ndG (g : List Rw) (r : Rw) : List Rw := if r ∈ g then g else g ++ [r]
def ndI (g : List Rw) (r : Rw) : Nat := match ixOf g r with | some j => j | none => g.length
theorem ndI_ix (g : List Rw) (r : Rw) : ixOf (ndG g r) r = some (ndI g r) := by
  unfold ndG ndI
  by_cases m : r ∈ g
  · obtain ⟨j, e⟩ := ixOf_mem m
    rw [if_pos m, e]
  · rw [if_neg m, ixOf_none.mpr m, ixOf_new m]
theorem node_ok {g : List Rw} (hg : g.length ≤ 1000) (r : Rw) : g__law_node [grD true g, r.d] = some (nD (ndI g r), [grD true (ndG g r), r.d]) := by
  have fin : ∀ g' : List Rw, ixOf g' r = some (ndI g r) → opIx (dicT Rw.d true g' (idsD g'.length)) r.d = some (nD (ndI g r)) := fun g' e => by
    rw [opIx_dic kc_rw, lookK_at e, idsD_get (ixOf_lt e)]
  have hix := ndI_ix g r
  refine runD_of (E' := [some (grD true (ndG g r)), some r.d]) rfl ?_ ?_
  · show b__law_node (lkOf [grD true g, r.d]) [some (grD true g), some r.d] = _
    unfold b__law_node
    have q1 : opNotIn r.d (dicT Rw.d true g (idsD g.length)) = some (.bl (decide (r ∉ g))) := opNotIn_dic kc_rw true g _ r (idsD_len _)
    by_cases m : r ∈ g
    · have eg : ndG g r = g := if_pos m
      rw [eg] at hix ⊢
      rw [decide_eq_false fun n => n m] at q1
      refine sSeq_nx (E1 := [some (grD true g), some r.d]) (sIf_f (E1 := [some (grD true g), some r.d]) (tOfQ_of (tqf_of (q2f_of rfl rfl q1))) rfl) (sRet_of (eOf_of (q2f_of rfl rfl (fin g hix)) rfl))
    · have eg : ndG g r = g ++ [r] := if_neg m
      rw [eg] at hix ⊢
      rw [decide_eq_true m] at q1
      have s1 : setC (dicT Rw.d true g (idsD g.length)) r.d (nD g.length) = some (dicT Rw.d true (g ++ [r]) (idsD (g.length + 1))) := by
        rw [setC_dic kc_rw _ _ _ _ (by rw [idsD_len]; exact Nat.lt_of_le_of_lt hg (by decide)), putT_new m, idsD_succ]
      have a1 : mAppend (g.map Rw.d) [r.d] = some (.non, (g ++ [r]).map Rw.d) := by
        rw [List.map_append]
        exact if_pos (by rw [List.length_map]; exact Nat.lt_of_le_of_lt hg (by decide))
      have len : opLen [.lst true (g.map Rw.d)] = some (nD g.length) := by
        show some (D.int ((g.map Rw.d).length : Nat)) = _
        rw [List.length_map]; rfl
      have E1 : lnIx 0 (lnVar 0) [some (grD true g), some r.d] = some (dicT Rw.d true g (idsD g.length), fun d' => [some (.tup [d', .lst true (g.map Rw.d)]), some r.d]) := rfl
      have p1 := sAsg_of (lk := lkOf [grD true g, r.d]) (ts := []) (d := nD g.length) (E1 := [some (grD true g), some r.d]) (g := gdPut (lnIx 0 (lnVar 0)) (qVar 1)) rfl (n1L_of (op := opLen) (ds := [.lst true (g.map Rw.d)]) (g := qCons (q2f opIx (qVar 0) (qC (.int 1))) qNil) rfl len) (gdPut_of E1 rfl s1)
      have p2 := sExpr_of (eMtL_of (l := lnIx 1 (lnVar 0)) (op := mAppend) (g := qCons (qVar 1) qNil) (E := [some (.tup [dicT Rw.d true (g ++ [r]) (idsD (g.length + 1)), .lst true (g.map Rw.d)]), some r.d]) rfl rfl (by simp only [isFzL, r.fz, Bool.and_true]) a1)
      have len2 : (g ++ [r]).length = g.length + 1 := by rw [List.length_append]; rfl
      refine sSeq_nx (E1 := [some (grD true (g ++ [r])), some r.d]) (sIf_t (E1 := [some (grD true g), some r.d]) (tOfQ_of (tqf_of (q2f_of rfl rfl q1))) ?_) (sRet_of (eOf_of (q2f_of rfl rfl (fin (g ++ [r]) hix)) rfl))
      refine (sSeq_nx p1 p2).trans ?_
      unfold grD
      rw [len2]
      rfl
  · show outsD [grD true g, r.d] [some (grD true (ndG g r)), some r.d] = _
    unfold outsD outsD outsD
    rw [r.fz]
    rfl
end K31

namespace K31
open PySem Dm
/-! ### sorted numbers -/
theorem leD_int (x y : Int) : leD (.int x) (.int y) = decide (x ≤ y) := by
  have h := PySem.W.dataLt_int y x
  unfold PySem.W.dataLt at h
  show (!(PyProof.Rows.lexLt PyProof.Rows.itemOrd (PySem.W.keyToks (.int y)) (PySem.W.keyToks (.int x)))) = _
  rw [h]
  by_cases q : y < x
  · rw [decide_eq_true q, decide_eq_false (by omega)]; rfl
  · rw [decide_eq_false q, decide_eq_true (by omega)]; rfl
def lei (x y : Int) : Bool := decide (x ≤ y)
def srI (xs : List Int) : List Int := xs.mergeSort lei
theorem sortOk_ints (ns : List Int) : sortOk (ns.map .int) = true := by
  unfold sortOk
  simp only [Bool.and_eq_true, Bool.or_eq_true, List.all_eq_true, List.mem_map, forall_exists_index, and_imp, forall_apply_eq_imp_iff₂, decide_eq_true_eq]
  refine ⟨⟨⟨⟨?_, fz_ints ns⟩, fun a _ b _ => rfl⟩, .inr fun a _ => trivial⟩, fun a _ => ?_⟩
  · rw [isDatL_all, List.all_map, List.all_eq_true]; exact fun _ _ => rfl
  · show PyData.depth (.int a) ≤ 60
    simp [PyData.depth]
theorem merge_ints (ns : List Int) : (ns.map D.int).mergeSort leD = (srI ns).map .int :=
  ((List.map_mergeSort (r := lei) (s := leD) (f := D.int) fun a _ b _ => (leD_int a b).symm)).symm
theorem sorted_lst (o : Bool) (ns : List Int) : opSorted [.lst o (ns.map .int)] = some (.lst true ((srI ns).map .int)) := by
  show (if sortOk (ns.map D.int) = true then some (D.lst true ((ns.map D.int).mergeSort leD)) else none) = _
  rw [if_pos (sortOk_ints ns), merge_ints]
theorem sorted_tup (ns : List Int) : opSorted [.tup (ns.map .int)] = some (.lst true ((srI ns).map .int)) := by
  show (if sortOk (ns.map D.int) = true then some (D.lst true ((ns.map D.int).mergeSort leD)) else none) = _
  rw [if_pos (sortOk_ints ns), merge_ints]
theorem lei_trans (a b c : Int) (h : lei a b = true) (h2 : lei b c = true) : lei a c = true := by
  unfold lei at *
  simp only [decide_eq_true_eq] at *
  omega
theorem lei_total (a b : Int) : (lei a b || lei b a) = true := by
  unfold lei
  simp only [Bool.or_eq_true, decide_eq_true_eq]
  omega
theorem srI_perm (xs : List Int) : (srI xs).Perm xs := List.mergeSort_perm xs lei
theorem srI_sorted (xs : List Int) : (srI xs).Pairwise (· ≤ ·) := by
  have h := List.pairwise_mergeSort (le := lei) lei_trans lei_total xs
  exact h.imp fun q => by unfold lei at q; exact of_decide_eq_true q
theorem srI_eq {xs ys : List Int} (h : xs.Perm ys) : srI xs = srI ys :=
  PySem.W.os_sorted_one ((srI_perm xs).trans (h.trans (srI_perm ys).symm)) (srI_sorted xs) (srI_sorted ys)
theorem srI_len (xs : List Int) : (srI xs).length = xs.length := List.length_mergeSort xs
theorem srI_of_sorted {xs : List Int} (h : xs.Pairwise (· ≤ ·)) : srI xs = xs := PySem.W.os_sorted_one (srI_perm xs) (srI_sorted xs) h
/-- .. of places -/
def srN (ks : List Nat) : List Nat := (srI (ks.map fun (k : Nat) => (k : Int))).map Int.toNat
theorem srN_int (ks : List Nat) : (srN ks).map (fun (k : Nat) => (k : Int)) = srI (ks.map fun (k : Nat) => (k : Int)) := by
  unfold srN
  rw [List.map_map]
  refine (List.map_congr_left (g := id) fun x m => ?_).trans (List.map_id _)
  obtain ⟨k, _, rfl⟩ := List.mem_map.mp ((srI_perm _).mem_iff.mp m)
  rfl
theorem nD_map (ks : List Nat) : ks.map nD = (ks.map fun (k : Nat) => (k : Int)).map D.int := by rw [List.map_map]; rfl
theorem srN_nD (ks : List Nat) : (srN ks).map nD = (srI (ks.map fun (k : Nat) => (k : Int))).map D.int := by rw [nD_map, srN_int]
theorem ints_injL : ∀ {a b : List Nat}, (a.map fun (k : Nat) => (k : Int)) = b.map (fun (k : Nat) => (k : Int)) → a = b
  | [], [], _ => rfl
  | [], _ :: _, h => by simp at h
  | _ :: _, [], h => by simp at h
  | x :: a, y :: b, h => by
    rw [List.map_cons, List.map_cons] at h
    injection h with h1 h2
    rw [Int.ofNat.inj h1, ints_injL h2]
theorem srN_perm (ks : List Nat) : (srN ks).Perm ks := by
  have h := srI_perm (ks.map fun (k : Nat) => (k : Int))
  unfold srN
  refine (h.map Int.toNat).trans ?_
  rw [List.map_map]
  exact List.Perm.of_eq ((List.map_congr_left (g := id) fun x _ => rfl).trans (List.map_id _))
theorem srN_eq {xs ys : List Nat} (h : xs.Perm ys) : srN xs = srN ys := by
  unfold srN
  rw [srI_eq (h.map _)]
def srt (b : Bool) (ks : List Nat) : List Nat := if b = true then srN ks else ks
def srtI (b : Bool) (ks : List Int) : List Int := if b = true then srI ks else ks
/-! ### signs -/
abbrev Op := Str × Nat × Int
def opD (p : Op) : D := .tup [.str p.1, .int (p.2.1 : Nat), .int p.2.2]
def sgD (ops : List Op) (q : D) : D := .tup [.tup (ops.map opD), q]
theorem fz_opD (p : Op) : isFz (opD p) = true := rfl
theorem fz_sgD {ops : List Op} {q : D} (h : isFz q = true) : isFz (sgD ops q) = true := by
  simp only [sgD, isFz, isFzL, isFzL_map opD fz_opD, h, Bool.and_true]
def swB (o : Str) (p : Op) : Bool := p.1 == o && p.2.2 == 1
def swp (ops : List Op) (o : Str) : Bool := ops.any (swB o)
theorem ne_nil (ns : List Int) : opNe (.lst true (ns.map .int)) (.lst true []) = some (.bl (!ns.isEmpty)) := by
  have ok : ∀ ns : List Int, okEq (.lst true (ns.map .int)) = true := fun ns => by
    unfold okEq
    have h1 : isDat (.lst true (ns.map .int)) = true := by
      simp only [isDat]
      rw [isDatL_all, List.all_map, List.all_eq_true]
      exact fun _ _ => rfl
    have h2 : ∀ ns : List Int, PyData.canLayAll0 (toPL (ns.map .int)) = true ∧ PyData.depthAll (toPL (ns.map .int)) = 0 := by
      intro ns
      induction ns with
      | nil => exact ⟨rfl, rfl⟩
      | cons n ns ih =>
        rw [List.map_cons, toPL]
        simp only [toP, PyData.canLayAll0, PyData.depthAll, PyData.canLay0, PyData.depth, ih.1, ih.2]
        exact ⟨rfl, rfl⟩
    rw [h1]
    unfold SeqAt.shaped
    simp only [toP, PyData.canLay0, PyData.depth, (h2 ns).1, (h2 ns).2]
    decide
  have e : opNe (.lst true (ns.map .int)) (.lst true []) = (if okEq (.lst true (ns.map .int)) = true ∧ okEq (.lst true []) = true then some (.bl (!PyData.eqv (toP (.lst true (ns.map .int))) (toP (.lst true [])))) else none) := rfl
  rw [e, if_pos ⟨ok ns, ok []⟩]
  cases ns with
  | nil => simp [toP, toPL, PyData.eqv, PyData.eqvAll]
  | cons n ns => simp [toP, toPL, PyData.eqv, PyData.eqvAll]
theorem ones_ok (ops : List Op) (o : Str) : (!((ops.filter (swB o)).map fun _ => (1 : Int)).isEmpty) = swp ops o := by
  unfold swp
  induction ops with
  | nil => rfl
  | cons p ops ih =>
    cases h : swB o p with
    | true => rw [List.filter_cons_of_pos h, List.any_cons, h]; rfl
    | false => rw [List.filter_cons_of_neg (by rw [h]; exact Bool.false_ne_true), List.any_cons, h, Bool.false_or]; exact ih
end K31

namespace K31
open PySem Dm
/-! ### swaps, op -/
theorem iSeq_ops {ops : List Op} {q : D} {E : Ev} {i : Nat} (h : E[i]? = some (some (sgD ops q))) : iSeq (eOf (q2f opIx (qVar i) (qC (.int 0)))) E = some (ops.map opD, E) := by
  have e : eOf (q2f opIx (qVar i) (qC (.int 0))) E = some (.tup (ops.map opD), E) := by
    refine eOf_of (q2f_of (x := sgD ops q) (y := .int 0) (by unfold qVar; rw [h]) rfl rfl) ?_
    simp only [isFz, isFzL_map opD fz_opD]
  unfold iSeq
  rw [e]
  exact if_pos (isFzL_map opD fz_opD ops)
theorem swaps_ok {ops : List Op} (hl : ops.length ≤ 1000) (q : D) (hq : isFz q = true) (o : Str) : g__law_swaps [sgD ops q, .str o] = some (.bl (swp ops o), [sgD ops q, .str o]) := by
  refine runD_same [none, none, none] rfl (sRet_of ?_)
  have c := eComp_typed (own := [2, 3, 4]) (g := gdTup 3 (gdCons (gdName 2) (gdCons (gdName 3) (gdCons (gdName 4) gdNil)))) (tt := tOfQ (qAnd (tqf (q2f opEq (qVar 2) (qVar 1))) (tqf (q2f opEq (qVar 4) (qC (.int 1)))))) (el := eOf (qC (.int 1)))
    opD (swB o) (fun _ => .int 1) ops (E := [some (sgD ops q), some (.str o), none, none, none]) (iSeq_ops (i := 0) rfl) rfl rfl rfl (Nat.le_trans hl (by decide)) fun p _ => by
      refine ⟨[some (sgD ops q), some (.str o), some (.str p.1), some (.int (p.2.1 : Nat)), some (.int p.2.2)], [some (sgD ops q), some (.str o), some (.str p.1), some (.int (p.2.1 : Nat)), some (.int p.2.2)], rfl, ?_, fun _ => rfl, fun _ => ⟨_, rfl, rfl⟩⟩
      exact tOfQ_of (qAnd_of (a := p.1 == o) (b := p.2.2 == 1) (tqf_of (q2f_of (op := opEq) (x := .str p.1) (y := .str o) rfl rfl rfl)) fun _ => tqf_of (q2f_of (op := opEq) (x := .int p.2.2) (y := .int 1) rfl rfl rfl))
  have l : (ops.filter (swB o)).map (fun _ => D.int 1) = ((ops.filter (swB o)).map fun _ => (1 : Int)).map D.int := by rw [List.map_map]; rfl
  rw [l] at c
  refine (e2f_of c rfl (ne_nil _)).trans ?_
  rw [ones_ok]
  rfl
theorem swp_op {ops : List Op} (hl : ops.length ≤ 1000) (q : D) (hq : isFz q = true) (o : Str) (a b : Option D) :
    e2f opNe (eComp [5, 6, 7] (iSeq (eOf (q2f opIx (qVar 1) (qC (.int 0))))) (gdTup 3 (gdCons (gdName 5) (gdCons (gdName 6) (gdCons (gdName 7) gdNil)))) (tOfQ (qAnd (tqf (q2f opEq (qVar 5) (qVar 2))) (tqf (q2f opEq (qVar 7) (qC (.int 1)))))) (eOf (qC (.int 1)))) (eLst eNil)
      [a, some (sgD ops q), some (.str o), b, none, none, none, none] = some (.bl (swp ops o), [a, some (sgD ops q), some (.str o), b, none, none, none, none]) := by
  have c := eComp_typed (own := [5, 6, 7]) (g := gdTup 3 (gdCons (gdName 5) (gdCons (gdName 6) (gdCons (gdName 7) gdNil)))) (tt := tOfQ (qAnd (tqf (q2f opEq (qVar 5) (qVar 2))) (tqf (q2f opEq (qVar 7) (qC (.int 1)))))) (el := eOf (qC (.int 1)))
    opD (swB o) (fun _ => .int 1) ops (E := [a, some (sgD ops q), some (.str o), b, none, none, none, none]) (iSeq_ops (i := 1) rfl) rfl rfl rfl (Nat.le_trans hl (by decide)) fun p _ => by
      refine ⟨[a, some (sgD ops q), some (.str o), b, none, some (.str p.1), some (.int (p.2.1 : Nat)), some (.int p.2.2)], [a, some (sgD ops q), some (.str o), b, none, some (.str p.1), some (.int (p.2.1 : Nat)), some (.int p.2.2)], rfl, ?_, fun _ => rfl, fun _ => ⟨_, rfl, rfl⟩⟩
      exact tOfQ_of (qAnd_of (a := p.1 == o) (b := p.2.2 == 1) (tqf_of (q2f_of (op := opEq) (x := .str p.1) (y := .str o) rfl rfl rfl)) fun _ => tqf_of (q2f_of (op := opEq) (x := .int p.2.2) (y := .int 1) rfl rfl rfl))
  have l : (ops.filter (swB o)).map (fun _ => D.int 1) = ((ops.filter (swB o)).map fun _ => (1 : Int)).map D.int := by rw [List.map_map]; rfl
  rw [l] at c
  refine (e2f_of c rfl (ne_nil _)).trans ?_
  rw [ones_ok]
  rfl
theorem opTuple_lst (o : Bool) {xs : List D} (h : isFzL xs = true) : opTuple [.lst o xs] = some (.tup xs) := if_pos h
theorem opTuple_tup {xs : List D} (h : isFzL xs = true) : opTuple [.tup xs] = some (.tup xs) := if_pos h
theorem fz_nDs (ks : List Nat) : isFzL (ks.map nD) = true := isFzL_map nD fz_nD ks
theorem op_ok {ops : List Op} (hl : ops.length ≤ 1000) {q : D} (hq : isFz q = true) {g : List Rw} (hg : g.length ≤ 1000) (o : Str) (ps : List Nat) :
    g__law_op [grD true g, sgD ops q, .str o, .lst true (ps.map nD)] = some (nD (ndI g (.op o (srt (swp ops o) ps))), [grD true (ndG g (.op o (srt (swp ops o) ps))), sgD ops q, .str o, .lst true (ps.map nD)]) := by
  let r : Rw := .op o (srt (swp ops o) ps)
  refine runD_of (E' := [some (grD true (ndG g r)), some (sgD ops q), some (.str o), some (.lst true (ps.map nD)), some (.bl (swp ops o)), none, none, none]) rfl ?_ ?_
  · show b__law_op (lkOf [grD true g, sgD ops q, .str o, .lst true (ps.map nD)]) [some (grD true g), some (sgD ops q), some (.str o), some (.lst true (ps.map nD)), none, none, none, none] = _
    unfold b__law_op
    refine sSeq_nx (sAsg_of rfl (swp_op hl q hq o _ _) rfl) (sRet_of ?_)
    have t : qIf (tqf (qVar 4)) (q1L opSorted (qCons (qVar 3) qNil)) (qVar 3) [some (grD true g), some (sgD ops q), some (.str o), some (.lst true (ps.map nD)), some (.bl (swp ops o)), none, none, none] = some (.lst true ((srt (swp ops o) ps).map nD)) := by
      unfold qIf srt
      cases swp ops o with
      | false => rfl
      | true =>
        show opSorted [.lst true (ps.map nD)] = some (D.lst true ((srN ps).map nD))
        rw [nD_map, sorted_lst, srN_nD]
    have tp : eTup (eCons (eOf (qC (.str "op"))) (eCons (eVar 2) (eCons (n1L opTuple (qCons (qIf (tqf (qVar 4)) (q1L opSorted (qCons (qVar 3) qNil)) (qVar 3)) qNil)) eNil))) [some (grD true g), some (sgD ops q), some (.str o), some (.lst true (ps.map nD)), some (.bl (swp ops o)), none, none, none]
        = some (r.d, [some (grD true g), some (sgD ops q), some (.str o), some (.lst true (ps.map nD)), some (.bl (swp ops o)), none, none, none]) :=
      eTup_of (eCons_of rfl (eCons_of rfl (eCons_of (n1L_of (qCons_of t rfl) (opTuple_lst true (fz_nDs _))) rfl))) (by simp)
    exact eCall_of (as := [.inl 0, .inr r.d]) (E1 := [some (grD true g), some (sgD ops q), some (.str o), some (.lst true (ps.map nD)), some (.bl (swp ops o)), none, none, none]) (E2 := [none, some (sgD ops q), some (.str o), some (.lst true (ps.map nD)), some (.bl (swp ops o)), none, none, none]) (xSlot_of rfl (xVal_of tp rfl)) rfl (node_ok hg r)
  · show outsD [grD true g, sgD ops q, .str o, .lst true (ps.map nD)] _ = _
    have hz := fz_sgD (ops := ops) hq
    simp only [outsD, hz, grD_nz, isFz]
    rfl
end K31

namespace K31
open PySem Dm
/-! ### nodes of rows -/
def Okr (n : Nat) : Rw → Prop
  | .op _ ks => ks.length ≤ 3 ∧ ∀ k ∈ ks, k < n
  | _ => True
def Okrs (rows : List Rw) : Prop := rows.length ≤ 100 ∧ ∀ i r, rows[i]? = some r → Okr i r
def ats (f : List Nat) (ks : List Nat) : List Nat := ks.map fun k => f.getD k 0
def keyOf (ops : List Op) (f : List Nat) : Rw → Rw
  | .op o ks => .op o (srt (swp ops o) (ats f ks))
  | r => r
def nodesT (ops : List Op) : List Rw → List Rw → List Nat → List Rw × List Nat
  | [], g, f => (g, f)
  | r :: rs, g, f => nodesT ops rs (ndG g (keyOf ops f r)) (f ++ [ndI g (keyOf ops f r)])
theorem rwD (rows : List Rw) : isFz (.tup (rows.map Rw.d)) = true := by simp only [isFz, isFzL_map Rw.d Rw.fz]
theorem ix_nD {f : List Nat} {k : Nat} (h : k < f.length) (o : Bool) : opIx (.lst o (f.map nD)) (nD k) = some (nD (f.getD k 0)) := by
  show L2.atI (f.map nD) ((k : Nat) : Int) = _
  refine L2.atI_nat ?_
  rw [List.getElem?_map, List.getElem?_eq_getElem h, List.getD_eq_getElem?_getD, List.getElem?_eq_getElem h]
  rfl
/-- [found[k] for k in row[2]] -/
theorem parts_comp {E E0 : Ev} {own kx fx rx : Nat} {f ks : List Nat} {o : Str} (hf : ∀ k ∈ ks, k < f.length) (hl : ks.length ≤ 3) (hr : E[rx]? = some (some (Rw.op o ks).d)) (ho : ownFz E [kx] = true) (hb : backE E (wipeE E [kx]) [kx] = E)
    (hk : ∀ d, (E.set kx none).set kx (some d) = E.set kx (some d)) (hw : ∀ d, wipeE (E.set kx (some d)) [kx] = wipeE E [kx]) (hx : ∀ d, (E.set kx (some d))[kx]? = some (some d)) (hF : ∀ d, (E.set kx (some d))[fx]? = some (some (.lst true (f.map nD)))) :
    eComp [kx] (iSeq (eOf (q2f opIx (qVar rx) (qC (.int 2))))) (gdName kx) dYes (eOf (q2f opIx (qVar fx) (qVar kx))) E = some (.lst true ((ats f ks).map nD), E) := by
  have i : iSeq (eOf (q2f opIx (qVar rx) (qC (.int 2)))) E = some (ks.map nD, E) := by
    have e : eOf (q2f opIx (qVar rx) (qC (.int 2))) E = some (.tup (ks.map nD), E) := by
      refine eOf_of (q2f_of (x := (Rw.op o ks).d) (y := .int 2) (by unfold qVar; rw [hr]) rfl rfl) ?_
      simp only [isFz, fz_nDs]
    unfold iSeq
    rw [e]
    exact if_pos (fz_nDs ks)
  have q := eComp_all (own := [kx]) (g := gdName kx) (el := eOf (q2f opIx (qVar fx) (qVar kx))) nD (fun k => nD (f.getD k 0)) ks i ho rfl hb (Nat.le_trans hl (by decide)) fun k m => by
    refine ⟨E.set kx (some (nD k)), E.set kx (some (nD k)), ?_, ?_, hw _⟩
    · show some ((E.set kx none).set kx (some (nD k))) = _
      rw [hk]
    · exact eOf_of (q2f_of (x := .lst true (f.map nD)) (y := nD k) (by unfold qVar; rw [hF]) (by unfold qVar; rw [hx]) (ix_nD (hf k m) true)) rfl
  rw [q]
  unfold ats
  rw [List.map_map]
  rfl
theorem isOp (r : Rw) : opIx r.d (.int 0) = some (.str (match r with | .let _ => "letter" | .num _ => "num" | .op _ _ => "op")) := by cases r <;> rfl
theorem ndG_len (g : List Rw) (r : Rw) : (ndG g r).length ≤ g.length + 1 := by
  unfold ndG
  split
  · omega
  · rw [List.length_append]; exact Nat.le_refl _
theorem append_nD {f : List Nat} {k : Nat} (h : f.length ≤ 1000) : mAppend (f.map nD) [nD k] = some (.non, (f ++ [k]).map nD) := by
  rw [List.map_append]
  exact if_pos (by rw [List.length_map]; exact Nat.lt_of_le_of_lt h (by decide))
theorem nodes_ok {ops : List Op} (hl : ops.length ≤ 1000) {q : D} (hq : isFz q = true) {rows : List Rw} (ok : Okrs rows) :
    g__law_nodes [grD true [], sgD ops q, .tup (rows.map Rw.d)] = some (.lst true ((nodesT ops rows [] []).2.map nD), [grD true (nodesT ops rows [] []).1, sgD ops q, .tup (rows.map Rw.d)]) := by
  let R : D := .tup (rows.map Rw.d)
  have hz := fz_sgD (ops := ops) hq
  have hR : isFz R = true := rwD rows
  have lk2 : lkOf [grD true [], sgD ops q, R] = fun i => decide (i = 0) := by
    funext i
    match i with
    | 0 => rfl
    | 1 => show (!isFz (sgD ops q)) = _; rw [hz]; rfl
    | 2 => show (!isFz R) = _; rw [hR]; rfl
    | i + 3 => rfl
  have loop : ∃ x4 x5, forL (gdName 4) (l__law_nodes_1 (lkP (lkOf [grD true [], sgD ops q, R]) 2)) (rows.map Rw.d) [some (grD true []), some (sgD ops q), some R, some (.lst true []), none, none]
      = some (.nx [some (grD true (nodesT ops rows [] []).1), some (sgD ops q), some R, some (.lst true ((nodesT ops rows [] []).2.map nD)), x4, x5]) := by
    refine forL_typed Rw.d (fun rest E => ∃ dn g f x4, rows = dn ++ rest ∧ f.length = dn.length ∧ g.length ≤ dn.length ∧ nodesT ops rest g f = nodesT ops rows [] [] ∧ E = [some (grD true g), some (sgD ops q), some R, some (.lst true (f.map nD)), x4, none])
      (fun o => ∃ x4 x5, o = some (.nx [some (grD true (nodesT ops rows [] []).1), some (sgD ops q), some R, some (.lst true ((nodesT ops rows [] []).2.map nD)), x4, x5])) ?_ ?_ rows _ ⟨[], [], [], none, rfl, rfl, Nat.le_refl _, rfl, rfl⟩
    · rintro r rest E ⟨dn, g, f, x4, hr, hf, hg, hn, rfl⟩
      have lenR : dn.length ≤ 100 := by
        have := ok.1
        rw [hr, List.length_append] at this
        omega
      have okr := ok.2 dn.length r (by rw [hr, List.getElem?_append_right (Nat.le_refl _), Nat.sub_self]; rfl)
      refine ⟨[some (grD true g), some (sgD ops q), some R, some (.lst true (f.map nD)), some r.d, none], rfl, .inl ⟨[some (grD true (ndG g (keyOf ops f r))), some (sgD ops q), some R, some (.lst true ((f ++ [ndI g (keyOf ops f r)]).map nD)), some r.d, none], ?_,
        dn ++ [r], ndG g (keyOf ops f r), f ++ [ndI g (keyOf ops f r)], _, by rw [hr]; simp, by rw [List.length_append, List.length_append, hf]; rfl, by rw [List.length_append]; have := ndG_len g (keyOf ops f r); simp; omega, hn, rfl⟩⟩
      have fin : ∀ fe : Ev → Option (D × Ev), fe [some (grD true g), some (sgD ops q), some R, some (.lst true (f.map nD)), some r.d, none] = some (nD (ndI g (keyOf ops f r)), [some (grD true (ndG g (keyOf ops f r))), some (sgD ops q), some R, some (.lst true (f.map nD)), some r.d, none]) →
          sExpr (eMt 3 mAppend (eCons fe eNil)) [some (grD true g), some (sgD ops q), some R, some (.lst true (f.map nD)), some r.d, none] = some (.nx [some (grD true (ndG g (keyOf ops f r))), some (sgD ops q), some R, some (.lst true ((f ++ [ndI g (keyOf ops f r)]).map nD)), some r.d, none]) := fun fe h =>
        sExpr_of (d := .non) (eMt_of (i := 3) (op := mAppend) (E1 := [some (grD true (ndG g (keyOf ops f r))), some (sgD ops q), some R, some (.lst true (f.map nD)), some r.d, none]) rfl (eCons_of h rfl) rfl (append_nD (f := f) (by omega)))
      refine fin _ ?_
      have node : ∀ r : Rw, keyOf ops f r = r → eCall g__law_node (xSlot 0 (xSlot 4 xNil)) [some (grD true g), some (sgD ops q), some R, some (.lst true (f.map nD)), some r.d, none] = some (nD (ndI g r), [some (grD true (ndG g r)), some (sgD ops q), some R, some (.lst true (f.map nD)), some r.d, none]) := fun r _ => by
        have gt : gather [.inl 0, .inl 4] [some (grD true g), some (sgD ops q), some R, some (.lst true (f.map nD)), some r.d, none] = some ([grD true g, r.d], [none, some (sgD ops q), some R, some (.lst true (f.map nD)), some r.d, none]) := by
          have fz := r.fz
          simp [gather, grD_nz, fz]
        rw [eCall_of (xSlot_of rfl (xSlot_of rfl rfl)) gt (node_ok (by omega) r)]
        rfl
      cases r with
      | «let» s => exact (eIf_f (E1 := [some (grD true g), some (sgD ops q), some R, some (.lst true (f.map nD)), some (Rw.let s).d, none]) rfl (node (.let s) rfl))
      | num n => exact (eIf_f (E1 := [some (grD true g), some (sgD ops q), some R, some (.lst true (f.map nD)), some (Rw.num n).d, none]) rfl (node (.num n) rfl))
      | op o ks =>
        refine eIf_t (E1 := [some (grD true g), some (sgD ops q), some R, some (.lst true (f.map nD)), some (Rw.op o ks).d, none]) rfl ?_
        have pc := parts_comp (E := [some (grD true g), some (sgD ops q), some R, some (.lst true (f.map nD)), some (Rw.op o ks).d, none]) (E0 := []) (own := 0) (kx := 5) (fx := 3) (rx := 4) (o := o) (f := f) (ks := ks) (fun k m => by rw [hf]; exact okr.2 k m) okr.1 rfl rfl rfl (fun _ => rfl) (fun _ => rfl) (fun _ => rfl) (fun _ => rfl)
        have gt : gather [.inl 0, .inl 1, .inr (.str o), .inr (.lst true ((ats f ks).map nD))] [some (grD true g), some (sgD ops q), some R, some (.lst true (f.map nD)), some (Rw.op o ks).d, none] = some ([grD true g, sgD ops q, .str o, .lst true ((ats f ks).map nD)], [none, some (sgD ops q), some R, some (.lst true (f.map nD)), some (Rw.op o ks).d, none]) := by
          simp [gather, grD_nz, hz]
        rw [eCall_of (xSlot_of rfl (xSlot_of rfl (xVal_of (d := .str o) rfl (xVal_of pc rfl)))) gt (op_ok hl hq (by omega) o (ats f ks))]
        rfl
    · rintro E ⟨dn, g, f, x4, hr, hf, hg, hn, rfl⟩
      have e : nodesT ops [] g f = (g, f) := rfl
      rw [e] at hn
      exact ⟨x4, none, by rw [← hn]⟩
  obtain ⟨x4, x5, loop⟩ := loop
  refine runD_of (E' := [some (grD true (nodesT ops rows [] []).1), some (sgD ops q), some R, none, x4, x5]) rfl ?_ ?_
  · show b__law_nodes (lkOf [grD true [], sgD ops q, R]) [some (grD true []), some (sgD ops q), some R, none, none, none] = _
    unfold b__law_nodes
    refine sSeq_nx (E1 := [some (grD true []), some (sgD ops q), some R, some (.lst true []), none, none]) (sAsg_of rfl rfl rfl) ?_
    refine sSeq_nx (E1 := [some (grD true (nodesT ops rows [] []).1), some (sgD ops q), some R, some (.lst true ((nodesT ops rows [] []).2.map nD)), x4, x5]) ((sForQ_tup Rw.fz rfl rfl).trans loop) ?_
    rfl
  · show outsD [grD true [], sgD ops q, R] _ = _
    simp only [outsD, hz, hR, grD_nz]
    rfl
end K31

namespace K31
open PySem Dm
/-! ### worths by formula -/
def PsD (d : D) (ns : List Int) : Prop := d = .tup (ns.map .int) ∨ ∃ o, d = .lst o (ns.map .int)
theorem sForQ_ints {lk : Lks} {i : Nat} {ts : List Nat} {g : D → Ev → Option Ev} {body : Lks → Ev → Option Out} {E : Ev} {ns : List Int} {d : D} (hl : ts.all (fun j => !(lkP lk i) j) = true) (hd : PsD d ns) (P : List Int → Ev → Prop) (Q : Option Out → Prop) (hP : ∀ r E, P r E → E[i]? = some (some d))
    (step : ∀ t r E, P (t :: r) E → ∃ E1, g (.int t) E = some E1 ∧ ((∃ E2, body (lkP lk i) E1 = some (.nx E2) ∧ P r E2) ∨ ∃ d E2, body (lkP lk i) E1 = some (.ret d E2) ∧ Q (some (.ret d E2)))) (stop : ∀ E, P [] E → Q (some (.nx E))) (h0 : P ns E) (len : ns.length ≤ 1000) : Q (sForQ lk i ts g body E) := by
  rcases hd with hd | ⟨o, hd⟩
  · rw [sForQ_tup fz_int hl (as := ns) (by rw [hP _ _ h0, hd])]
    exact forL_typed D.int P Q step stop ns E h0
  · cases o with
    | true =>
      unfold sForQ
      rw [if_pos hl, hP _ _ h0, hd]
      show Q (if isFzL (ns.map D.int) = true then forQ i g (body (lkP lk i)) whileFuel 0 E else _)
      rw [if_pos (fz_ints ns)]
      exact forQ_typed D.int fz_int ns P Q true (fun r E h => by rw [hP r E h, hd]) step stop whileFuel 0 E (Nat.zero_le _) (by unfold whileFuel; omega) h0
    | false =>
      have e : iSeq (eVar i) E = some (ns.map D.int, E) := by
        have z : eVar i E = some (.lst false (ns.map D.int), E) := eVar_fz (by rw [hP _ _ h0, hd]) (by simp only [isFz, fz_ints]; rfl)
        unfold iSeq
        rw [z]
        show some (frozL (ns.map D.int), E) = _
        rw [frozL_ints]
      unfold sForQ
      rw [if_pos hl, hP _ _ h0, hd]
      show Q (match iSeq (eVar i) E with | some (xs, E1) => forL g (body (lkP lk i)) xs E1 | none => none)
      rw [e]
      exact forL_typed D.int P Q step stop ns E h0
def SG : D := .str "0123456789abcdefghijklmnopqrstuvwxyz"
def chD (c : Nat) : D := .str ⟨#[c]⟩
def ixc (c : Nat) : Int := match opIndex SG [chD c] with | some (.int i) => i | _ => 0
def Good (o : Str) : Prop := ∀ c ∈ o.cps.toList, opIndex SG [chD c] = some (.int (ixc c))
def MM : Int := 1000003
def hstep (h : Int) (c : Nat) : Int := (31 * h + ixc c + 1).fmod MM
def pstep (h p : Int) : Int := (37 * h + p + 1).fmod MM
def Fm (seed : Int) (o : Str) (ps : List Int) : Int := ps.foldl pstep (o.cps.toList.foldl hstep (seed.fmod MM)) - 500000
theorem fz_chD (c : Nat) : isFz (chD c) = true := rfl
theorem sForQ_str {lk : Lks} {i : Nat} {ts : List Nat} {g : D → Ev → Option Ev} {body : Lks → Ev → Option Out} {E : Ev} {z : Str} (hl : ts.all (fun j => !(lkP lk i) j) = true) (h : E[i]? = some (some (.str z))) : sForQ lk i ts g body E = forL g (body (lkP lk i)) (z.cps.toList.map chD) E := by
  have e : iSeq (eVar i) E = some (z.cps.toList.map chD, E) := by
    unfold iSeq
    rw [eVar_fz h rfl]
    rfl
  unfold sForQ
  rw [if_pos hl, h]
  show (match iSeq (eVar i) E with | some (xs, E1) => forL g (body (lkP lk i)) xs E1 | none => none) = _
  rw [e]
theorem formula_ok {seed : Int} {o : Str} {ps : List Int} {d : D} (hg : Good o) (hd : PsD d ps) (hl : ps.length ≤ 1000) :
    g_mixed_worth [.int seed, .str o, d] = some (.int (Fm seed o ps), [.int seed, .str o, d]) := by
  let lk := lkOf [.int seed, .str o, d]
  let H1 := o.cps.toList.foldl hstep (seed.fmod MM)
  let H2 := ps.foldl pstep H1
  have l1 : ∃ x4, sForQ lk 1 [4] (gdName 4) l_mixed_worth_1 [some (.int seed), some (.str o), some d, some (.int (seed.fmod MM)), none, none] = some (.nx [some (.int seed), some (.str o), some d, some (.int H1), x4, none]) := by
    rw [sForQ_str (z := o) rfl rfl]
    refine forL_typed chD (fun rest E => ∃ h x4, (∀ c ∈ rest, opIndex SG [chD c] = some (.int (ixc c))) ∧ rest.foldl hstep h = H1 ∧ E = [some (.int seed), some (.str o), some d, some (.int h), x4, none])
      (fun r => ∃ x4, r = some (.nx [some (.int seed), some (.str o), some d, some (.int H1), x4, none])) ?_ ?_ o.cps.toList _ ⟨seed.fmod MM, none, hg, rfl, rfl⟩
    · rintro c rest E ⟨h, x4, hc, hh, rfl⟩
      refine ⟨[some (.int seed), some (.str o), some d, some (.int h), some (chD c), none], rfl, .inl ⟨[some (.int seed), some (.str o), some d, some (.int (hstep h c)), some (chD c), none], ?_, hstep h c, _, fun y m => hc y (List.mem_cons_of_mem _ m), hh, rfl⟩⟩
      have ix : q1M opIndex (qC SG) (qCons (qVar 4) qNil) [some (.int seed), some (.str o), some d, some (.int h), some (chD c), none] = some (.int (ixc c)) := hc c List.mem_cons_self
      exact sAsg_of (d := .int (hstep h c)) rfl (n2f_of (q2f_of (q2f_of (q2f_of rfl rfl (mul_s (.inl rfl))) ix rfl) rfl rfl) rfl (mod_s (by decide))) rfl
    · rintro E ⟨h, x4, _, hh, rfl⟩
      exact ⟨x4, by rw [← hh]; rfl⟩
  obtain ⟨x4, l1⟩ := l1
  have l2 : ∃ x5, sForQ lk 2 [5] (gdName 5) l_mixed_worth_2 [some (.int seed), some (.str o), some d, some (.int H1), x4, none] = some (.nx [some (.int seed), some (.str o), some d, some (.int H2), x4, x5]) := by
    refine sForQ_ints (ns := ps) (d := d) rfl hd (fun rest E => ∃ h x5, rest.foldl pstep h = H2 ∧ E = [some (.int seed), some (.str o), some d, some (.int h), x4, x5])
      (fun r => ∃ x5, r = some (.nx [some (.int seed), some (.str o), some d, some (.int H2), x4, x5])) ?_ ?_ ?_ ⟨H1, none, rfl, rfl⟩ hl
    · rintro r E ⟨h, x5, _, rfl⟩
      rfl
    · rintro p rest E ⟨h, x5, hh, rfl⟩
      refine ⟨[some (.int seed), some (.str o), some d, some (.int h), x4, some (.int p)], rfl, .inl ⟨[some (.int seed), some (.str o), some d, some (.int (pstep h p)), x4, some (.int p)], ?_, pstep h p, _, hh, rfl⟩⟩
      exact sAsg_of (d := .int (pstep h p)) rfl (n2f_of (q2f_of (q2f_of (q2f_of rfl rfl (mul_s (.inl rfl))) rfl rfl) rfl rfl) rfl (mod_s (by decide))) rfl
    · rintro E ⟨h, x5, hh, rfl⟩
      exact ⟨x5, by rw [← hh]; rfl⟩
  obtain ⟨x5, l2⟩ := l2
  refine runD_same [some (.int H2), x4, x5] rfl ?_
  show b_mixed_worth lk [some (.int seed), some (.str o), some d, none, none, none] = _
  unfold b_mixed_worth
  refine sSeq_nx (sAsg_of (E2 := [some (.int seed), some (.str o), some d, some (.int (seed.fmod MM)), none, none]) rfl (n2f_of rfl rfl (mod_s (by decide))) rfl) (sSeq_nx l1 (sSeq_nx l2 (sRet_of ?_)))
  rfl
theorem formula_same : g__law_formula = g_mixed_worth := rfl
theorem good_add : Good "add" := by
  intro c m
  have e : (Str.ofString "add").cps.toList = [97, 100, 100] := by decide +kernel
  rw [e] at m
  simp at m
  rcases m with m | m <;> subst m <;> kernel_rfl
theorem good_mix : Good "mix" := by
  intro c m
  have e : (Str.ofString "mix").cps.toList = [109, 105, 120] := by decide +kernel
  rw [e] at m
  simp at m
  rcases m with m | m | m <;> subst m <;> kernel_rfl
theorem good_neg : Good "neg" := by
  intro c m
  have e : (Str.ofString "neg").cps.toList = [110, 101, 103] := by decide +kernel
  rw [e] at m
  simp at m
  rcases m with m | m | m <;> subst m <;> kernel_rfl
theorem good_sub : Good "sub" := by
  intro c m
  have e : (Str.ofString "sub").cps.toList = [115, 117, 98] := by decide +kernel
  rw [e] at m
  simp at m
  rcases m with m | m | m <;> subst m <;> kernel_rfl
end K31

namespace K31
open PySem Dm
/-! ### worlds -/
section
variable {κ : Type} [DecidableEq κ]
theorem putT_len {as : List κ} {ds : List D} (h : ds.length = as.length) (a : κ) (d : D) : (putT as ds a d).2.length = (putT as ds a d).1.length := by
  unfold putT
  cases ixOf as a with
  | some j => show (ds.set j d).length = _; rw [List.length_set]; exact h
  | none => show (ds ++ [d]).length = (as ++ [a]).length; rw [List.length_append, List.length_append, h]; rfl
theorem putT_mem {as : List κ} {ds : List D} (a : κ) (d : D) (k : κ) : k ∈ (putT as ds a d).1 ↔ k ∈ as ∨ k = a := by
  unfold putT
  cases e : ixOf as a with
  | some j =>
    show k ∈ as ↔ _
    refine ⟨.inl, fun h => h.elim id fun q => ?_⟩
    subst q
    exact List.mem_of_getElem? (ixOf_some e)
  | none => show k ∈ as ++ [a] ↔ _; rw [List.mem_append, List.mem_singleton]
theorem putsT_len : ∀ (l : List (κ × D)) {as : List κ} {ds : List D}, ds.length = as.length → (putsT l (as, ds)).2.length = (putsT l (as, ds)).1.length
  | [], _, _, h => h
  | (k, d) :: l, as, ds, h => putsT_len l (putT_len h k d)
theorem putsT_mem : ∀ (l : List (κ × D)) {as : List κ} {ds : List D} (k : κ), k ∈ (putsT l (as, ds)).1 ↔ k ∈ as ∨ k ∈ l.map (·.1)
  | [], as, ds, k => by simp [putsT]
  | (x, d) :: l, as, ds, k => by
    show k ∈ (putsT l ((putT as ds x d).1, (putT as ds x d).2)).1 ↔ _
    rw [putsT_mem l k, putT_mem, List.map_cons, List.mem_cons]
    constructor
    · rintro ((h | h) | h)
      · exact .inl h
      · exact .inr (.inl h)
      · exact .inr (.inr h)
    · rintro (h | h | h)
      · exact .inl (.inl h)
      · exact .inl (.inr h)
      · exact .inr h
theorem putsT_nodup : ∀ (l : List (κ × D)) {as : List κ} {ds : List D}, (as ++ l.map (·.1)).Nodup → putsT l (as, ds) = (as ++ l.map (·.1), ds ++ l.map (·.2))
  | [], as, ds, _ => by simp [putsT]
  | (x, d) :: l, as, ds, h => by
    have n : x ∉ as := fun m => (List.nodup_append.mp h).2.2 x m x (by simp) rfl
    show putsT l ((putT as ds x d).1, (putT as ds x d).2) = _
    rw [putT_new n]
    show putsT l (as ++ [x], ds ++ [d]) = _
    rw [putsT_nodup l (by simpa using h)]
    simp
end
def ins1 (o : Bool) (sg mn sw tb : D) : D := .ins o "World" ["signs", "meaning", "reads", "answers", "swaps", "table"] [sg, mn, .tup [], .tup [], sw, tb]
def swL (ops : List Op) : List (Str × D) := (ops.filter fun p => p.2.2 == 1).map fun p => (p.1, D.bl true)
def swD (ops : List Op) : D := dicT .str true (putsT (swL ops) ([], [])).1 (putsT (swL ops) ([], [])).2
theorem swapping_ok {ops : List Op} (hl : ops.length ≤ 1000) {q : D} : g_swapping [sgD ops q] = some (swD ops, [sgD ops q]) := by
  refine runD_same [none, none, none] rfl (sRet_of ?_)
  refine (eDComp_typed kc_str opD (fun p => p.2.2 == 1) (fun p => p.1) (fun _ => .bl true) ops (own := [1, 2, 3]) (E := [some (sgD ops q), none, none, none]) (iSeq_ops (i := 0) rfl) rfl rfl rfl (by omega) fun p _ => ?_)
  refine ⟨[some (sgD ops q), some (.str p.1), some (.int (p.2.1 : Nat)), some (.int p.2.2)], [some (sgD ops q), some (.str p.1), some (.int (p.2.1 : Nat)), some (.int p.2.2)], rfl, ?_, fun _ => rfl, fun _ => ⟨_, rfl, rfl, rfl⟩⟩
  exact tOfQ_of (tqf_of (q2f_of (op := opEq) (x := .int p.2.2) (y := .int 1) rfl rfl rfl))
theorem in_swD (ops : List Op) (o : Str) : opIn (.str o) (swD ops) = some (.bl (swp ops o)) := by
  unfold swD
  rw [opIn_dic kc_str true _ _ o (putsT_len _ rfl)]
  congr 2
  by_cases h : swp ops o = true
  · rw [h]
    refine decide_eq_true ((putsT_mem _ o).mpr (.inr ?_))
    unfold swp at h
    obtain ⟨p, hp, hb⟩ := List.any_eq_true.mp h
    unfold swB at hb
    rw [Bool.and_eq_true] at hb
    unfold swL
    rw [List.map_map]
    exact List.mem_map.mpr ⟨p, List.mem_filter.mpr ⟨hp, hb.2⟩, by simpa using hb.1⟩
  · rw [Bool.not_eq_true] at h
    rw [h]
    refine decide_eq_false fun m => ?_
    rcases (putsT_mem _ o).mp m with m | m
    · cases m
    · unfold swL at m
      rw [List.map_map] at m
      obtain ⟨p, hp, he⟩ := List.mem_map.mp m
      have hp := List.mem_filter.mp hp
      have : swp ops o = true := by
        unfold swp
        refine List.any_eq_true.mpr ⟨p, hp.1, ?_⟩
        unfold swB
        rw [Bool.and_eq_true]
        exact ⟨by simpa using he, hp.2⟩
      rw [h] at this
      cases this
/-! rows of a world's table -/
abbrev Tk := Str × List Int
def tkD (k : Tk) : D := .tup [.str k.1, .tup (k.2.map .int)]
def tkN (k : Tk) : NestedKey := .tup [.text k.1, .tup (k.2.map .num)]
theorem keysN_ints : ∀ ks : List Int, keysN (ks.map .int) = some (ks.map NestedKey.num)
  | [] => rfl
  | k :: ks => by
    rw [List.map_cons, List.map_cons]
    unfold keysN
    rw [keysN_ints ks]
    rfl
theorem depth_numsI : ∀ ks : List Int, NestedKey.depthAll (ks.map NestedKey.num) = 0
  | [] => rfl
  | k :: ks => by
    rw [List.map_cons]
    show max 0 (NestedKey.depthAll _) = 0
    rw [depth_numsI ks]
    rfl
theorem kc_tk : Kc tkD := by
  refine .inr ⟨tkN, fun a b h => ?_, fun k => ?_⟩
  · unfold tkN at h
    injection h with h
    injection h with h1 h2
    injection h1 with h1
    injection h2 with h2 _
    injection h2 with h2
    have inj : ∀ {a b : List Int}, a.map NestedKey.num = b.map NestedKey.num → a = b := by
      intro a
      induction a with
      | nil => intro b h; cases b with | nil => rfl | cons y b => simp at h
      | cons x a ih =>
        intro b h
        cases b with
        | nil => simp at h
        | cons y b =>
          rw [List.map_cons, List.map_cons] at h
          injection h with p1 p2
          injection p1 with p1
          rw [p1, ih p2]
    exact Prod.ext h1 (inj h2)
  · have e : keyN (tkD k) = some (tkN k) := by
      unfold tkD
      simp only [Dm.keyN, keysN, keysN_ints]
      rfl
    have d : (tkN k).depth ≤ 8 := by
      have h := depth_numsI k.2
      simp only [tkN, NestedKey.depth, NestedKey.depthAll, h]
      decide
    show (match Dm.keyN (tkD k) with | some k => (if k.depth ≤ 8 then some k else none) | none => none) = _
    rw [e]
    exact if_pos d
abbrev Tr := Tk × Int
def trD (t : Tr) : D := .tup [.str t.1.1, .tup (t.1.2.map .int), .int t.2]
theorem fz_trD (t : Tr) : isFz (trD t) = true := by
  show (true && (isFz (.tup (t.1.2.map .int)) && (true && true))) = true
  simp only [isFz, fz_ints, Bool.and_true]
theorem cut_trD (t : Tr) : opSl (trD t) none (some 2) = some (tkD t.1) := by
  show (if isFzL [D.str t.1.1, .tup (t.1.2.map .int), .int t.2] = true then some (D.tup (cutG [D.str t.1.1, .tup (t.1.2.map .int), .int t.2] none (some 2))) else none) = _
  rw [if_pos (by show (true && (isFz (.tup (t.1.2.map .int)) && (true && true))) = true; simp only [isFz, fz_ints, Bool.and_true])]
  rfl
def tbL (ts : List Tr) : List (Tk × D) := ts.map fun t => (t.1, D.int t.2)
def tbD (ts : List Tr) : D := dicT tkD true (putsT (tbL ts) ([], [])).1 (putsT (tbL ts) ([], [])).2
def fmD (seed : Int) : D := .tup [.str "formula", .int seed]
def tmD (ts : List Tr) : D := .tup [.str "table", .tup (ts.map trD)]
theorem fz_tmD (ts : List Tr) : isFz (tmD ts) = true := by
  show (true && (isFz (.tup (ts.map trD)) && true)) = true
  simp only [isFz, isFzL_map trD fz_trD, Bool.and_true]
theorem init_steps {ops : List Op} (hl : ops.length ≤ 1000) {q mn : D} (hq : isFz q = true) (hm : isFz mn = true) (lk : Lks) {rest : Ev → Option Out} {r : Option Out}
    (h : rest [some (ins1 true (sgD ops q) mn (swD ops) (.dic true [] [])), some (sgD ops q), some mn, some (.tup []), some (.tup []), none] = r) :
    (sSeq (sSetAt (lnVar 0) ["World"] "signs" (eVar 1))
  (sSeq (sSetAt (lnVar 0) ["World"] "meaning" (eVar 2))
  (sSeq (sSetAt (lnVar 0) ["World"] "reads" (eVar 3))
  (sSeq (sSetAt (lnVar 0) ["World"] "answers" (eVar 4))
  (sSeq (sSetAt (lnVar 0) ["World"] "swaps" (eCall g_swapping (xSlot 1 xNil)))
  (sSeq (sSetAt (lnVar 0) ["World"] "table" eDic0) rest)))))) [some (.ins true "World" [] []), some (sgD ops q), some mn, some (.tup []), some (.tup []), none] = r := by
  have hz := fz_sgD (ops := ops) hq
  have s1 := sSetAt_of (g := eVar 1) (l := lnVar 0) (cs := ["World"]) (f := "signs") (E := [some (.ins true "World" [] []), some (sgD ops q), some mn, some (.tup []), some (.tup []), none]) (eVar_fz rfl hz) (lnVar_of rfl) (setF_new (fs := []) (vs := []) (by simp) (by decide) rfl)
  have s2 := sSetAt_of (g := eVar 2) (l := lnVar 0) (cs := ["World"]) (f := "meaning") (E := [some (.ins true "World" ["signs"] [sgD ops q]), some (sgD ops q), some mn, some (.tup []), some (.tup []), none]) (eVar_fz rfl hm) (lnVar_of rfl) (setF_new (by simp) (by decide) (by decide +kernel))
  have s3 := sSetAt_of (g := eVar 3) (l := lnVar 0) (cs := ["World"]) (f := "reads") (E := [some (.ins true "World" ["signs", "meaning"] [sgD ops q, mn]), some (sgD ops q), some mn, some (.tup []), some (.tup []), none]) (eVar_fz (d := .tup []) rfl rfl) (lnVar_of rfl) (setF_new (by simp) (by decide) (by decide +kernel))
  have s4 := sSetAt_of (g := eVar 4) (l := lnVar 0) (cs := ["World"]) (f := "answers") (E := [some (.ins true "World" ["signs", "meaning", "reads"] [sgD ops q, mn, .tup []]), some (sgD ops q), some mn, some (.tup []), some (.tup []), none]) (eVar_fz (d := .tup []) rfl rfl) (lnVar_of rfl) (setF_new (by simp) (by decide) (by decide +kernel))
  have c5 : eCall g_swapping (xSlot 1 xNil) [some (.ins true "World" ["signs", "meaning", "reads", "answers"] [sgD ops q, mn, .tup [], .tup []]), some (sgD ops q), some mn, some (.tup []), some (.tup []), none] = some (swD ops, [some (.ins true "World" ["signs", "meaning", "reads", "answers"] [sgD ops q, mn, .tup [], .tup []]), some (sgD ops q), some mn, some (.tup []), some (.tup []), none]) :=
    eCall_same (as := [.inl 1]) rfl (.slot rfl .nil) (by simp [slotsA]) (swapping_ok hl)
  have s5 := sSetAt_of (l := lnVar 0) (cs := ["World"]) (f := "swaps") c5 (lnVar_of rfl) (setF_new (by simp) (by decide) (by decide +kernel))
  have s6 := sSetAt_of (g := eDic0) (l := lnVar 0) (cs := ["World"]) (f := "table") (E := [some (.ins true "World" ["signs", "meaning", "reads", "answers", "swaps"] [sgD ops q, mn, .tup [], .tup [], swD ops]), some (sgD ops q), some mn, some (.tup []), some (.tup []), none]) rfl (lnVar_of rfl) (setF_new (by simp) (by decide) (by decide +kernel))
  exact sSeq_nx s1 (sSeq_nx s2 (sSeq_nx s3 (sSeq_nx s4 (sSeq_nx s5 (sSeq_nx s6 h)))))
end K31

namespace K31
open PySem Dm
theorem runD_nx {n np : Nat} {b : Lks → Ev → Option Out} {ds os : List D} {E' : Ev} (hl : ds.length = np) (h : b (lkOf ds) (ds.map some ++ List.replicate (n - np) none) = some (.nx E')) (ho : outsD ds E' = some os) : runD n np b ds = some (.non, os) := by
  unfold runD
  rw [if_pos hl, h]
  show (match outsD ds E' with | some os => some (D.non, os) | none => none) = _
  rw [ho]
theorem qSl_of {f : Ev → Option D} {l h : Ev → Option (Option Int)} {E : Ev} {x d : D} {lo hi : Option Int} (h1 : f E = some x) (h2 : l E = some lo) (h3 : h E = some hi) (h4 : opSl x lo hi = some d) : qSl f l h E = some d := by
  unfold qSl
  rw [h1, h2, h3]
  exact h4
theorem outs_w {x y a b : D} {ops : List Op} {q mn : D} (hq : isFz q = true) (hm : isFz mn = true) (hx : isFz x = false) (E' : Ev) : outsD [x, sgD ops q, mn, .tup [], .tup []] (some y :: some (sgD ops q) :: some mn :: some (.tup []) :: some (.tup []) :: E') = some [y, sgD ops q, mn, .tup [], .tup []] := by
  have hz := fz_sgD (ops := ops) hq
  simp [outsD, hz, hm, hx, isFz, isFzL]
theorem initF_ok {ops : List Op} (hl : ops.length ≤ 1000) {q : D} (hq : isFz q = true) (seed : Int) :
    g_World___init__ [.ins true "World" [] [], sgD ops q, fmD seed, .tup [], .tup []] = some (.non, [ins1 true (sgD ops q) (fmD seed) (swD ops) (.dic true [] []), sgD ops q, fmD seed, .tup [], .tup []]) := by
  have st := init_steps hl (mn := fmD seed) hq rfl (lkOf [.ins true "World" [] [], sgD ops q, fmD seed, .tup [], .tup []]) (rest := (sIf (tOfQ (qAnd (tqf (q2f opIsNot (qVar 2) (qC .non))) (tqf (q2f opEq (q2f opIx (qVar 2) (qC (.int 0))) (qC (.str "table")))))) (sSetAt (lnVar 0) ["World"] "table" (eDComp [5] (iSeq (eOf (q2f opIx (qVar 2) (qC (.int 1))))) (gdName 5) dYes (qSl (qVar 5) qNo (qPart (qC (.int 2)))) (eOf (q2f opIx (qVar 5) (qC (.int 2)))))) sNil))
    (r := some (.nx [some (ins1 true (sgD ops q) (fmD seed) (swD ops) (.dic true [] [])), some (sgD ops q), some (fmD seed), some (.tup []), some (.tup []), none])) (sIf_f rfl rfl)
  exact runD_nx rfl st (outs_w (a := .non) (b := .non) hq rfl rfl [none])
theorem initT_ok {ops : List Op} (hl : ops.length ≤ 1000) {q : D} (hq : isFz q = true) {ts : List Tr} (ht : ts.length ≤ 1000) :
    g_World___init__ [.ins true "World" [] [], sgD ops q, tmD ts, .tup [], .tup []] = some (.non, [ins1 true (sgD ops q) (tmD ts) (swD ops) (tbD ts), sgD ops q, tmD ts, .tup [], .tup []]) := by
  have hm := fz_tmD ts
  let E : Ev := [some (ins1 true (sgD ops q) (tmD ts) (swD ops) (.dic true [] [])), some (sgD ops q), some (tmD ts), some (.tup []), some (.tup []), none]
  have it : iSeq (eOf (q2f opIx (qVar 2) (qC (.int 1)))) E = some (ts.map trD, E) := by
    have e : eOf (q2f opIx (qVar 2) (qC (.int 1))) E = some (.tup (ts.map trD), E) := eOf_of (q2f_of (x := tmD ts) (y := .int 1) rfl rfl rfl) (by simp only [isFz, isFzL_map trD fz_trD])
    unfold iSeq
    rw [e]
    exact if_pos (isFzL_map trD fz_trD ts)
  have dc : eDComp [5] (iSeq (eOf (q2f opIx (qVar 2) (qC (.int 1))))) (gdName 5) dYes (qSl (qVar 5) qNo (qPart (qC (.int 2)))) (eOf (q2f opIx (qVar 5) (qC (.int 2)))) E = some (tbD ts, E) := by
    have q0 := eDComp_typed kc_tk trD (fun _ => true) (fun t => t.1) (fun t => .int t.2) ts (own := [5]) (g := gdName 5) (tt := dYes) (fk := qSl (qVar 5) qNo (qPart (qC (.int 2)))) (fv := eOf (q2f opIx (qVar 5) (qC (.int 2)))) (E' := E) it rfl rfl rfl (by omega) fun t _ => by
      refine ⟨[some (ins1 true (sgD ops q) (tmD ts) (swD ops) (.dic true [] [])), some (sgD ops q), some (tmD ts), some (.tup []), some (.tup []), some (trD t)], [some (ins1 true (sgD ops q) (tmD ts) (swD ops) (.dic true [] [])), some (sgD ops q), some (tmD ts), some (.tup []), some (.tup []), some (trD t)], rfl, rfl, fun e => (by cases e), fun _ => ⟨_, ?_, rfl, rfl⟩⟩
      exact qSl_of (x := trD t) (lo := none) (hi := some 2) rfl rfl rfl (cut_trD t)
    rw [List.filter_eq_self.mpr fun _ _ => rfl] at q0
    exact q0
  have st := init_steps hl (mn := tmD ts) hq hm (lkOf [.ins true "World" [] [], sgD ops q, tmD ts, .tup [], .tup []]) (rest := (sIf (tOfQ (qAnd (tqf (q2f opIsNot (qVar 2) (qC .non))) (tqf (q2f opEq (q2f opIx (qVar 2) (qC (.int 0))) (qC (.str "table")))))) (sSetAt (lnVar 0) ["World"] "table" (eDComp [5] (iSeq (eOf (q2f opIx (qVar 2) (qC (.int 1))))) (gdName 5) dYes (qSl (qVar 5) qNo (qPart (qC (.int 2)))) (eOf (q2f opIx (qVar 5) (qC (.int 2)))))) sNil))
    (r := some (.nx [some (ins1 true (sgD ops q) (tmD ts) (swD ops) (tbD ts)), some (sgD ops q), some (tmD ts), some (.tup []), some (.tup []), none])) (sIf_t (E1 := E) rfl (sSetAt_of dc (lnVar_of rfl) (setF_old (j := 5) (by simp) (by decide) (by decide +kernel))))
  exact runD_nx rfl st (outs_w (a := .non) (b := .non) hq hm rfl [none])
/-! a world is asked; W stands for the instance, frozen or not -/
def wD (o : Bool) (sg mn sw tb : D) : D := .ins o "World" ["signs", "meaning", "reads", "answers", "swaps", "table"] [sg, mn, .tup [], .tup [], sw, tb]
def tupI (ps : List Int) : D := .tup (ps.map .int)
theorem fz_tupI (ps : List Int) : isFz (tupI ps) = true := by simp only [tupI, isFz, fz_ints]
theorem qAtW {o : Bool} {sg mn sw tb : D} {E : Ev} {i : Nat} {f : Str} {d : D} (h : E[i]? = some (some (wD o sg mn sw tb))) (hl : lookK (["signs", "meaning", "reads", "answers", "swaps", "table"] : List Str) [sg, mn, .tup [], .tup [], sw, tb] f = some d) : qAt ["World"] f (qVar i) E = some d :=
  qAt_of (o := o) (by unfold qVar; rw [h]; rfl) (by simp) hl
theorem look_sw {sg mn sw tb : D} : lookK (["signs", "meaning", "reads", "answers", "swaps", "table"] : List Str) [sg, mn, .tup [], .tup [], sw, tb] "swaps" = some sw := by
  simp only [lookK]
  rw [if_neg (by decide +kernel), if_neg (by decide +kernel), if_neg (by decide +kernel), if_neg (by decide +kernel), if_pos trivial]
theorem look_mn {sg mn sw tb : D} : lookK (["signs", "meaning", "reads", "answers", "swaps", "table"] : List Str) [sg, mn, .tup [], .tup [], sw, tb] "meaning" = some mn := by
  simp only [lookK]
  rw [if_neg (by decide +kernel), if_pos trivial]
theorem look_tb {sg mn sw tb : D} : lookK (["signs", "meaning", "reads", "answers", "swaps", "table"] : List Str) [sg, mn, .tup [], .tup [], sw, tb] "table" = some tb := by
  simp only [lookK]
  rw [if_neg (by decide +kernel), if_neg (by decide +kernel), if_neg (by decide +kernel), if_neg (by decide +kernel), if_neg (by decide +kernel), if_pos trivial]
theorem eq_strF {a b : Str} (h : (a == b) = false) : opEq (.str a) (.str b) = some (.bl false) := by show some (D.bl (a == b)) = _; rw [h]
theorem eq_strT (a : Str) : opEq (.str a) (.str a) = some (.bl true) := by show some (D.bl (a == a)) = _; rw [beq_self_eq_true]
theorem ordered_ok {ops : List Op} {o : Bool} {sg mn tb : D} (x : Str) (ps : List Int) :
    g_World_ordered [wD o sg mn (swD ops) tb, .str x, tupI ps] = some (tupI (srtI (swp ops x) ps), [wD o sg mn (swD ops) tb, .str x, tupI ps]) := by
  refine runD_same [] rfl (sRet_of ?_)
  have c : tOfQ (tqf (q2f opIn (qVar 1) (qAt ["World"] "swaps" (qVar 0)))) [some (wD o sg mn (swD ops) tb), some (.str x), some (tupI ps)] = some (swp ops x, [some (wD o sg mn (swD ops) tb), some (.str x), some (tupI ps)]) :=
    tOfQ_of (tqf_of (q2f_of (x := .str x) (y := swD ops) rfl (qAtW rfl look_sw) (in_swD ops x)))
  unfold srtI
  cases h : swp ops x with
  | true =>
    rw [h] at c
    refine eIf_t c (n1L_of (ds := [.lst true ((srI ps).map .int)]) (qCons_of (q1L_of (ds := [tupI ps]) rfl (sorted_tup ps)) rfl) (opTuple_lst true (fz_ints _)))
  | false =>
    rw [h] at c
    exact eIf_f c (n1L_of (ds := [tupI ps]) rfl (opTuple_tup (fz_ints _)))
theorem number_ok {o : Bool} {sg mn sw tb : D} (n : Int) : g_World_number [wD o sg mn sw tb, .int n] = some (.int n, [wD o sg mn sw tb, .int n]) := by
  refine runD_same [] rfl ?_
  rfl
theorem argsW {o : Bool} {ops : List Op} {sg mn tb : D} {x : Str} {ps : List Int} : eMeth "World" "ordered" g_World_ordered 0 (xSlot 1 (xSlot 2 xNil)) [some (wD o sg mn (swD ops) tb), some (.str x), some (tupI ps)] = some (tupI (srtI (swp ops x) ps), [some (wD o sg mn (swD ops) tb), some (.str x), some (tupI ps)]) := by
  refine (eMeth_of (o := o) rfl (by decide +kernel)).trans ?_
  exact eCall_same (as := [.inl 0, .inl 1, .inl 2]) rfl (.slot rfl (.slot rfl (.slot rfl .nil))) (by simp [slotsA]) (ordered_ok x ps)
theorem applyF_ok {ops : List Op} {o : Bool} {sg : D} {seed : Int} {tb : D} {x : Str} (hx : Good x) {ps : List Int} (hl : ps.length ≤ 1000) :
    g_World_apply [wD o sg (fmD seed) (swD ops) tb, .str x, tupI ps] = some (.int (Fm seed x (srtI (swp ops x) ps)), [wD o sg (fmD seed) (swD ops) tb, .str x, tupI ps]) := by
  have hz := fz_tupI (srtI (swp ops x) ps)
  let W := wD o sg (fmD seed) (swD ops) tb
  let P := tupI (srtI (swp ops x) ps)
  have mn : qAt ["World"] "meaning" (qVar 0) [some W, some (.str x), some P] = some (fmD seed) := qAtW rfl look_mn
  have c : tOfQ (tqf (q2f opEq (q2f opIx (qAt ["World"] "meaning" (qVar 0)) (qC (.int 0))) (qC (.str "table")))) [some W, some (.str x), some P] = some (false, [some W, some (.str x), some P]) :=
    tOfQ_of (tqf_of (q2f_of (x := .str "formula") (y := .str "table") (q2f_of mn rfl rfl) rfl (eq_strF (by decide +kernel))))
  have sl : (srtI (swp ops x) ps).length ≤ 1000 := by
    unfold srtI
    split
    · rw [srI_len]; exact hl
    · exact hl
  have fo := formula_ok (seed := seed) (o := x) (d := P) hx (.inl rfl) sl
  have call : eCall g_mixed_worth (xVal (eOf (q2f opIx (qAt ["World"] "meaning" (qVar 0)) (qC (.int 1)))) (xSlot 1 (xSlot 2 xNil))) [some W, some (.str x), some P] = some (.int (Fm seed x (srtI (swp ops x) ps)), [some W, some (.str x), some P]) :=
    eCall_same (as := [.inr (.int seed), .inl 1, .inl 2]) (xVal_of (d := .int seed) (eOf_of (q2f_of mn rfl rfl) rfl) rfl) (.val (.slot rfl (.slot rfl .nil))) (by simp [slotsA]) fo
  refine runD_of (E' := [some W, some (.str x), some P]) rfl ?_ ?_
  · show b_World_apply (lkOf [W, .str x, tupI ps]) [some W, some (.str x), some (tupI ps)] = _
    unfold b_World_apply
    have l2 : lkOf [W, .str x, tupI ps] 2 = false := by
      show (!isFz (tupI ps)) = false
      rw [fz_tupI]; rfl
    exact sSeq_nx (sAsg_of (by show (!lkOf [W, .str x, tupI ps] 2 && true) = true; rw [l2]; rfl) argsW rfl) (sSeq_nx (E1 := [some W, some (.str x), some P]) (sIf_f c rfl) (sRet_of call))
  · have hp := fz_tupI ps
    simp [outsD, hp, isFz]
    intro _; rfl
theorem applyT_ok {ops : List Op} {o : Bool} {sg : D} {ts : List Tr} {x : Str} {ps : List Int} {v : Int} (hv : ((lookK (putsT (tbL ts) ([], [])).1 (putsT (tbL ts) ([], [])).2 (x, srtI (swp ops x) ps)).getD (.int 0)) = .int v) :
    g_World_apply [wD o sg (tmD ts) (swD ops) (tbD ts), .str x, tupI ps] = some (.int v, [wD o sg (tmD ts) (swD ops) (tbD ts), .str x, tupI ps]) := by
  let W := wD o sg (tmD ts) (swD ops) (tbD ts)
  let P := tupI (srtI (swp ops x) ps)
  have hz : isFz P = true := fz_tupI _
  have mn : qAt ["World"] "meaning" (qVar 0) [some W, some (.str x), some P] = some (tmD ts) := qAtW rfl look_mn
  have c : tOfQ (tqf (q2f opEq (q2f opIx (qAt ["World"] "meaning" (qVar 0)) (qC (.int 0))) (qC (.str "table")))) [some W, some (.str x), some P] = some (true, [some W, some (.str x), some P]) :=
    tOfQ_of (tqf_of (q2f_of (x := .str "table") (y := .str "table") (q2f_of mn rfl rfl) rfl (eq_strT _)))
  have key : qTup (qCons (qVar 1) (qCons (qVar 2) qNil)) [some W, some (.str x), some P] = some (tkD (x, srtI (swp ops x) ps)) := qTup_of (qCons_of rfl (qCons_of (d := P) rfl rfl)) (by show (true && (isFz P && true)) = true; rw [hz]; rfl) (by simp)
  have get : eOf (q1M opGet (qAt ["World"] "table" (qVar 0)) (qCons (qTup (qCons (qVar 1) (qCons (qVar 2) qNil))) (qCons (qC (.int 0)) qNil))) [some W, some (.str x), some P] = some (.int v, [some W, some (.str x), some P]) := by
    refine eOf_of ?_ rfl
    unfold q1M
    rw [show qAt ["World"] "table" (qVar 0) [some W, some (.str x), some P] = some (tbD ts) from qAtW rfl look_tb, show qCons (qTup (qCons (qVar 1) (qCons (qVar 2) qNil))) (qCons (qC (.int 0)) qNil) [some W, some (.str x), some P] = some [tkD (x, srtI (swp ops x) ps), .int 0] from qCons_of key rfl]
    show opGet (tbD ts) [tkD (x, srtI (swp ops x) ps), .int 0] = _
    unfold tbD
    rw [opGet2_dic kc_tk, hv]
  refine runD_of (E' := [some W, some (.str x), some P]) rfl ?_ ?_
  · show b_World_apply (lkOf [W, .str x, tupI ps]) [some W, some (.str x), some (tupI ps)] = _
    unfold b_World_apply
    have l2 : lkOf [W, .str x, tupI ps] 2 = false := by
      show (!isFz (tupI ps)) = false
      rw [fz_tupI]; rfl
    exact sSeq_nx (sAsg_of (by show (!lkOf [W, .str x, tupI ps] 2 && true) = true; rw [l2]; rfl) argsW rfl) (sSeq_ret (sIf_t c (sRet_of get)))
  · have hp := fz_tupI ps
    simp [outsD, hp, isFz]
    intro _; rfl
end K31

namespace K31
open PySem Dm
/-! ### worths of rows by a world -/
def atI (f : List Int) (ks : List Nat) : List Int := ks.map fun k => f.getD k 0
theorem ix_int {f : List Int} {k : Nat} (h : k < f.length) (o : Bool) : opIx (.lst o (f.map .int)) (nD k) = some (.int (f.getD k 0)) := by
  show L2.atI (f.map D.int) ((k : Nat) : Int) = _
  refine L2.atI_nat ?_
  rw [List.getElem?_map, List.getElem?_eq_getElem h, List.getD_eq_getElem?_getD, List.getElem?_eq_getElem h]
  rfl
theorem iSeq_ks {E : Ev} {rx : Nat} {o : Str} {ks : List Nat} (hr : E[rx]? = some (some (Rw.op o ks).d)) : iSeq (eOf (q2f opIx (qVar rx) (qC (.int 2)))) E = some (ks.map nD, E) := by
  have e : eOf (q2f opIx (qVar rx) (qC (.int 2))) E = some (.tup (ks.map nD), E) := by
    refine eOf_of (q2f_of (x := (Rw.op o ks).d) (y := .int 2) (by unfold qVar; rw [hr]) rfl rfl) ?_
    simp only [isFz, fz_nDs]
  unfold iSeq
  rw [e]
  exact if_pos (fz_nDs ks)
/-- the world's answers for these rows are these -/
def ToldR (W L : D) (ws : List Int) (i : Nat) : Rw → Prop
  | .let s => opIx L (.str s) = some (.int (ws.getD i 0))
  | .num n => ws.getD i 0 = n
  | .op o ks => g_World_apply [W, .str o, tupI (atI ws ks)] = some (.int (ws.getD i 0), [W, .str o, tupI (atI ws ks)])
def Told (W L : D) (rows : List Rw) (ws : List Int) : Prop := ws.length = rows.length ∧ ∀ i r, rows[i]? = some r → ToldR W L ws i r
theorem app_int {f : List Int} {k : Int} (h : f.length ≤ 1000) : mAppend (f.map .int) [.int k] = some (.non, (f ++ [k]).map .int) := by
  rw [List.map_append]
  exact if_pos (by rw [List.length_map]; exact Nat.lt_of_le_of_lt h (by decide))
theorem take_getD {ws : List Int} {i k : Nat} (h : k < i) : (ws.take i).getD k 0 = ws.getD k 0 := by
  rw [List.getD_eq_getElem?_getD, List.getD_eq_getElem?_getD, List.getElem?_take_of_lt h]
theorem worths_by_ok {sg mn sw tb L : D} {rows : List Rw} (ok : Okrs rows) {ws : List Int} (hL : isFz L = false) (tl : Told (wD true sg mn sw tb) L rows ws) :
    g__law_worths_by [wD true sg mn sw tb, .tup (rows.map Rw.d), L] = some (.lst true (ws.map .int), [wD true sg mn sw tb, .tup (rows.map Rw.d), L]) := by
  let W := wD true sg mn sw tb
  let R : D := .tup (rows.map Rw.d)
  have hR : isFz R = true := rwD rows
  have loop : ∃ x4 x5, forL (gdName 4) (l__law_worths_by_1 (lkP (lkOf [W, R, L]) 1)) (rows.map Rw.d) [some W, some R, some L, some (.lst true []), none, none]
      = some (.nx [some W, some R, some L, some (.lst true (ws.map .int)), x4, x5]) := by
    refine forL_typed Rw.d (fun rest E => ∃ dn x4, rows = dn ++ rest ∧ E = [some W, some R, some L, some (.lst true ((ws.take dn.length).map .int)), x4, none])
      (fun o => ∃ x4 x5, o = some (.nx [some W, some R, some L, some (.lst true (ws.map .int)), x4, x5])) ?_ ?_ rows _ ⟨[], none, rfl, rfl⟩
    · rintro r rest E ⟨dn, x4, hr, rfl⟩
      have at0 : rows[dn.length]? = some r := by rw [hr, List.getElem?_append_right (Nat.le_refl _), Nat.sub_self]; rfl
      have lt : dn.length < ws.length := by rw [tl.1, hr, List.length_append, List.length_cons]; omega
      have len : dn.length ≤ 100 := by
        have := ok.1
        rw [hr, List.length_append] at this
        omega
      let f := ws.take dn.length
      have fl : f.length = dn.length := by rw [List.length_take]; omega
      let v := ws.getD dn.length 0
      have fv : ws.take (dn ++ [r]).length = f ++ [v] := by
        rw [List.length_append, List.length_singleton, List.take_succ, List.getElem?_eq_getElem lt]
        show _ = f ++ [ws.getD dn.length 0]
        rw [List.getD_eq_getElem?_getD, List.getElem?_eq_getElem lt]
        rfl
      refine ⟨[some W, some R, some L, some (.lst true (f.map .int)), some r.d, none], rfl, .inl ⟨[some W, some R, some L, some (.lst true ((f ++ [v]).map .int)), some r.d, none], ?_, dn ++ [r], _, by rw [hr]; simp, by rw [fv]⟩⟩
      have fin : ∀ fe : Ev → Option (D × Ev), fe [some W, some R, some L, some (.lst true (f.map .int)), some r.d, none] = some (.int v, [some W, some R, some L, some (.lst true (f.map .int)), some r.d, none]) →
          sExpr (eMt 3 mAppend (eCons fe eNil)) [some W, some R, some L, some (.lst true (f.map .int)), some r.d, none] = some (.nx [some W, some R, some L, some (.lst true ((f ++ [v]).map .int)), some r.d, none]) := fun fe h =>
        sExpr_of (d := .non) (eMt_of (i := 3) (op := mAppend) (E1 := [some W, some R, some L, some (.lst true (f.map .int)), some r.d, none]) rfl (eCons_of h rfl) rfl (app_int (f := f) (by omega)))
      have t := tl.2 dn.length r at0
      cases r with
      | «let» s =>
        refine sIf_f (E1 := [some W, some R, some L, some (.lst true (f.map .int)), some (Rw.let s).d, none]) rfl (fin _ ?_)
        refine eIf_t (E1 := [some W, some R, some L, some (.lst true (f.map .int)), some (Rw.let s).d, none]) rfl ?_
        exact eOf_of (q2f_of (x := L) (y := .str s) rfl rfl t) rfl
      | num n =>
        refine sIf_f (E1 := [some W, some R, some L, some (.lst true (f.map .int)), some (Rw.num n).d, none]) rfl (fin _ ?_)
        refine eIf_f (E1 := [some W, some R, some L, some (.lst true (f.map .int)), some (Rw.num n).d, none]) rfl ?_
        refine (eMeth_of (o := true) rfl (by decide +kernel)).trans ?_
        have e : v = n := t
        rw [e]
        exact eCall_same (as := [.inl 0, .inr (.int n)]) rfl (.slot rfl (.val .nil)) (by simp [slotsA]) (number_ok n)
      | op o ks =>
        have okr := ok.2 dn.length _ at0
        have ea : ks.map (fun k => f.getD k 0) = atI ws ks := List.map_congr_left fun k m => take_getD (okr.2 k m)
        refine sIf_t (E1 := [some W, some R, some L, some (.lst true (f.map .int)), some (Rw.op o ks).d, none]) rfl (fin _ ?_)
        have c := eComp_all (own := [5]) (g := gdName 5) (el := eOf (q2f opIx (qVar 3) (qVar 5))) nD (fun k => D.int (f.getD k 0)) ks (E := [some W, some R, some L, some (.lst true (f.map .int)), some (Rw.op o ks).d, none]) (iSeq_ks (rx := 4) rfl) rfl rfl rfl (Nat.le_trans okr.1 (by decide)) fun k m =>
          ⟨[some W, some R, some L, some (.lst true (f.map .int)), some (Rw.op o ks).d, some (nD k)], [some W, some R, some L, some (.lst true (f.map .int)), some (Rw.op o ks).d, some (nD k)], rfl, eOf_of (q2f_of (x := .lst true (f.map .int)) (y := nD k) rfl rfl (ix_int (by rw [fl]; exact okr.2 k m) true)) rfl, rfl⟩
        have m1 : ks.map (fun k => D.int (f.getD k 0)) = (atI ws ks).map .int := by rw [← ea, List.map_map]; rfl
        rw [m1] at c
        have tp := e1L_of (op := opTuple) (g := eCons _ eNil) (eCons_of c rfl) (opTuple_lst true (fz_ints (atI ws ks)))
        refine (eMeth_of (o := true) rfl (by decide +kernel)).trans ?_
        have fzp : froz (tupI (atI ws ks)) = tupI (atI ws ks) := froz_fz _ (fz_tupI _)
        have xv := xValF_of (g := xNil) tp rfl
        rw [show froz (D.tup ((atI ws ks).map .int)) = tupI (atI ws ks) from fzp] at xv
        exact eCall_same (as := [.inl 0, .inr (.str o), .inr (tupI (atI ws ks))]) (xSlot_of rfl (xVal_of (d := .str o) rfl xv)) (.slot rfl (.val (.val .nil))) (by simp [slotsA]) t
    · rintro E ⟨dn, x4, hr, rfl⟩
      have e : ws.take dn.length = ws := by
        rw [List.append_nil] at hr
        rw [← hr, ← tl.1, List.take_length]
      exact ⟨x4, none, by rw [e]⟩
  obtain ⟨x4, x5, loop⟩ := loop
  refine runD_of (E' := [some W, some R, some L, none, x4, x5]) rfl ?_ ?_
  · show b__law_worths_by (lkOf [W, R, L]) [some W, some R, some L, none, none, none] = _
    unfold b__law_worths_by
    refine sSeq_nx (E1 := [some W, some R, some L, some (.lst true []), none, none]) (sAsg_of rfl rfl rfl) ?_
    refine sSeq_nx (E1 := [some W, some R, some L, some (.lst true (ws.map .int)), x4, x5]) ((sForQ_tup Rw.fz rfl rfl).trans loop) ?_
    rfl
  · show outsD [W, R, L] _ = _
    simp only [outsD, hR, hL]
    rfl
end K31

namespace K31
open PySem Dm
/-! ### the nodes below -/
theorem kc_nD : Kc nD := .inl ⟨fun k => .inl (k : Int), fun a b h => by injection h with h; exact Int.ofNat.inj h, fun _ => rfl⟩
def pts : Rw → List Nat
  | .op _ ks => ks
  | _ => []
theorem parts_of_ok (r : Rw) : g__law_parts_of [r.d] = some (.tup ((pts r).map nD), [r.d]) := by
  refine runD_same [] rfl (sRet_of ?_)
  cases r with
  | «let» s => exact eIf_f (E1 := [some (Rw.let s).d]) rfl (eTup_of rfl (Nat.zero_le _))
  | num n => exact eIf_f (E1 := [some (Rw.num n).d]) rfl (eTup_of rfl (Nat.zero_le _))
  | op o ks => exact eIf_t (E1 := [some (Rw.op o ks).d]) rfl (eOf_of rfl (by simp only [isFz, pts, fz_nDs]))
def Gok (g : List Rw) : Prop := g.length ≤ 100 ∧ g.Nodup ∧ ∀ i r, g[i]? = some r → (pts r).length ≤ 3 ∧ ∀ k ∈ pts r, k < i
def fnD (fs : List Nat) : D := dicT nD true fs (fs.map fun _ => .bl true)
theorem pop_nD (l : List Nat) (x : Nat) : mPop ((l ++ [x]).map nD) [] = some (nD x, l.map nD) := by
  rw [List.map_append]
  show mPop (l.map nD ++ [nD x]) [] = _
  unfold mPop
  have e : (l.map nD ++ [nD x])[(l.map nD ++ [nD x]).length - 1]? = some (nD x) := by
    rw [List.length_append, List.length_singleton, Nat.add_sub_cancel, List.getElem?_append_right (Nat.le_refl _), Nat.sub_self]
    rfl
  have z : isFzL (l.map nD ++ [nD x]) = true := by
    have := fz_nDs (l ++ [x])
    rwa [List.map_append] at this
  rw [e]
  show (if isFzL (l.map nD ++ [nD x]) = true then some (nD x, (l.map nD ++ [nD x]).dropLast) else none) = _
  rw [if_pos z, List.dropLast_concat]
theorem ext_nD {l ys : List Nat} (h : l.length + ys.length ≤ 2000) : mExtendX (l.map nD) [.tup (ys.map nD)] = some (.non, (l ++ ys).map nD) := by
  show (if (l.map nD).length + (ys.map nD).length ≤ sizeLine ∧ isFzL (ys.map nD) = true then some (D.non, l.map nD ++ ys.map nD) else none) = _
  rw [if_pos ⟨by rw [List.length_map, List.length_map]; exact Nat.le_trans h (by decide), fz_nDs ys⟩, List.map_append]
theorem kds_put {fs : List Nat} {x : Nat} (n : x ∉ fs) (h : fs.length ≤ 1000) : setC (fnD fs) (nD x) (.bl true) = some (fnD (fs ++ [x])) := by
  unfold fnD
  rw [setC_dic kc_nD _ _ _ _ (by rw [List.length_map]; exact Nat.lt_of_le_of_lt h (by decide)), putT_new n, List.map_append]
  rfl
theorem nodup_lt : ∀ (n : Nat) (l : List Nat), l.Nodup → (∀ k ∈ l, k < n) → l.length ≤ n
  | 0, l, _, h => by
    cases l with
    | nil => exact Nat.le_refl _
    | cons x l => exact absurd (h x List.mem_cons_self) (Nat.not_lt_zero _)
  | n + 1, l, nd, h => by
    by_cases m : n ∈ l
    · have := nodup_lt n (l.erase n) (nd.erase n) fun k mk => by
        have h1 := h k (List.mem_of_mem_erase mk)
        have h2 : k ≠ n := fun e => by rw [e] at mk; exact (nd.not_mem_erase mk)
        omega
      rw [List.length_erase_of_mem m] at this
      omega
    · exact Nat.le_succ_of_le (nodup_lt n l nd fun k mk => by
        have h1 := h k mk
        have h2 : k ≠ n := fun e => m (e ▸ mk)
        omega)
/-- what the walk below leaves: some order of the nodes come to -/
theorem below_loop {g : List Rw} (G : Gok g) {gl : D} (lk : Lks) (hlk : lk 4 = false) : ∀ (n : Nat) (l fs : List Nat) (x4 : Option D), (∀ k ∈ l, k < g.length) → (∀ k ∈ fs, k < g.length) → fs.Nodup → l.length + 4 * (g.length - fs.length) < n → l.length + 4 * (g.length - fs.length) ≤ 1000 →
    ∃ fs' x4', fs'.Nodup ∧ (∀ k ∈ fs', k < g.length) ∧ (∀ k ∈ fs, k ∈ fs') ∧ (∀ k ∈ l, k ∈ fs') ∧
      whileN (tOfQ (tqf (q2f opNe (qVar 3) (qLst qNil)))) (l__law_below_1 lk) n [some (grD true g), some gl, some (fnD fs), some (.lst true (l.map nD)), x4] = some (.nx [some (grD true g), some gl, some (fnD fs'), some (.lst true []), x4']) := by
  intro n
  induction n with
  | zero => intro l fs x4 _ _ _ h _; omega
  | succ n ih =>
    intro l fs x4 hl hf nd h1 h2
    have c : tOfQ (tqf (q2f opNe (qVar 3) (qLst qNil))) [some (grD true g), some gl, some (fnD fs), some (.lst true (l.map nD)), x4] = some (!(l.map fun (k : Nat) => (k : Int)).isEmpty, [some (grD true g), some gl, some (fnD fs), some (.lst true (l.map nD)), x4]) := by
      have e := ne_nil (l.map fun (k : Nat) => (k : Int))
      rw [← nD_map] at e
      exact tOfQ_of (tqf_of (q2f_of (x := .lst true (l.map nD)) (y := .lst true []) rfl rfl e))
    unfold whileN
    rw [c]
    rcases List.eq_nil_or_concat l with e | ⟨l0, x, e⟩
    · subst e
      exact ⟨fs, x4, nd, hf, fun _ m => m, fun _ m => (by cases m), rfl⟩
    · rw [List.concat_eq_append] at e
      subst e
      have ne : (!((l0 ++ [x]).map fun (k : Nat) => (k : Int)).isEmpty) = true := by simp
      rw [ne]
      have hx : x < g.length := hl x (by simp)
      have h0 : ∀ k ∈ l0, k < g.length := fun k m => hl k (List.mem_append_left _ m)
      rw [List.length_append, List.length_singleton] at h1 h2
      have p1 := sAsg_of (lk := lk) (ts := [4]) (g := gdName 4) (f := eMt 3 mPop eNil) (d := nD x) (E := [some (grD true g), some gl, some (fnD fs), some (.lst true ((l0 ++ [x]).map nD)), x4]) (by show (!lk 4 && true) = true; rw [hlk]; rfl) (eMt_of (i := 3) rfl rfl rfl (pop_nD l0 x)) rfl
      let E1 : Ev := [some (grD true g), some gl, some (fnD fs), some (.lst true (l0.map nD)), some (nD x)]
      have t : tOfQ (tqf (q2f opNotIn (qVar 4) (qVar 2))) E1 = some (decide (x ∉ fs), E1) := tOfQ_of (tqf_of (q2f_of (x := nD x) (y := fnD fs) rfl rfl (opNotIn_dic kc_nD true fs _ x (by rw [List.length_map]))))
      by_cases m : x ∈ fs
      · have t' := t
        rw [decide_eq_false fun q => q m] at t'
        have body : l__law_below_1 lk [some (grD true g), some gl, some (fnD fs), some (.lst true ((l0 ++ [x]).map nD)), x4] = some (.nx E1) := sSeq_nx p1 (sIf_f t' rfl)
        obtain ⟨fs', x4', q1, q2, q3, q4, q5⟩ := ih l0 fs (some (nD x)) h0 hf nd (by omega) (by omega)
        refine ⟨fs', x4', q1, q2, q3, fun k mk => ?_, ?_⟩
        · rcases List.mem_append.mp mk with mk | mk
          · exact q4 k mk
          · rw [List.mem_singleton.mp mk]; exact q3 x m
        · show (match l__law_below_1 lk _ with | some (.nx E2) => whileN _ _ n E2 | some (.ct E2) => _ | some (.bk E2) => _ | some (.ret d E2) => _ | none => none) = _
          rw [body]
          exact q5
      · rw [decide_eq_true m] at t
        have lf : fs.length < g.length := by
          have sub : (x :: fs).Nodup := List.nodup_cons.mpr ⟨m, nd⟩
          have := nodup_lt g.length (x :: fs) sub fun k mk => by
            rcases List.mem_cons.mp mk with e | mk
            · rw [e]; exact hx
            · exact hf k mk
          rw [List.length_cons] at this
          omega
        have g1 := G.1
        have gx : g[x]? = some g[x] := List.getElem?_eq_getElem hx
        obtain ⟨a1, a2⟩ := G.2.2 x _ gx
        let ps := pts g[x]
        have p2 := sAsg_of (lk := lk) (ts := []) (g := gdPut (lnVar 2) (qVar 4)) (f := eOf (qC (.bl true))) (d := .bl true) (E := E1) rfl rfl (gdPut_of (l := lnVar 2) (lnVar_of rfl) (rfl : qVar 4 E1 = some (nD x)) (kds_put m (by omega)))
        let E2 : Ev := [some (grD true g), some gl, some (fnD (fs ++ [x])), some (.lst true (l0.map nD)), some (nD x)]
        have at1 : q2f opIx (q2f opIx (qVar 0) (qC (.int 1))) (qVar 4) E2 = some (g[x]).d := by
          refine q2f_of (x := .lst true (g.map Rw.d)) (y := nD x) (q2f_of (x := grD true g) rfl rfl rfl) rfl ?_
          show L2.atI (g.map Rw.d) ((x : Nat) : Int) = _
          refine L2.atI_nat ?_
          rw [List.getElem?_map, gx]
          rfl
        have call : eCall g__law_parts_of (xVal (eOf (q2f opIx (q2f opIx (qVar 0) (qC (.int 1))) (qVar 4))) xNil) E2 = some (.tup (ps.map nD), E2) :=
          eCall_same (as := [.inr (g[x]).d]) (xVal_of (eOf_of at1 (g[x]).fz) rfl) (.val .nil) (by simp [slotsA]) (parts_of_ok g[x])
        have p3 := sExpr_of (eMt_of (i := 3) (op := mExtendX) (E := E2) (E1 := E2) (g := eCons _ eNil) rfl (eCons_of call rfl) rfl (ext_nD (l := l0) (ys := ps) (by have : ps.length ≤ 3 := a1; omega)))
        have body : l__law_below_1 lk [some (grD true g), some gl, some (fnD fs), some (.lst true ((l0 ++ [x]).map nD)), x4] = some (.nx [some (grD true g), some gl, some (fnD (fs ++ [x])), some (.lst true ((l0 ++ ps).map nD)), some (nD x)]) := sSeq_nx p1 (sIf_t t (sSeq_nx p2 p3))
        obtain ⟨fs', x4', q1, q2, q3, q4, q5⟩ := ih (l0 ++ ps) (fs ++ [x]) (some (nD x)) (fun k mk => by
            rcases List.mem_append.mp mk with mk | mk
            · exact h0 k mk
            · exact Nat.lt_trans (a2 k mk) hx) (fun k mk => by
            rcases List.mem_append.mp mk with mk | mk
            · exact hf k mk
            · rw [List.mem_singleton.mp mk]; exact hx) (List.nodup_append.mpr ⟨nd, by simp, fun a ma b mb e => m (by rw [List.mem_singleton.mp mb] at e; rw [← e]; exact ma)⟩)
          (by rw [List.length_append, List.length_append, List.length_singleton]; have : ps.length ≤ 3 := a1; omega) (by rw [List.length_append, List.length_append, List.length_singleton]; have : ps.length ≤ 3 := a1; omega)
        refine ⟨fs', x4', q1, q2, fun k mk => q3 k (List.mem_append_left _ mk), fun k mk => ?_, ?_⟩
        · rcases List.mem_append.mp mk with mk | mk
          · exact q4 k (List.mem_append_left _ mk)
          · rw [List.mem_singleton.mp mk]; exact q3 x (by simp)
        · show (match l__law_below_1 lk _ with | some (.nx E2) => whileN _ _ n E2 | some (.ct E2) => _ | some (.bk E2) => _ | some (.ret d E2) => _ | none => none) = _
          rw [body]
          exact q5
/-- found of the nodes below -/
theorem below_ok {g : List Rw} (G : Gok g) {gl : List Nat} (h : ∀ k ∈ gl, k < g.length) (hl : gl.length ≤ 200) : ∃ fs, fs.Nodup ∧ (∀ k ∈ fs, k < g.length) ∧ (∀ k ∈ gl, k ∈ fs) ∧
    g__law_below [grD true g, .lst true (gl.map nD)] = some (fnD fs, [grD true g, .lst true (gl.map nD)]) := by
  have g1 := G.1
  obtain ⟨fs, x4, q1, q2, _, q4, q5⟩ := below_loop G (gl := .lst true (gl.map nD)) (lkOf [grD true g, .lst true (gl.map nD)]) rfl whileFuel gl [] none h (fun _ m => by cases m) List.nodup_nil (by unfold whileFuel; simp; omega) (by simp; omega)
  refine ⟨fs, q1, q2, q4, runD_of (E' := [some (grD true g), some (.lst true (gl.map nD)), none, some (.lst true []), x4]) rfl ?_ rfl⟩
  show b__law_below (lkOf [grD true g, .lst true (gl.map nD)]) [some (grD true g), some (.lst true (gl.map nD)), none, none, none] = _
  unfold b__law_below
  have ls : opList [.lst true (gl.map nD)] = some (.lst true (gl.map nD)) := if_pos (fz_nDs gl)
  refine sSeq_nx (E1 := [some (grD true g), some (.lst true (gl.map nD)), some (fnD []), some (.lst true (gl.map nD)), none]) (sPar_of (E1 := [some (grD true g), some (.lst true (gl.map nD)), none, none, none]) rfl (eCons_of rfl (eCons_of (n1L_of rfl ls) rfl))) (sSeq_nx q5 ?_)
  rfl
end K31

namespace K31
open PySem Dm
/-! ### the law's own worths of the nodes -/
def OwnR (L : D) (ops : List Op) (seed : Int) (ws : List Int) (i : Nat) : Rw → Prop
  | .let s => opIx L (.str s) = some (.int (ws.getD i 0))
  | .num n => ws.getD i 0 = n
  | .op o ks => ws.getD i 0 = Fm seed o (srtI (swp ops o) (atI ws ks)) ∧ Good o
def Own (L : D) (ops : List Op) (seed : Int) (g : List Rw) (ws : List Int) : Prop := ws.length = g.length ∧ ∀ i r, g[i]? = some r → OwnR L ops seed ws i r
def owD (ws : List Int) : D := dicT nD true (List.range ws.length) (ws.map .int)
theorem range_new (n : Nat) : n ∉ List.range n := fun m => Nat.lt_irrefl _ (List.mem_range.mp m)
theorem ow_put (f : List Int) (v : Int) (h : f.length ≤ 1000) : setC (owD f) (nD f.length) (.int v) = some (owD (f ++ [v])) := by
  unfold owD
  rw [setC_dic kc_nD _ _ _ _ (by rw [List.length_map]; exact Nat.lt_of_le_of_lt h (by decide)), putT_new (range_new _), List.length_append, List.length_singleton, List.range_succ, List.map_append]
  rfl
theorem ixOf_range : ∀ {n k : Nat}, k < n → ixOf (List.range n) k = some k := by
  intro n
  induction n with
  | zero => intro k h; omega
  | succ n ih =>
    intro k h
    rw [List.range_succ]
    by_cases e : k < n
    · have ap : ∀ (l : List Nat) (j : Nat), ixOf l k = some j → ixOf (l ++ [n]) k = some j := by
        intro l
        induction l with
        | nil => intro j e; simp [ixOf] at e
        | cons x l ihl =>
          intro j e
          show (if x = k then some 0 else (ixOf (l ++ [n]) k).map (· + 1)) = some j
          have e' : (if x = k then some 0 else (ixOf l k).map (· + 1)) = some j := e
          by_cases q : x = k
          · rw [if_pos q] at e' ⊢; exact e'
          · rw [if_neg q] at e' ⊢
            obtain ⟨i, h1, h2⟩ := Option.map_eq_some_iff.mp e'
            rw [ihl i h1, ← h2]
            rfl
      exact ap _ _ (ih e)
    · have e' : k = n := by omega
      subst e'
      have nw : ∀ (l : List Nat), k ∉ l → ixOf (l ++ [k]) k = some l.length := by
        intro l
        induction l with
        | nil => intro _; show (if k = k then some 0 else _) = _; rw [if_pos rfl]; rfl
        | cons x l ihl =>
          intro n
          rw [List.mem_cons, not_or] at n
          show (if x = k then some 0 else (ixOf (l ++ [k]) k).map (· + 1)) = _
          rw [if_neg fun e => n.1 e.symm, ihl n.2]
          rfl
      have := nw (List.range k) (range_new k)
      rw [List.length_range] at this
      exact this
theorem ow_get {ws : List Int} {k : Nat} (h : k < ws.length) : opIx (owD ws) (nD k) = some (.int (ws.getD k 0)) := by
  unfold owD
  rw [opIx_dic kc_nD, lookK_at (ixOf_range h), List.getElem?_map, List.getD_eq_getElem?_getD, List.getElem?_eq_getElem h]
  rfl
theorem worths_turn {g : List Rw} (G : Gok g) {ops : List Op} (hl : ops.length ≤ 1000) {q : D} (hq : isFz q = true) {seed : Int} {L ND : D} {ws : List Int} (O : Own L ops seed g ws) (lk : Lks) (h6 : lk 6 = false) (h7 : lk 7 = false) (h8 : lk 8 = false) (h10 : lk 10 = false) {i : Nat} (hi : i < g.length) (x6 x7 x8 : Option D) :
    ∃ x8', l__law_worths_1 lk [some (grD true g), some (sgD ops q), some (.int seed), some L, some ND, some (owD (ws.take i)), some (nD i), x7, x8, none, none] =
      some (.nx [some (grD true g), some (sgD ops q), some (.int seed), some L, some ND, some (owD (ws.take (i + 1))), some (nD i), some (g[i]).d, x8', none, none]) := by
  have g1 := G.1
  have hz := fz_sgD (ops := ops) hq
  have gi : g[i]? = some g[i] := List.getElem?_eq_getElem hi
  have lt : i < ws.length := by rw [O.1]; exact hi
  let f := ws.take i
  have fl : f.length = i := by rw [List.length_take]; omega
  let v := ws.getD i 0
  have fv : ws.take (i + 1) = f ++ [v] := by
    rw [List.take_succ, List.getElem?_eq_getElem lt]
    show _ = f ++ [ws.getD i 0]
    rw [List.getD_eq_getElem?_getD, List.getElem?_eq_getElem lt]
    rfl
  have o := O.2 i _ gi
  obtain ⟨a1, a2⟩ := G.2.2 i _ gi
  rw [fv]
  generalize hr : g[i] = r at gi o a1 a2
  let E (x7 x8 x10 : Option D) : Ev := [some (grD true g), some (sgD ops q), some (.int seed), some L, some ND, some (owD f), some (nD i), x7, x8, none, x10]
  have at1 : q2f opIx (q2f opIx (qVar 0) (qC (.int 1))) (qVar 6) (E x7 x8 none) = some r.d := by
    refine q2f_of (x := .lst true (g.map Rw.d)) (y := nD i) (q2f_of (x := grD true g) rfl rfl rfl) rfl ?_
    show L2.atI (g.map Rw.d) ((i : Nat) : Int) = _
    refine L2.atI_nat ?_
    rw [List.getElem?_map, gi]
    rfl
  have p1 := sAsg_of (lk := lk) (ts := [7]) (g := gdName 7) (d := r.d) (E := E x7 x8 none) (E1 := E x7 x8 none) (E2 := E (some r.d) x8 none) (by show (!lk 7 && true) = true; rw [h7]; rfl) (eOf_of at1 r.fz) rfl
  have put : ∀ x8', gdPut (lnVar 5) (qVar 6) (.int v) (E (some r.d) x8' none) = some [some (grD true g), some (sgD ops q), some (.int seed), some L, some ND, some (owD (f ++ [v])), some (nD i), some r.d, x8', none, none] := fun x8' =>
    (gdPut_of (l := lnVar 5) (lnVar_of rfl) (x := nD i) rfl (by
      have z := ow_put f v (by omega)
      rw [fl] at z
      exact z)).trans rfl
  cases r with
  | «let» s =>
    refine ⟨x8, sSeq_nx p1 (sIf_f (E1 := E (some (Rw.let s).d) x8 none) rfl (sAsg_of rfl (eIf_t (E1 := E (some (Rw.let s).d) x8 none) rfl (eOf_of (d := .int v) (q2f_of (x := L) (y := .str s) rfl rfl o) rfl)) (put x8)))⟩
  | num n =>
    have ev : v = n := o
    refine ⟨x8, sSeq_nx p1 (sIf_f (E1 := E (some (Rw.num n).d) x8 none) rfl (sAsg_of rfl (eIf_f (E1 := E (some (Rw.num n).d) x8 none) rfl (eOf_of (d := .int v) (by rw [ev]; rfl) rfl)) (put x8)))⟩
  | op x ks =>
    have a2' : ∀ k ∈ ks, k < i := a2
    have ea : ks.map (fun k => f.getD k 0) = atI ws ks := List.map_congr_left fun k m => take_getD (a2' k m)
    have c := eComp_all (own := [10]) (g := gdName 10) (el := eOf (q2f opIx (qVar 5) (qVar 10))) nD (fun k => D.int (f.getD k 0)) ks (E := E (some (Rw.op x ks).d) x8 none) (iSeq_ks (rx := 7) rfl) rfl rfl rfl (Nat.le_trans a1 (by decide)) fun k m =>
      ⟨E (some (Rw.op x ks).d) x8 (some (nD k)), E (some (Rw.op x ks).d) x8 (some (nD k)), rfl, eOf_of (q2f_of (x := owD f) (y := nD k) rfl rfl (ow_get (by rw [fl]; exact a2' k m))) rfl, rfl⟩
    have m1 : ks.map (fun k => D.int (f.getD k 0)) = (atI ws ks).map .int := by rw [← ea, List.map_map]; rfl
    rw [m1] at c
    have p2 := sAsg_of (lk := lk) (ts := [8]) (g := gdName 8) (E2 := E (some (Rw.op x ks).d) (some (.lst true ((atI ws ks).map .int))) none) (by show (!lk 8 && true) = true; rw [h8]; rfl) c rfl
    let E8 (b : Bool) : Ev := E (some (Rw.op x ks).d) (some (.lst b ((atI ws ks).map .int))) none
    have sw : tdf (eCall g__law_swaps (xSlot 1 (xVal (eOf (q2f opIx (qVar 7) (qC (.int 1)))) xNil))) (E8 true) = some (swp ops x, E8 true) :=
      tdf_of (eCall_same (as := [.inl 1, .inr (.str x)]) rfl (.slot rfl (.val .nil)) (by simp [slotsA]) (swaps_ok hl q hq x))
    have arg : ∃ d b, PsD d (srtI (swp ops x) (atI ws ks)) ∧ eIf (tdf (eCall g__law_swaps (xSlot 1 (xVal (eOf (q2f opIx (qVar 7) (qC (.int 1)))) xNil)))) (n1L opSorted (qCons (qVar 8) qNil)) (eVar 8) (E8 true) = some (d, E8 b) := by
      unfold srtI
      cases hs : swp ops x with
      | true =>
        rw [hs] at sw
        exact ⟨.lst true ((srI (atI ws ks)).map .int), true, .inr ⟨true, rfl⟩, eIf_t sw (n1L_of (ds := [.lst true ((atI ws ks).map .int)]) rfl (sorted_lst true _))⟩
      | false =>
        rw [hs] at sw
        exact ⟨.lst false ((atI ws ks).map .int), false, .inr ⟨false, rfl⟩, eIf_f sw (eVar_lst rfl (frozL_ints _))⟩
    obtain ⟨d, b, pd, arg⟩ := arg
    have sl : (srtI (swp ops x) (atI ws ks)).length ≤ 1000 := by
      have la : (atI ws ks).length ≤ 3 := by unfold atI; rw [List.length_map]; exact a1
      unfold srtI
      split
      · rw [srI_len]; omega
      · omega
    have fo := formula_ok (seed := seed) o.2 pd sl
    have call : eCall g__law_formula (xSlot 2 (xVal (eOf (q2f opIx (qVar 7) (qC (.int 1)))) (xVal (eIf (tdf (eCall g__law_swaps (xSlot 1 (xVal (eOf (q2f opIx (qVar 7) (qC (.int 1)))) xNil)))) (n1L opSorted (qCons (qVar 8) qNil)) (eVar 8)) xNil))) (E8 true) = some (.int v, E8 b) := by
      have ev : v = Fm seed x (srtI (swp ops x) (atI ws ks)) := o.1
      rw [ev, formula_same]
      exact eCall_same (as := [.inl 2, .inr (.str x), .inr d]) (xSlot_of rfl (xVal_of (d := .str x) rfl (xVal_of arg rfl))) (.slot rfl (.val (.val .nil))) (by simp [slotsA]) fo
    exact ⟨some (.lst b ((atI ws ks).map .int)), sSeq_nx p1 (sIf_t (E1 := E (some (Rw.op x ks).d) x8 none) rfl (sSeq_nx p2 (sAsg_of rfl call (put _))))⟩
end K31

namespace K31
open PySem Dm
theorem sFor_of {lk : Lks} {ts : List Nat} {fi : Ev → Option (List D × Ev)} {g : D → Ev → Option Ev} {body : Ev → Option Out} {E E1 : Ev} {xs : List D} {r : Option Out} (hl : ts.all (fun i => !lk i) = true) (hi : fi E = some (xs, E1)) (h : forL g body xs E1 = r) : sFor lk ts fi g body E = r := by
  unfold sFor
  rw [if_pos hl, hi]
  exact h
theorem intsOf_nD (fs : List Nat) : intsOf (fs.map nD) = some (fs.map fun (k : Nat) => (k : Int)) := by
  rw [nD_map, intsOf_map]
theorem sorted_range {fs : List Nat} {n : Nat} (nd : fs.Nodup) (lt : ∀ k ∈ fs, k < n) (all : ∀ k, k < n → k ∈ fs) (h : n ≤ 60) : opSorted [fnD fs] = some (.lst true ((List.range n).map nD)) := by
  have pm : fs.Perm (List.range n) := (List.perm_ext_iff_of_nodup nd List.nodup_range).mpr fun k => ⟨fun m => List.mem_range.mpr (lt k m), fun m => all k (List.mem_range.mp m)⟩
  have len : fs.length ≤ 60 := by rw [pm.length_eq, List.length_range]; exact h
  have e : (fs.map fun (k : Nat) => (k : Int)).mergeSort (fun x y => decide (x ≤ y)) = (List.range n).map fun (k : Nat) => (k : Int) := by
    have s : ((List.range n).map fun (k : Nat) => (k : Int)).Pairwise (· ≤ ·) := by
      refine List.pairwise_map.mpr ?_
      exact List.pairwise_lt_range.imp fun h => by omega
    exact (PySem.W.os_sorted_mergeSort (pm.symm.map _) s).symm
  unfold fnD dicT
  show (match intsOf (fs.map nD) with | some is => (if is.length < 64 then some (D.lst true ((is.mergeSort fun x y => decide (x ≤ y)).map .int)) else none) | none => none) = _
  rw [intsOf_nD]
  show (if (fs.map fun (k : Nat) => (k : Int)).length < 64 then some (D.lst true (((fs.map fun (k : Nat) => (k : Int)).mergeSort fun x y => decide (x ≤ y)).map .int)) else none) = _
  rw [if_pos (by rw [List.length_map]; omega), e, ← nD_map]
theorem worths_ok {g : List Rw} (G : Gok g) (g60 : g.length ≤ 60) {ops : List Op} (hl : ops.length ≤ 1000) {q : D} (hq : isFz q = true) {seed : Int} {L : D} {ws : List Int} (O : Own L ops seed g ws) (hL : isFz L = false) {nodes : List Nat} (nl : nodes.length ≤ 200) (n1 : ∀ k ∈ nodes, k < g.length) (n2 : ∀ k, k < g.length → k ∈ nodes) :
    g__law_worths [grD true g, sgD ops q, .int seed, L, .lst true (nodes.map nD)] = some (owD ws, [grD true g, sgD ops q, .int seed, L, .lst true (nodes.map nD)]) := by
  have hz := fz_sgD (ops := ops) hq
  let ND : D := .lst true (nodes.map nD)
  let ds : List D := [grD true g, sgD ops q, .int seed, L, ND]
  have wl : ws.length ≤ 60 := by rw [O.1]; exact g60
  let E (f : List Int) (x6 x7 x8 : Option D) : Ev := [some (grD true g), some (sgD ops q), some (.int seed), some L, some ND, some (owD f), x6, x7, x8, none, none]
  have it : iSeq (e1L opSorted (eCons (eCall g__law_below (xSlot 0 (xVal (eCompQ [9] 4 (gdName 9) (tOfQ (tqf (q2f opIsNot (qVar 9) (qC .non)))) (eVar 9)) xNil))) eNil)) (E [] none none none) = some ((List.range g.length).map nD, E [] none none none) := by
    have cq := eCompQ_typed (own := [9]) (i := 4) (g := gdName 9) (tt := tOfQ (tqf (q2f opIsNot (qVar 9) (qC .non)))) (el := eVar 9) nD (fun _ => true) nD nodes (E := E [] none none none) (E' := E [] none none none) rfl (.inl rfl) fz_nD rfl rfl rfl rfl (by omega) fun k m =>
      ⟨[some (grD true g), some (sgD ops q), some (.int seed), some L, some ND, some (owD []), none, none, none, some (nD k), none], [some (grD true g), some (sgD ops q), some (.int seed), some L, some ND, some (owD []), none, none, none, some (nD k), none], rfl, rfl, fun e => (by cases e), fun _ => ⟨_, rfl, rfl⟩⟩
    rw [List.filter_eq_self.mpr fun _ _ => rfl] at cq
    obtain ⟨fs, q1, q2, q3, bl⟩ := below_ok G n1 nl
    have call : eCall g__law_below (xSlot 0 (xVal (eCompQ [9] 4 (gdName 9) (tOfQ (tqf (q2f opIsNot (qVar 9) (qC .non)))) (eVar 9)) xNil)) (E [] none none none) = some (fnD fs, E [] none none none) :=
      eCall_same (as := [.inl 0, .inr ND]) (xSlot_of rfl (xVal_of cq rfl)) (.slot rfl (.val .nil)) (by simp [slotsA]) bl
    have so := e1L_of (op := opSorted) (g := eCons _ eNil) (eCons_of call rfl) (sorted_range q1 q2 (fun k h => q3 k (n2 k h)) g60)
    unfold iSeq
    rw [so]
    show some (frozL ((List.range g.length).map nD), E [] none none none) = _
    rw [frozL_mapT nD fz_nD]
  have loop : ∃ x6 x7 x8, forL (gdName 6) (l__law_worths_1 (lkOf ds)) ((List.range g.length).map nD) (E [] none none none) = some (.nx (E ws x6 x7 x8)) := by
    refine forL_typed nD (fun rest F => ∃ i x6 x7 x8, i ≤ g.length ∧ rest = (List.range g.length).drop i ∧ F = E (ws.take i) x6 x7 x8) (fun o => ∃ x6 x7 x8, o = some (.nx (E ws x6 x7 x8))) ?_ ?_ _ _ ⟨0, none, none, none, Nat.zero_le _, rfl, rfl⟩
    · rintro k rest F ⟨i, x6, x7, x8, hi, hr, rfl⟩
      have hlt : i < g.length := by
        refine Classical.byContradiction fun n => ?_
        rw [List.drop_eq_nil_of_le (by rw [List.length_range]; omega)] at hr
        cases hr
      rw [List.drop_eq_getElem_cons (by rw [List.length_range]; exact hlt)] at hr
      injection hr with h1 h2
      rw [List.getElem_range] at h1
      subst h1
      obtain ⟨x8', t⟩ := worths_turn G hl hq (L := L) (ND := ND) O (lkOf ds) rfl rfl rfl rfl hlt x6 x7 x8
      exact ⟨E (ws.take k) (some (nD k)) x7 x8, rfl, .inl ⟨E (ws.take (k + 1)) (some (nD k)) (some (g[k]).d) x8', t, k + 1, _, _, _, hlt, h2, rfl⟩⟩
    · rintro F ⟨i, x6, x7, x8, hi, hr, rfl⟩
      have e : i = g.length := by
        refine Classical.byContradiction fun n => ?_
        have hlt : i < g.length := by omega
        rw [List.drop_eq_getElem_cons (by rw [List.length_range]; exact hlt)] at hr
        cases hr
      rw [e, ← O.1, List.take_length]
      exact ⟨x6, x7, x8, rfl⟩
  obtain ⟨x6, x7, x8, loop⟩ := loop
  refine runD_of (E' := [some (grD true g), some (sgD ops q), some (.int seed), some L, some ND, none, x6, x7, x8, none, none]) rfl ?_ ?_
  · show b__law_worths (lkOf ds) [some (grD true g), some (sgD ops q), some (.int seed), some L, some ND, none, none, none, none, none, none] = _
    unfold b__law_worths
    refine sSeq_nx (E1 := E [] none none none) rfl (sSeq_nx (E1 := E ws x6 x7 x8) ?_ rfl)
    exact sFor_of rfl it loop
  · show outsD ds _ = _
    simp only [ds, outsD, hz, hL, grD_nz, isFz]
    rfl
end K31

namespace K31
open PySem Dm
/-! ### the rows of the world that parts all -/
def wn (g : List Rw) (k : Nat) : Int := match g[k]? with | some (.num n) => n | _ => 1000 + (k : Int)
def entry (g : List Rw) (ops : List Op) (i : Nat) : Rw → Option Tr
  | .op o ks => some ((o, srtI (swp ops o) (ks.map (wn g))), 1000 + (i : Int))
  | _ => none
def entT (g : List Rw) (ops : List Op) : Nat → List Rw → List Tr
  | _, [] => []
  | i, r :: rs => (match entry g ops i r with | some t => [t] | none => []) ++ entT g ops (i + 1) rs
def egD (p : Int × Rw) : D := .tup [.int p.1, p.2.d]
theorem fz_egD (p : Int × Rw) : isFz (egD p) = true := by
  show (true && (isFz p.2.d && true)) = true
  rw [p.2.fz]; rfl
/-- sorted(found) -/
theorem alike_ints : ∀ a b : List Int, PySem.W.alikeAll (toPL (a.map .int)) (toPL (b.map .int)) = true
  | [], _ => by simp [toPL, PySem.W.alikeAll]
  | _ :: _, [] => by simp [toPL, PySem.W.alikeAll]
  | x :: a, y :: b => by
    rw [List.map_cons, List.map_cons, toPL, toPL]
    simp only [toP, PySem.W.alikeAll, PySem.W.alike, alike_ints a b]
    rfl
theorem alike_tr (a b : Tr) : PySem.W.alike (toP (trD a)) (toP (trD b)) = true := by
  simp only [trD, toP, toPL, PySem.W.alike, PySem.W.alikeAll, alike_ints]
  rfl
theorem depth_intsP : ∀ ns : List Int, PyData.depthAll (toPL (ns.map .int)) = 0
  | [] => rfl
  | n :: ns => by
    rw [List.map_cons, toPL]
    simp only [toP, PyData.depthAll, PyData.depth, depth_intsP ns]
    rfl
theorem dat_ints (ns : List Int) : isDatL (ns.map .int) = true := by
  rw [isDatL_all, List.all_map, List.all_eq_true]
  exact fun _ _ => rfl
theorem sortOk_tr (ts : List Tr) : sortOk (ts.map trD) = true := by
  unfold sortOk
  simp only [Bool.and_eq_true, Bool.or_eq_true, List.all_eq_true, List.mem_map, forall_exists_index, and_imp, forall_apply_eq_imp_iff₂, decide_eq_true_eq]
  refine ⟨⟨⟨⟨?_, isFzL_map trD fz_trD ts⟩, fun a _ b _ => alike_tr a b⟩, .inl fun a _ => rfl⟩, fun a _ => ?_⟩
  · rw [isDatL_all, List.all_map, List.all_eq_true]
    intro a _
    show (true && (isDat (.tup (a.1.2.map .int)) && (true && true))) = true
    simp only [isDat, dat_ints]
    rfl
  · simp only [trD, toP, toPL, PyData.depth, PyData.depthAll, depth_intsP]
    decide
theorem sorted_tr (ts : List Tr) : ∃ us : List Tr, us.Perm ts ∧ opSorted [.lst true (ts.map trD)] = some (.lst true (us.map trD)) := by
  refine ⟨ts.mergeSort fun a b => leD (trD a) (trD b), List.mergeSort_perm _ _, ?_⟩
  show (if sortOk (ts.map trD) = true then some (D.lst true ((ts.map trD).mergeSort leD)) else none) = _
  rw [if_pos (sortOk_tr ts), List.map_mergeSort (r := fun a b => leD (trD a) (trD b)) (s := leD) (f := trD) fun _ _ _ _ => rfl]
theorem app_tr {ts : List Tr} {t : Tr} (h : ts.length ≤ 1000) : mAppend (ts.map trD) [trD t] = some (.non, (ts ++ [t]).map trD) := by
  rw [List.map_append]
  exact if_pos (by rw [List.length_map]; exact Nat.lt_of_le_of_lt h (by decide))
theorem part_turn {g : List Rw} (G : Gok g) {ops : List Op} (hl : ops.length ≤ 1000) {q : D} (hq : isFz q = true) (lk : Lks) (h5 : lk 5 = false) {i : Nat} {r : Rw} (gi : g[i]? = some r) {ts : List Tr} (tl : ts.length ≤ 1000) (x5 : Option D) :
    ∃ x5', l__law_parting_rows_1 lk [some (grD false g), some (sgD ops q), some (.lst true (ts.map trD)), some (.int (i : Nat)), some r.d, x5, none] =
      some (.nx [some (grD false g), some (sgD ops q), some (.lst true ((match entry g ops i r with | some t => ts ++ [t] | none => ts).map trD)), some (.int (i : Nat)), some r.d, x5', none]) := by
  have hz := fz_sgD (ops := ops) hq
  obtain ⟨a1, a2⟩ := G.2.2 i r gi
  have hi : i < g.length := (List.getElem?_eq_some_iff.mp gi).1
  let E (x5 x6 : Option D) : Ev := [some (grD false g), some (sgD ops q), some (.lst true (ts.map trD)), some (.int (i : Nat)), some r.d, x5, x6]
  cases r with
  | «let» s => exact ⟨x5, sIf_f (E1 := E x5 none) rfl rfl⟩
  | num n => exact ⟨x5, sIf_f (E1 := E x5 none) rfl rfl⟩
  | op o ks =>
    have a2' : ∀ k ∈ ks, k < i := a2
    have c := eComp_all (own := [6]) (g := gdName 6) (el := eIf (tOfQ (tqf (q2f opEq (q2f opIx (q2f opIx (q2f opIx (qVar 0) (qC (.int 1))) (qVar 6)) (qC (.int 0))) (qC (.str "num"))))) (eOf (q2f opIx (q2f opIx (q2f opIx (qVar 0) (qC (.int 1))) (qVar 6)) (qC (.int 1)))) (n2f opAdd (qC (.int 1000)) (qVar 6))) nD (fun k => D.int (wn g k)) ks (E := E x5 none) (iSeq_ks (rx := 4) rfl) rfl rfl rfl (Nat.le_trans a1 (by decide)) fun k m => by
      have hk : k < g.length := Nat.lt_trans (a2' k m) hi
      have gk : g[k]? = some g[k] := List.getElem?_eq_getElem hk
      have at1 : q2f opIx (q2f opIx (qVar 0) (qC (.int 1))) (qVar 6) (E x5 (some (nD k))) = some (g[k]).d := by
        refine q2f_of (x := .lst false (g.map Rw.d)) (y := nD k) (q2f_of (x := grD false g) rfl rfl rfl) rfl ?_
        show L2.atI (g.map Rw.d) ((k : Nat) : Int) = _
        refine L2.atI_nat ?_
        rw [List.getElem?_map, gk]
        rfl
      refine ⟨E x5 (some (nD k)), E x5 (some (nD k)), rfl, ?_, rfl⟩
      unfold wn
      rw [gk]
      generalize hr : g[k] = r at at1
      cases r with
      | num n => exact eIf_t (E1 := E x5 (some (nD k))) (tOfQ_of (tqf_of (q2f_of (x := .str "num") (y := .str "num") (q2f_of at1 rfl rfl) rfl (eq_strT _)))) (eOf_of (q2f_of at1 rfl rfl) rfl)
      | «let» s => exact eIf_f (E1 := E x5 (some (nD k))) (tOfQ_of (tqf_of (q2f_of (x := .str "letter") (y := .str "num") (q2f_of at1 rfl rfl) rfl (eq_strF (by decide +kernel))))) (n2f_of rfl rfl rfl)
      | op o' ks' => exact eIf_f (E1 := E x5 (some (nD k))) (tOfQ_of (tqf_of (q2f_of (x := .str "op") (y := .str "num") (q2f_of at1 rfl rfl) rfl (eq_strF (by decide +kernel))))) (n2f_of rfl rfl rfl)
    have m1 : ks.map (fun k => D.int (wn g k)) = (ks.map (wn g)).map .int := by rw [List.map_map]; rfl
    rw [m1] at c
    have p1 := sAsg_of (lk := lk) (ts := [5]) (g := gdName 5) (E2 := E (some (.lst true ((ks.map (wn g)).map .int))) none) (by show (!lk 5 && true) = true; rw [h5]; rfl) c rfl
    let E8 (b : Bool) : Ev := E (some (.lst b ((ks.map (wn g)).map .int))) none
    have sw : tdf (eCall g__law_swaps (xSlot 1 (xVal (eOf (q2f opIx (qVar 4) (qC (.int 1)))) xNil))) (E8 true) = some (swp ops o, E8 true) :=
      tdf_of (eCall_same (as := [.inl 1, .inr (.str o)]) rfl (.slot rfl (.val .nil)) (by simp [slotsA]) (swaps_ok hl q hq o))
    let vs := srtI (swp ops o) (ks.map (wn g))
    have arg : ∃ d b, d = .lst (swp ops o) (vs.map .int) ∧ eIf (tdf (eCall g__law_swaps (xSlot 1 (xVal (eOf (q2f opIx (qVar 4) (qC (.int 1)))) xNil)))) (n1L opSorted (qCons (qVar 5) qNil)) (eVar 5) (E8 true) = some (d, E8 b) := by
      have ev : vs = srtI (swp ops o) (ks.map (wn g)) := rfl
      rw [ev]
      unfold srtI
      cases hs : swp ops o with
      | true =>
        rw [hs] at sw
        exact ⟨_, true, rfl, eIf_t sw (n1L_of (ds := [.lst true ((ks.map (wn g)).map .int)]) rfl (sorted_lst true _))⟩
      | false =>
        rw [hs] at sw
        exact ⟨_, false, rfl, eIf_f sw (eVar_lst rfl (frozL_ints _))⟩
    obtain ⟨d, b, hd, arg⟩ := arg
    subst hd
    have tp := e1L_of (op := opTuple) (g := eCons _ eNil) (eCons_of arg rfl) (opTuple_lst _ (fz_ints vs))
    have row : eTup (eCons (eOf (q2f opIx (qVar 4) (qC (.int 1)))) (eCons (e1L opTuple (eCons (eIf (tdf (eCall g__law_swaps (xSlot 1 (xVal (eOf (q2f opIx (qVar 4) (qC (.int 1)))) xNil)))) (n1L opSorted (qCons (qVar 5) qNil)) (eVar 5)) eNil)) (eCons (n2f opAdd (qC (.int 1000)) (qVar 3)) eNil))) (E8 true) = some (trD ((o, vs), 1000 + (i : Int)), E8 b) :=
      eTup_of (eCons_of rfl (eCons_of tp (eCons_of (n2f_of (op := opAdd) (x := .int 1000) (y := .int (i : Nat)) rfl rfl rfl) rfl))) (by simp)
    refine ⟨some (.lst b ((ks.map (wn g)).map .int)), sIf_t (E1 := E x5 none) rfl (sSeq_nx p1 (sExpr_of (d := .non) ?_))⟩
    exact (eMt_of (i := 2) (op := mAppend) (E1 := E8 b) (g := eCons _ eNil) rfl (eCons_of row rfl) rfl (app_tr tl)).trans rfl
theorem entT_len (g : List Rw) (ops : List Op) : ∀ (rs : List Rw) (i : Nat), (entT g ops i rs).length ≤ rs.length
  | [], _ => Nat.le_refl _
  | r :: rs, i => by
    have ih := entT_len g ops rs (i + 1)
    unfold entT
    rw [List.length_append, List.length_cons]
    cases entry g ops i r with
    | none => show [].length + _ ≤ _; simp; omega
    | some t => show [t].length + _ ≤ _; simp; omega
theorem parting_ok {g : List Rw} (G : Gok g) {ops : List Op} (hl : ops.length ≤ 1000) {q : D} (hq : isFz q = true) :
    ∃ us : List Tr, us.Perm (entT g ops 0 g) ∧ g__law_parting_rows [grD true g, sgD ops q] = some (.tup (us.map trD), [grD false g, sgD ops q]) := by
  have hz := fz_sgD (ops := ops) hq
  have g1 := G.1
  let ds : List D := [grD true g, sgD ops q]
  obtain ⟨us, pm, so⟩ := sorted_tr (entT g ops 0 g)
  refine ⟨us, pm, ?_⟩
  let E (ts : List Tr) (x3 x4 x5 : Option D) : Ev := [some (grD false g), some (sgD ops q), some (.lst true (ts.map trD)), x3, x4, x5, none]
  have it : iEnum (eCons (eAlt (eOf (q2f opIx (qVar 0) (qC (.int 1)))) (eLn (lnIx 1 (lnVar 0)))) eNil) [some (grD true g), some (sgD ops q), some (.lst true []), none, none, none, none] = some ((enumT 0 g).map egD, E [] none none none) := by
    have fl : froz (.lst true (g.map Rw.d)) = .lst false (g.map Rw.d) := by
      show D.lst false (frozL (g.map Rw.d)) = _
      rw [frozL_mapT Rw.d Rw.fz]
    have a : eAlt (eOf (q2f opIx (qVar 0) (qC (.int 1)))) (eLn (lnIx 1 (lnVar 0))) [some (grD true g), some (sgD ops q), some (.lst true []), none, none, none, none] = some (.lst false (g.map Rw.d), E [] none none none) := by
      refine (eAlt_2 rfl).trans ((eLn_of (l := lnIx 1 (lnVar 0)) (d := .lst true (g.map Rw.d)) (put := fun d' => [some (.tup [dicT Rw.d true g (idsD g.length), d']), some (sgD ops q), some (.lst true []), none, none, none, none]) rfl).trans ?_)
      rw [fl]
      rfl
    unfold iEnum
    rw [eCons_of a (rfl : eNil (E [] none none none) = some ([], _))]
    show some (enumD 0 (frozL (g.map Rw.d)), E [] none none none) = _
    rw [frozL_mapT Rw.d Rw.fz, enumD_map]
    rfl
  have loop : ∃ x3 x4 x5, forL (gdTup 2 (gdCons (gdName 3) (gdCons (gdName 4) gdNil))) (l__law_parting_rows_1 (lkOf ds)) ((enumT 0 g).map egD) (E [] none none none) = some (.nx (E (entT g ops 0 g) x3 x4 x5)) := by
    refine forL_typed egD (fun rest F => ∃ (i : Nat) (rs : List Rw) (ts : List Tr) (x3 x4 x5 : Option D), rest = enumT (i : Int) rs ∧ g.drop i = rs ∧ ts ++ entT g ops i rs = entT g ops 0 g ∧ ts.length ≤ i ∧ i ≤ g.length ∧ F = E ts x3 x4 x5) (fun o => ∃ x3 x4 x5, o = some (.nx (E (entT g ops 0 g) x3 x4 x5))) ?_ ?_ _ _ ⟨0, g, [], none, none, none, rfl, rfl, rfl, Nat.le_refl _, Nat.zero_le _, rfl⟩
    · rintro ⟨k, r⟩ rest F ⟨i, rs, ts, x3, x4, x5, hr, hd, ht, hl2, hi, rfl⟩
      cases rs with
      | nil => cases hr
      | cons r' rs =>
        unfold enumT at hr
        injection hr with e1 e2
        injection e1 with e3 e4
        subst e3 e4
        have gi : g[i]? = some r := by
          rw [← List.head?_drop, hd]
          rfl
        have hlt : i < g.length := (List.getElem?_eq_some_iff.mp gi).1
        obtain ⟨x5', t⟩ := part_turn G hl hq (lkOf ds) rfl gi (ts := ts) (by omega) x5
        refine ⟨E ts (some (.int (i : Nat))) (some r.d) x5, rfl, .inl ⟨_, t, i + 1, rs, (match entry g ops i r with | some t => ts ++ [t] | none => ts), _, _, _, e2, ?_, ?_, ?_, hlt, rfl⟩⟩
        · rw [← List.drop_drop, hd]
          rfl
        · rw [← ht]
          show _ = ts ++ ((match entry g ops i r with | some t => [t] | none => []) ++ entT g ops (i + 1) rs)
          cases entry g ops i r with
          | none => rfl
          | some t => simp
        · cases entry g ops i r with
          | none => show ts.length ≤ _; omega
          | some t => show (ts ++ [t]).length ≤ _; rw [List.length_append]; simp; omega
    · rintro F ⟨i, rs, ts, x3, x4, x5, hr, hd, ht, hl2, hi, rfl⟩
      cases rs with
      | cons r' rs => cases hr
      | nil =>
        have e : ts = entT g ops 0 g := by rw [← ht]; simp [entT]
        exact ⟨x3, x4, x5, by rw [e]⟩
  obtain ⟨x3, x4, x5, loop⟩ := loop
  refine runD_of (E' := E (entT g ops 0 g) x3 x4 x5) rfl ?_ ?_
  · show b__law_parting_rows (lkOf ds) [some (grD true g), some (sgD ops q), none, none, none, none, none] = _
    unfold b__law_parting_rows
    refine sSeq_nx (E1 := [some (grD true g), some (sgD ops q), some (.lst true []), none, none, none, none]) rfl (sSeq_nx (sFor_of rfl it loop) (sRet_of ?_))
    exact n1L_of (ds := [.lst true (us.map trD)]) (qCons_of (q1L_of (ds := [.lst true ((entT g ops 0 g).map trD)]) rfl so) rfl) (opTuple_lst true (isFzL_map trD fz_trD us))
  · show outsD ds _ = _
    simp only [ds, E, outsD, hz, grD_nz]
    rfl
end K31

namespace K31
open PySem Dm
/-! ### terms -/
def psL (ops : List Op) : List (Str × D) := ops.map fun p => (p.1, D.tup [.int (p.2.1 : Nat), .int p.2.2])
def psD (ops : List Op) : D := dicT .str true (putsT (psL ops) ([], [])).1 (putsT (psL ops) ([], [])).2
theorem parts_of_signs_ok {ops : List Op} (hl : ops.length ≤ 1000) {q : D} : g_parts_of_signs [sgD ops q] = some (psD ops, [sgD ops q]) := by
  refine runD_same [none, none, none] rfl (sRet_of ?_)
  have z := eDComp_typed kc_str opD (fun _ => true) (fun p => p.1) (fun p => D.tup [.int (p.2.1 : Nat), .int p.2.2]) ops (own := [1, 2, 3]) (g := gdTup 3 (gdCons (gdName 1) (gdCons (gdName 2) (gdCons (gdName 3) gdNil)))) (tt := dYes) (fk := qVar 1) (fv := eTup (eCons (eVar 2) (eCons (eVar 3) eNil))) (E := [some (sgD ops q), none, none, none]) (iSeq_ops (i := 0) rfl) rfl rfl rfl (by omega) fun p _ =>
    ⟨[some (sgD ops q), some (.str p.1), some (.int (p.2.1 : Nat)), some (.int p.2.2)], [some (sgD ops q), some (.str p.1), some (.int (p.2.1 : Nat)), some (.int p.2.2)], rfl, rfl, fun e => (by cases e), fun _ => ⟨_, rfl, eTup_two rfl rfl, rfl⟩⟩
  rw [List.filter_eq_self.mpr fun _ _ => rfl] at z
  exact z
section
variable {κ : Type} [DecidableEq κ]
theorem lookK_mem : ∀ {l : List (κ × D)} {k : κ} {v : D}, (l.map (·.1)).Nodup → (k, v) ∈ l → lookK (l.map (·.1)) (l.map (·.2)) k = some v
  | (x, d) :: l, k, v, nd, m => by
    rw [List.map_cons, List.map_cons]
    rw [List.map_cons] at nd
    have nd' := List.nodup_cons.mp nd
    unfold lookK
    rcases List.mem_cons.mp m with e | m
    · cases e
      rw [if_pos rfl]
    · rw [if_neg fun e => nd'.1 (List.mem_map.mpr ⟨(k, v), m, e.symm⟩), lookK_mem nd'.2 m]
end
theorem ps_get {ops : List Op} (nd : (ops.map (·.1)).Nodup) {p : Op} (m : p ∈ ops) : opIx (psD ops) (.str p.1) = some (.tup [.int (p.2.1 : Nat), .int p.2.2]) := by
  have e : (psL ops).map (·.1) = ops.map (·.1) := by unfold psL; rw [List.map_map]; rfl
  have e2 : putsT (psL ops) ([], []) = ((psL ops).map (·.1), (psL ops).map (·.2)) := putsT_nodup (psL ops) (as := []) (ds := []) (by rw [List.nil_append, e]; exact nd)
  unfold psD
  rw [opIx_dic kc_str, e2]
  exact lookK_mem (by rw [e]; exact nd) (List.mem_map.mpr ⟨p, m, rfl⟩)
theorem ps_in {ops : List Op} {p : Op} (m : p ∈ ops) : opNotIn (.str p.1) (psD ops) = some (.bl false) := by
  unfold psD
  rw [opNotIn_dic kc_str true _ _ _ (putsT_len _ rfl), decide_eq_false]
  intro n
  refine n ((putsT_mem _ _).mpr (.inr ?_))
  unfold psL
  rw [List.map_map]
  exact List.mem_map.mpr ⟨p, m, rfl⟩
def tFs : List Str := ["its_signs", "its_heads", "its_numbers", "its_heights"]
def tmI (ops : List Op) (hs : List Rw) (ht : List Int) : D := .ins true "Terms" tFs [psD ops, .lst true (hs.map Rw.d), dicT Rw.d true hs (idsD hs.length), .lst true (ht.map .int)]
theorem tmI_nz (ops : List Op) (hs : List Rw) (ht : List Int) : isFz (tmI ops hs ht) = false := rfl
theorem ix_s : ixOf tFs "its_signs" = some 0 := by decide +kernel
theorem ix_h : ixOf tFs "its_heads" = some 1 := by decide +kernel
theorem ix_n : ixOf tFs "its_numbers" = some 2 := by decide +kernel
theorem ix_g : ixOf tFs "its_heights" = some 3 := by decide +kernel
theorem qAtT {E : Ev} {ops : List Op} {hs : List Rw} {ht : List Int} {f : Str} {j : Nat} {d : D} (h : E[0]? = some (some (tmI ops hs ht))) (hj : ixOf tFs f = some j) (hd : [psD ops, .lst true (hs.map Rw.d), dicT Rw.d true hs (idsD hs.length), .lst true (ht.map .int)][j]? = some d) : qAt ["Terms"] f (qVar 0) E = some d :=
  qAt_of (o := true) (by unfold qVar; rw [h]; rfl) (by simp) ((lookK_at hj).trans hd)
theorem init_t {ops : List Op} (hl : ops.length ≤ 1000) {q : D} (hq : isFz q = true) : g_Terms___init__ [.ins true "Terms" [] [], sgD ops q] = some (.non, [tmI ops [] [], sgD ops q]) := by
  have hz := fz_sgD (ops := ops) hq
  have c1 : eCall g_parts_of_signs (xSlot 1 xNil) [some (.ins true "Terms" [] []), some (sgD ops q)] = some (psD ops, [some (.ins true "Terms" [] []), some (sgD ops q)]) := eCall_same (as := [.inl 1]) rfl (.slot rfl .nil) (by simp [slotsA]) (parts_of_signs_ok hl)
  have s1 := sSetAt_of (l := lnVar 0) (cs := ["Terms"]) (f := "its_signs") c1 (lnVar_of rfl) (setF_new (fs := []) (vs := []) (by simp) (by decide) rfl)
  have s2 := sSetAt_of (g := eLst eNil) (l := lnVar 0) (cs := ["Terms"]) (f := "its_heads") (E := [some (.ins true "Terms" ["its_signs"] [psD ops]), some (sgD ops q)]) (d := .lst true []) rfl (lnVar_of rfl) (setF_new (by simp) (by decide) (by decide +kernel))
  have s3 := sSetAt_of (g := eDic0) (l := lnVar 0) (cs := ["Terms"]) (f := "its_numbers") (E := [some (.ins true "Terms" ["its_signs", "its_heads"] [psD ops, .lst true []]), some (sgD ops q)]) rfl (lnVar_of rfl) (setF_new (by simp) (by decide) (by decide +kernel))
  have s4 := sSetAt_of (g := eLst eNil) (l := lnVar 0) (cs := ["Terms"]) (f := "its_heights") (E := [some (.ins true "Terms" ["its_signs", "its_heads", "its_numbers"] [psD ops, .lst true [], .dic true [] []]), some (sgD ops q)]) (d := .lst true []) rfl (lnVar_of rfl) (setF_new (by simp) (by decide) (by decide +kernel))
  refine runD_nx (E' := [some (tmI ops [] []), some (sgD ops q)]) rfl (sSeq_nx s1 (sSeq_nx s2 (sSeq_nx s3 s4))) ?_
  simp [outsD, hz, isFz]
def htG (hs : List Rw) (ht : List Int) (r : Rw) (h : Int) : List Int := if r ∈ hs then ht else ht ++ [h]
theorem htG_len {hs : List Rw} {ht : List Int} (e : ht.length = hs.length) (r : Rw) (h : Int) : (htG hs ht r h).length = (ndG hs r).length := by
  unfold htG ndG
  split
  · exact e
  · rw [List.length_append, List.length_append, e]; rfl
theorem numbered_ok {ops : List Op} {hs : List Rw} {ht : List Int} (hl : hs.length ≤ 500) (e : ht.length = hs.length) (r : Rw) (h : Int) :
    g_Terms_numbered [tmI ops hs ht, r.d, .int h] = some (nD (ndI hs r), [tmI ops (ndG hs r) (htG hs ht r h), r.d, .int h]) := by
  have fzr := r.fz
  have hix := ndI_ix hs r
  have fin : ∀ hs' ht', ixOf hs' r = some (ndI hs r) → sRet (eOf (q2f opIx (qAt ["Terms"] "its_numbers" (qVar 0)) (qVar 1))) [some (tmI ops hs' ht'), some r.d, some (.int h)] = some (.ret (nD (ndI hs r)) [some (tmI ops hs' ht'), some r.d, some (.int h)]) := fun hs' ht' ei =>
    sRet_of (eOf_of (q2f_of (x := dicT Rw.d true hs' (idsD hs'.length)) (y := r.d) (qAtT rfl ix_n rfl) rfl (by rw [opIx_dic kc_rw, lookK_at ei, idsD_get (ixOf_lt ei)])) rfl)
  have q1 : opNotIn r.d (dicT Rw.d true hs (idsD hs.length)) = some (.bl (decide (r ∉ hs))) := opNotIn_dic kc_rw true hs _ r (idsD_len _)
  refine runD_of (E' := [some (tmI ops (ndG hs r) (htG hs ht r h)), some r.d, some (.int h)]) rfl ?_ ?_
  · show b_Terms_numbered (lkOf [tmI ops hs ht, r.d, .int h]) [some (tmI ops hs ht), some r.d, some (.int h)] = _
    unfold b_Terms_numbered
    have c : tOfQ (tqf (q2f opNotIn (qVar 1) (qAt ["Terms"] "its_numbers" (qVar 0)))) [some (tmI ops hs ht), some r.d, some (.int h)] = some (decide (r ∉ hs), [some (tmI ops hs ht), some r.d, some (.int h)]) :=
      tOfQ_of (tqf_of (q2f_of (x := r.d) rfl (qAtT rfl ix_n rfl) q1))
    by_cases m : r ∈ hs
    · have eg : ndG hs r = hs := if_pos m
      have eh : htG hs ht r h = ht := if_pos m
      rw [eg] at hix ⊢
      rw [eh]
      rw [decide_eq_false fun n => n m] at c
      exact sSeq_nx (E1 := [some (tmI ops hs ht), some r.d, some (.int h)]) (sIf_f c rfl) (fin hs ht hix)
    · have eg : ndG hs r = hs ++ [r] := if_neg m
      have eh : htG hs ht r h = ht ++ [h] := if_neg m
      rw [eg] at hix ⊢
      rw [eh]
      rw [decide_eq_true m] at c
      have len2 : (hs ++ [r]).length = hs.length + 1 := by rw [List.length_append]; rfl
      have s1 : setC (dicT Rw.d true hs (idsD hs.length)) r.d (nD hs.length) = some (dicT Rw.d true (hs ++ [r]) (idsD (hs.length + 1))) := by
        rw [setC_dic kc_rw _ _ _ _ (by rw [idsD_len]; exact Nat.lt_of_le_of_lt hl (by decide)), putT_new m, idsD_succ]
      have a1 : mAppend (hs.map Rw.d) [r.d] = some (.non, (hs ++ [r]).map Rw.d) := by
        rw [List.map_append]
        exact if_pos (by rw [List.length_map]; exact Nat.lt_of_le_of_lt hl (by decide))
      have len : opLen [.lst true (hs.map Rw.d)] = some (nD hs.length) := by
        show some (D.int ((hs.map Rw.d).length : Nat)) = _
        rw [List.length_map]; rfl
      have p1 := sAsg_of (lk := lkOf [tmI ops hs ht, r.d, .int h]) (ts := []) (d := nD hs.length) (f := n1L opLen (qCons (qAt ["Terms"] "its_heads" (qVar 0)) qNil)) (E := [some (tmI ops hs ht), some r.d, some (.int h)]) (g := gdPut (lnAt ["Terms"] "its_numbers" (lnVar 0)) (qVar 1)) rfl (n1L_of (qCons_of (qAtT rfl ix_h rfl) rfl) len) (gdPut_of (lnAt_of (l := lnVar 0) (lnVar_of rfl) (by simp) ix_n rfl) (x := r.d) rfl s1)
      have p2 := sExpr_of (eMtL_of (l := lnAt ["Terms"] "its_heads" (lnVar 0)) (op := mAppend) (g := qCons (qVar 1) qNil) (ds := [r.d]) (E := [some (.ins true "Terms" tFs [psD ops, .lst true (hs.map Rw.d), dicT Rw.d true (hs ++ [r]) (idsD (hs.length + 1)), .lst true (ht.map .int)]), some r.d, some (.int h)]) (lnAt_of (l := lnVar 0) (lnVar_of rfl) (by simp) ix_h rfl) rfl (by simp only [isFzL, fzr, Bool.and_true]) a1)
      have p3 := sExpr_of (eMtL_of (l := lnAt ["Terms"] "its_heights" (lnVar 0)) (op := mAppend) (g := qCons (qVar 2) qNil) (ds := [.int h]) (E := [some (.ins true "Terms" tFs [psD ops, .lst true ((hs ++ [r]).map Rw.d), dicT Rw.d true (hs ++ [r]) (idsD (hs.length + 1)), .lst true (ht.map .int)]), some r.d, some (.int h)]) (lnAt_of (l := lnVar 0) (lnVar_of rfl) (by simp) ix_g rfl) rfl rfl (app_int (f := ht) (k := h) (by omega)))
      refine sSeq_nx (E1 := [some (tmI ops (hs ++ [r]) (ht ++ [h])), some r.d, some (.int h)]) (sIf_t c ((sSeq_nx p1 (sSeq_nx p2 p3)).trans ?_)) (fin _ _ hix)
      unfold tmI
      rw [len2]
      rfl
  · show outsD [tmI ops hs ht, r.d, .int h] _ = _
    simp only [outsD, fzr, tmI_nz, isFz]
    rfl
end K31

namespace K31
open PySem Dm
theorem outsD_fz {d : D} {ds r : List D} {x : Option D} {E : Ev} (h : isFz d = true) (e : outsD ds E = some r) : outsD (d :: ds) (x :: E) = some (d :: r) := by
  unfold outsD
  rw [e]
  exact if_pos h
theorem outsD_nz {d d' : D} {ds r : List D} {E : Ev} (h : isFz d = false) (e : outsD ds E = some r) : outsD (d :: ds) (some d' :: E) = some (d' :: r) := by
  unfold outsD
  rw [e]
  show (if isFz d = true then some (d :: r) else some (d' :: r)) = _
  rw [h]
  rfl
theorem meth_num {E E1 E2 : Ev} {ops : List Op} {hs : List Rw} {ht : List Int} {fx : Ev → Option (List ArgV × Ev)} {r : Rw} {h : Int} {as : List ArgV} (hl : hs.length ≤ 500) (e : ht.length = hs.length) (h0 : E[0]? = some (some (tmI ops hs ht))) (hx : xSlot 0 fx E = some (as, E1)) (hg : gather as E1 = some ([tmI ops hs ht, r.d, .int h], E2)) :
    eMeth "Terms" "numbered" g_Terms_numbered 0 fx E = some (nD (ndI hs r), putBack as [tmI ops (ndG hs r) (htG hs ht r h), r.d, .int h] E2) :=
  (eMeth_of (o := true) h0 (by decide +kernel)).trans (eCall_of hx hg (numbered_ok hl e r h))
theorem letter_ok {ops : List Op} {hs : List Rw} {ht : List Int} (hl : hs.length ≤ 500) (e : ht.length = hs.length) (s : Str) : g_Terms_letter [tmI ops hs ht, .str s] = some (nD (ndI hs (.let s)), [tmI ops (ndG hs (.let s)) (htG hs ht (.let s) 0), .str s]) := by
  refine runD_of (E' := [some (tmI ops (ndG hs (.let s)) (htG hs ht (.let s) 0)), some (.str s)]) rfl (sRet_of ?_) rfl
  exact (meth_num (r := .let s) (h := 0) (as := [.inl 0, .inr (Rw.let s).d, .inr (.int 0)]) (E1 := [some (tmI ops hs ht), some (.str s)]) (E2 := [none, some (.str s)]) hl e rfl (xSlot_of rfl (xVal_of (eTup_two rfl rfl) (xVal_of rfl rfl))) rfl).trans rfl
theorem num_ok {ops : List Op} {hs : List Rw} {ht : List Int} (hl : hs.length ≤ 500) (e : ht.length = hs.length) (n : Int) : g_Terms_num [tmI ops hs ht, .int n] = some (nD (ndI hs (.num n)), [tmI ops (ndG hs (.num n)) (htG hs ht (.num n) 0), .int n]) := by
  refine runD_of (E' := [some (tmI ops (ndG hs (.num n)) (htG hs ht (.num n) 0)), some (.int n)]) rfl (sRet_of ?_) rfl
  exact (meth_num (r := .num n) (h := 0) (as := [.inl 0, .inr (Rw.num n).d, .inr (.int 0)]) (E1 := [some (tmI ops hs ht), some (.int n)]) (E2 := [none, some (.int n)]) hl e rfl (xSlot_of rfl (xVal_of (eTup_two rfl rfl) (xVal_of rfl rfl))) rfl).trans rfl
/-- the signs are as they should be -/
structure Sg (ops : List Op) : Prop where
  len : ops.length ≤ 1000
  nd : (ops.map (·.1)).Nodup
  ar : ∀ p ∈ ops, 1 ≤ p.2.1 ∧ p.2.1 ≤ 3 ∧ (p.2.2 = 1 → p.2.1 = 2) ∧ Good p.1
theorem nodup_fst : ∀ {ops : List Op} {p p' : Op}, (ops.map (·.1)).Nodup → p ∈ ops → p' ∈ ops → p.1 = p'.1 → p = p'
  | x :: ops, p, p', nd, m, m', e => by
    rw [List.map_cons] at nd
    have nd' := List.nodup_cons.mp nd
    rcases List.mem_cons.mp m with q | m
    · rcases List.mem_cons.mp m' with q' | m'
      · rw [q, q']
      · exact absurd (List.mem_map.mpr ⟨p', m', by rw [← e, q]⟩) nd'.1
    · rcases List.mem_cons.mp m' with q' | m'
      · exact absurd (List.mem_map.mpr ⟨p, m, by rw [e, q']⟩) nd'.1
      · exact nodup_fst nd'.2 m m' e
theorem swp_of {ops : List Op} (nd : (ops.map (·.1)).Nodup) {p : Op} (m : p ∈ ops) : swp ops p.1 = (p.2.2 == 1) := by
  unfold swp
  rw [Bool.eq_iff_iff, List.any_eq_true]
  constructor
  · rintro ⟨p', m', h⟩
    unfold swB at h
    rw [Bool.and_eq_true] at h
    have e : p' = p := nodup_fst nd m' m (by simpa using h.1)
    rw [← e]
    exact h.2
  · intro h
    exact ⟨p, m, by unfold swB; rw [Bool.and_eq_true]; exact ⟨by simp, h⟩⟩
theorem srN_two (a b : Nat) : srN [a, b] = if b < a then [b, a] else [a, b] := by
  have fin : ∀ l : List Nat, l.Perm [a, b] → (l.map fun (k : Nat) => (k : Int)).Pairwise (· ≤ ·) → srN [a, b] = l := fun l pm pw => by
    refine ints_injL ?_
    rw [srN_int, ← srI_eq (pm.map fun (k : Nat) => (k : Int)), srI_of_sorted pw]
  by_cases h : b < a
  · rw [if_pos h]
    refine fin [b, a] (List.Perm.swap a b []) ?_
    simp
    omega
  · rw [if_neg h]
    refine fin [a, b] (List.Perm.refl _) ?_
    simp
    omega
theorem max_ok (ns : List Int) (h : ns ≠ []) : ∃ m, opMax [.lst true (ns.map .int)] = some (.int m) := by
  show ∃ m, (match intsOf (ns.map D.int) with | some ns => (match ns.max? with | some m => some (D.int m) | none => none) | none => none) = some (.int m)
  rw [intsOf_map]
  show ∃ m, (match ns.max? with | some m => some (D.int m) | none => none) = some (.int m)
  cases e : ns.max? with
  | none => exact absurd (List.max?_eq_none_iff.mp e) h
  | some m => exact ⟨m, rfl⟩
theorem opT_ok {ops : List Op} (S : Sg ops) {hs : List Rw} {ht : List Int} (hl : hs.length ≤ 500) (e : ht.length = hs.length) {p : Op} (mp : p ∈ ops) {ps : List Nat} (pl : ps.length = p.2.1) (pk : ∀ k ∈ ps, k < hs.length) :
    ∃ h, g_Terms_op [tmI ops hs ht, .str p.1, .lst false (ps.map nD)] = some (nD (ndI hs (.op p.1 (srt (swp ops p.1) ps))), [tmI ops (ndG hs (.op p.1 (srt (swp ops p.1) ps))) (htG hs ht (.op p.1 (srt (swp ops p.1) ps)) h), .str p.1, .lst false (ps.map nD)]) := by
  obtain ⟨r1, r2, r3, _⟩ := S.ar p mp
  let ds : List D := [tmI ops hs ht, .str p.1, .lst false (ps.map nD)]
  let r : Rw := .op p.1 (srt (swp ops p.1) ps)
  have fl : isFz (.lst false (ps.map nD)) = true := by simp only [isFz, fz_nDs]; rfl
  have l2 : lkOf ds 2 = false := by show (!isFz (.lst false (ps.map nD))) = false; rw [fl]; rfl
  let E (d : D) (x3 : Option D) : Ev := [some (tmI ops hs ht), some (.str p.1), some d, x3, none]
  have p1 := sAsg_of (lk := lkOf ds) (ts := [2]) (g := gdName 2) (E2 := E (.tup (ps.map nD)) none) (by show (!lkOf ds 2 && true) = true; rw [l2]; rfl) (n1L_of (op := opTuple) (ds := [.lst false (ps.map nD)]) (g := qCons (qVar 2) qNil) (E := E (.lst false (ps.map nD)) none) rfl (opTuple_lst false (fz_nDs ps))) rfl
  have sg : q2f opIx (q2f opIx (qAt ["Terms"] "its_signs" (qVar 0)) (qVar 1)) (qC (.int 1)) (E (.tup (ps.map nD)) none) = some (.int p.2.2) := q2f_of (q2f_of (x := psD ops) (y := .str p.1) (qAtT rfl ix_s rfl) rfl (ps_get S.nd mp)) rfl rfl
  have p2 : (sIf (tOfQ (qAnd (tqf (q2f opEq (q2f opIx (q2f opIx (qAt ["Terms"] "its_signs" (qVar 0)) (qVar 1)) (qC (.int 1))) (qC (.int 1)))) (tqf (q2f opGt (q2f opIx (qVar 2) (qC (.int 0))) (q2f opIx (qVar 2) (qC (.int 1))))))) (sAsg (lkOf ds) [2] (eTup (eCons (eOf (q2f opIx (qVar 2) (qC (.int 1)))) (eCons (eOf (q2f opIx (qVar 2) (qC (.int 0)))) eNil))) (gdName 2)) sNil) (E (.tup (ps.map nD)) none)
      = some (.nx (E (.tup ((srt (swp ops p.1) ps).map nD)) none)) := by
    rw [swp_of S.nd mp]
    cases hsw : (p.2.2 == 1) with
    | false =>
      refine sIf_f (E1 := E (.tup (ps.map nD)) none) (tOfQ_of ?_) rfl
      exact (qAnd_of (a := false) (b := true) (tqf_of (q2f_of (y := .int 1) sg rfl (by rw [eq_int, hsw]))) fun q => (by cases q)).trans rfl
    | true =>
      have two : ps.length = 2 := by rw [pl]; exact r3 (by simpa using hsw)
      match ps, two with
      | [a, b], _ =>
        have t : tOfQ (qAnd (tqf (q2f opEq (q2f opIx (q2f opIx (qAt ["Terms"] "its_signs" (qVar 0)) (qVar 1)) (qC (.int 1))) (qC (.int 1)))) (tqf (q2f opGt (q2f opIx (qVar 2) (qC (.int 0))) (q2f opIx (qVar 2) (qC (.int 1)))))) (E (.tup ([a, b].map nD)) none) = some (decide (b < a), E (.tup ([a, b].map nD)) none) := by
          refine tOfQ_of ((qAnd_of (a := true) (b := decide (b < a)) (tqf_of (q2f_of (y := .int 1) sg rfl (by rw [eq_int, hsw]))) fun _ => tqf_of (q2f_of (op := opGt) (x := nD a) (y := nD b) rfl rfl ?_)).trans (by rw [Bool.true_and]))
          show some (D.bl (decide ((a : Int) > (b : Int)))) = _
          congr 2
          exact decide_eq_decide.mpr (by omega)
        show sIf _ _ _ _ = some (.nx (E (.tup ((srN [a, b]).map nD)) none))
        rw [srN_two]
        by_cases h : b < a
        · rw [decide_eq_true h] at t
          rw [if_pos h]
          exact sIf_t t (sAsg_of (by show (!lkOf ds 2 && true) = true; rw [l2]; rfl) (eTup_two rfl rfl) rfl)
        · rw [decide_eq_false h] at t
          rw [if_neg h]
          exact sIf_f t rfl
  let qs := srt (swp ops p.1) ps
  have qk : ∀ k ∈ qs, k < hs.length := fun k m => by
    have m' : k ∈ srt (swp ops p.1) ps := m
    unfold srt at m'
    split at m'
    · exact pk k ((srN_perm ps).mem_iff.mp m')
    · exact pk k m'
  have ql : qs.length = ps.length := by
    show (srt (swp ops p.1) ps).length = _
    unfold srt
    split
    · exact (srN_perm ps).length_eq
    · rfl
  have c := eCompQ_all (own := [4]) (i := 2) (g := gdName 4) (el := eOf (q2f opIx (qAt ["Terms"] "its_heights" (qVar 0)) (qVar 4))) nD (fun k => D.int (ht.getD k 0)) qs (E := E (.tup (qs.map nD)) none) (E' := E (.tup (qs.map nD)) none) rfl (.inr (.inr (.inl rfl))) fz_nD rfl rfl rfl rfl (by omega) fun k m =>
    ⟨[some (tmI ops hs ht), some (.str p.1), some (.tup (qs.map nD)), none, some (nD k)], [some (tmI ops hs ht), some (.str p.1), some (.tup (qs.map nD)), none, some (nD k)], rfl, eOf_of (q2f_of (x := .lst true (ht.map .int)) (y := nD k) (qAtT rfl ix_g rfl) rfl (ix_int (by rw [e]; exact qk k m) true)) rfl, rfl⟩
  have m1 : qs.map (fun k => D.int (ht.getD k 0)) = (atI ht qs).map .int := by unfold atI; rw [List.map_map]; rfl
  rw [m1] at c
  obtain ⟨m, hm⟩ := max_ok (atI ht qs) (fun z => by
    have : (atI ht qs).length = 0 := by rw [z]; rfl
    unfold atI at this
    rw [List.length_map, ql, pl] at this
    omega)
  have p3 := sAsg_of (lk := lkOf ds) (ts := [3]) (g := gdName 3) (d := .int (1 + m)) (E2 := E (.tup (qs.map nD)) (some (.int (1 + m)))) rfl (e2f_of (op := opAdd) (f := eOf (qC (.int 1))) (x := .int 1) (y := .int m) rfl (e1L_of (op := opMax) (g := eCons _ eNil) (eCons_of c rfl) hm) rfl) rfl
  have mr := meth_num (r := r) (h := 1 + m) (ops := ops) (as := [.inl 0, .inr r.d, .inl 3]) (E := E (.tup (qs.map nD)) (some (.int (1 + m)))) (E1 := E (.tup (qs.map nD)) (some (.int (1 + m)))) (E2 := [none, some (.str p.1), some (.tup (qs.map nD)), some (.int (1 + m)), none]) hl e rfl
    (xSlot_of rfl (xVal_of (eTup_of (eCons_of (f := eOf (qC (.str "op"))) rfl (eCons_of (f := eVar 1) rfl (eCons_of (f := eVar 2) (g := eNil) (eVar_fz rfl (by simp only [isFz, fz_nDs])) rfl))) (by simp)) (xSlot_of (g := xNil) rfl rfl))) rfl
  refine ⟨1 + m, runD_of (E' := [some (tmI ops (ndG hs r) (htG hs ht r (1 + m))), some (.str p.1), some (.tup (qs.map nD)), some (.int (1 + m)), none]) rfl ?_ ?_⟩
  · exact sSeq_nx p1 (sSeq_nx p2 (sSeq_nx p3 (sRet_of (mr.trans rfl))))
  · show outsD [tmI ops hs ht, .str p.1, .lst false (ps.map nD)] _ = _
    exact outsD_nz rfl (outsD_fz rfl (outsD_fz fl rfl))
end K31

namespace K31
open PySem Dm
/-! ### rows are put into terms -/
def OkS (ops : List Op) : Rw → Prop
  | .op o ks => ∃ p ∈ ops, p.1 = o ∧ ks.length = p.2.1
  | _ => True
structure Rows (ops : List Op) (rows : List Rw) : Prop where
  ok : Okrs rows
  sg : ∀ r ∈ rows, OkS ops r
theorem ndI_lt (g : List Rw) (r : Rw) : ndI g r < (ndG g r).length := ixOf_lt (ndI_ix g r)
theorem ndG_mono (g : List Rw) (r : Rw) : g.length ≤ (ndG g r).length := by
  unfold ndG
  split
  · exact Nat.le_refl _
  · rw [List.length_append]; exact Nat.le_add_right _ _
theorem ats_lt {f ks : List Nat} {n : Nat} (hf : ∀ k ∈ f, k < n) (hk : ∀ k ∈ ks, k < f.length) : ∀ k ∈ ats f ks, k < n := fun k m => by
  unfold ats at m
  obtain ⟨j, mj, rfl⟩ := List.mem_map.mp m
  have hj := hk j mj
  rw [List.getD_eq_getElem?_getD, List.getElem?_eq_getElem hj]
  exact hf _ (List.getElem_mem hj)
theorem put_ok {ops : List Op} (S : Sg ops) {rows : List Rw} (V : Rows ops rows) {hs : List Rw} {ht : List Int} (hl : hs.length + rows.length ≤ 400) (e : ht.length = hs.length) :
    ∃ ht', ht'.length = (nodesT ops rows hs []).1.length ∧ g_put_rows [tmI ops hs ht, .tup (rows.map Rw.d)] = some (.lst true ((nodesT ops rows hs []).2.map nD), [tmI ops (nodesT ops rows hs []).1 ht', .tup (rows.map Rw.d)]) := by
  let R : D := .tup (rows.map Rw.d)
  have hR : isFz R = true := rwD rows
  let ds : List D := [tmI ops hs ht, R]
  let E (hs : List Rw) (ht : List Int) (f : List Nat) (x3 x4 : Option D) : Ev := [some (tmI ops hs ht), some R, some (.lst true (f.map nD)), x3, x4]
  have loop : ∃ ht' x3 x4, ht'.length = (nodesT ops rows hs []).1.length ∧ forL (gdName 3) (l_put_rows_1 (lkP (lkOf ds) 1)) (rows.map Rw.d) (E hs ht [] none none) = some (.nx (E (nodesT ops rows hs []).1 ht' (nodesT ops rows hs []).2 x3 x4)) := by
    refine forL_typed Rw.d (fun rest F => ∃ dn hs1 f ht1 x3, rows = dn ++ rest ∧ f.length = dn.length ∧ hs1.length ≤ hs.length + dn.length ∧ (∀ k ∈ f, k < hs1.length) ∧ ht1.length = hs1.length ∧ nodesT ops rest hs1 f = nodesT ops rows hs [] ∧ F = E hs1 ht1 f x3 none)
      (fun o => ∃ ht' x3 x4, ht'.length = (nodesT ops rows hs []).1.length ∧ o = some (.nx (E (nodesT ops rows hs []).1 ht' (nodesT ops rows hs []).2 x3 x4))) ?_ ?_ rows _ ⟨[], hs, [], ht, none, rfl, rfl, Nat.le_refl _, fun _ m => (by cases m), e, rfl, rfl⟩
    · rintro r rest F ⟨dn, h1, f, t1, x3, hr, hf, hh, hlt, he, hn, rfl⟩
      have lenR : dn.length + 1 ≤ rows.length := by rw [hr, List.length_append, List.length_cons]; omega
      have okr := V.ok.2 dn.length r (by rw [hr, List.getElem?_append_right (Nat.le_refl _), Nat.sub_self]; rfl)
      have oks := V.sg r (by rw [hr]; simp)
      have h500 : h1.length ≤ 500 := by omega
      have goal : ∃ h, l_put_rows_1 (lkP (lkOf ds) 1) (E h1 t1 f (some r.d) none) = some (.nx (E (ndG h1 (keyOf ops f r)) (htG h1 t1 (keyOf ops f r) h) (f ++ [ndI h1 (keyOf ops f r)]) (some r.d) none)) := by
        have fin : ∀ (fe : Ev → Option (D × Ev)) (κ : Rw) (h : Int), fe (E h1 t1 f (some r.d) none) = some (nD (ndI h1 κ), E (ndG h1 κ) (htG h1 t1 κ h) f (some r.d) none) →
            sExpr (eMt 2 mAppend (eCons fe eNil)) (E h1 t1 f (some r.d) none) = some (.nx (E (ndG h1 κ) (htG h1 t1 κ h) (f ++ [ndI h1 κ]) (some r.d) none)) := fun fe κ h z =>
          sExpr_of (d := .non) (eMt_of (i := 2) (op := mAppend) (E1 := E (ndG h1 κ) (htG h1 t1 κ h) f (some r.d) none) rfl (eCons_of z rfl) rfl (append_nD (f := f) (by omega)))
        cases r with
        | «let» s =>
          refine ⟨0, sIf_t (E1 := E h1 t1 f (some (Rw.let s).d) none) rfl (fin _ (.let s) 0 ?_)⟩
          refine (eMeth_of (o := true) rfl (by decide +kernel)).trans ?_
          exact (eCall_of (as := [.inl 0, .inr (.str s)]) (E1 := E h1 t1 f (some (Rw.let s).d) none) (E2 := [none, some R, some (.lst true (f.map nD)), some (Rw.let s).d, none]) rfl rfl (letter_ok h500 he s)).trans rfl
        | num n =>
          refine ⟨0, sIf_f (E1 := E h1 t1 f (some (Rw.num n).d) none) rfl (sIf_t (E1 := E h1 t1 f (some (Rw.num n).d) none) rfl (fin _ (.num n) 0 ?_))⟩
          refine (eMeth_of (o := true) rfl (by decide +kernel)).trans ?_
          exact (eCall_of (as := [.inl 0, .inr (.int n)]) (E1 := E h1 t1 f (some (Rw.num n).d) none) (E2 := [none, some R, some (.lst true (f.map nD)), some (Rw.num n).d, none]) rfl rfl (num_ok h500 he n)).trans rfl
        | op o ks =>
          obtain ⟨p, mp, rfl, hk⟩ := oks
          have kf : ∀ k ∈ ks, k < f.length := fun k m => by rw [hf]; exact okr.2 k m
          have pc := parts_comp (E := E h1 t1 f (some (Rw.op p.1 ks).d) none) (E0 := []) (own := 0) (kx := 4) (fx := 2) (rx := 3) (o := p.1) (f := f) (ks := ks) kf okr.1 rfl rfl rfl (fun _ => rfl) (fun _ => rfl) (fun _ => rfl) (fun _ => rfl)
          obtain ⟨h, q⟩ := opT_ok S h500 he mp (ps := ats f ks) (by unfold ats; rw [List.length_map]; exact hk) (ats_lt hlt kf)
          refine ⟨h, sIf_f (E1 := E h1 t1 f (some (Rw.op p.1 ks).d) none) rfl (sIf_f (E1 := E h1 t1 f (some (Rw.op p.1 ks).d) none) rfl (fin _ (.op p.1 (srt (swp ops p.1) (ats f ks))) h ?_))⟩
          refine (eMeth_of (o := true) rfl (by decide +kernel)).trans ?_
          have xv := xValF_of (g := xNil) pc rfl
          rw [show froz (D.lst true ((ats f ks).map nD)) = .lst false ((ats f ks).map nD) by show D.lst false (frozL _) = _; rw [frozL_mapT nD fz_nD]] at xv
          exact (eCall_of (as := [.inl 0, .inr (.str p.1), .inr (.lst false ((ats f ks).map nD))]) (E1 := E h1 t1 f (some (Rw.op p.1 ks).d) none) (E2 := [none, some R, some (.lst true (f.map nD)), some (Rw.op p.1 ks).d, none]) (xSlot_of rfl (xVal_of (d := .str p.1) rfl xv)) rfl q).trans rfl
      obtain ⟨h, goal⟩ := goal
      refine ⟨E h1 t1 f (some r.d) none, rfl, .inl ⟨_, goal, dn ++ [r], ndG h1 (keyOf ops f r), f ++ [ndI h1 (keyOf ops f r)], htG h1 t1 (keyOf ops f r) h, _, by rw [hr]; simp, by rw [List.length_append, List.length_append, hf]; rfl, ?_, fun k m => ?_, htG_len he _ _, hn, rfl⟩⟩
      · have := ndG_len h1 (keyOf ops f r)
        rw [List.length_append]
        simp
        omega
      · rcases List.mem_append.mp m with m | m
        · exact Nat.lt_of_lt_of_le (hlt k m) (ndG_mono _ _)
        · rw [List.mem_singleton.mp m]; exact ndI_lt _ _
    · rintro F ⟨dn, h1, f, t1, x3, hr, hf, hh, hlt, he, hn, rfl⟩
      have z : nodesT ops [] h1 f = (h1, f) := rfl
      rw [z] at hn
      exact ⟨t1, x3, none, by rw [← hn]; exact he, by rw [← hn]⟩
  obtain ⟨ht', x3, x4, hl', loop⟩ := loop
  refine ⟨ht', hl', runD_of (E' := [some (tmI ops (nodesT ops rows hs []).1 ht'), some R, none, x3, x4]) rfl ?_ (outsD_nz rfl (outsD_fz hR rfl))⟩
  show b_put_rows (lkOf ds) [some (tmI ops hs ht), some R, none, none, none] = _
  unfold b_put_rows
  exact sSeq_nx (E1 := E hs ht [] none none) rfl (sSeq_nx (E1 := E (nodesT ops rows hs []).1 ht' (nodesT ops rows hs []).2 x3 x4) ((sForQ_tup Rw.fz rfl rfl).trans loop) rfl)
end K31

namespace K31
open PySem Dm
/-! ### rows are rows -/
theorem isi_tup (xs : List D) : opIsi [.tup xs, .ty "tuple"] = some (.bl true) := by
  show (if "tuple" ∈ tyNames then some (D.bl (isiN "tuple" "tuple")) else none) = _
  rw [if_pos (by decide +kernel)]
  rfl
theorem isi_str (x : Str) : opIsi [.str x, .ty "str"] = some (.bl true) := by
  show (if "str" ∈ tyNames then some (D.bl (isiN "str" "str")) else none) = _
  rw [if_pos (by decide +kernel)]
  rfl
theorem isi_int (i : Int) : opIsi [.int i, .ty "int"] = some (.bl true) := by
  show (if "int" ∈ tyNames then some (D.bl (isiN "int" "int")) else none) = _
  rw [if_pos (by decide +kernel)]
  rfl
theorem isi_bool (i : Int) : opIsi [.int i, .ty "bool"] = some (.bl false) := by
  show (if "bool" ∈ tyNames then some (D.bl (isiN "int" "bool")) else none) = _
  rw [if_pos (by decide +kernel), show isiN "int" "bool" = false by decide +kernel]
theorem is_integer_ok (n : Int) : g_is_integer [.int n] = some (.bl true, [.int n]) := by
  refine runD_same [] rfl (sRet_of (eOf_of ?_ rfl))
  exact (qvAnd_of (a := true) (b := true) (q1L_of (ds := [.int n, .ty "int"]) rfl (isi_int n)) fun _ => (by
    have z := q1L_of (op := opIsi) (g := qCons (qVar 0) (qCons (qC (.ty "bool")) qNil)) (E := [some (.int n)]) (ds := [.int n, .ty "bool"]) rfl (isi_bool n)
    show qvNot (q1L opIsi (qCons (qVar 0) (qCons (qC (.ty "bool")) qNil))) [some (.int n)] = _
    unfold qvNot
    rw [z]
    rfl))
theorem lt_int (i j : Int) : opLt (.int i) (.int j) = some (.bl (decide (i < j))) := rfl
theorem le_int (i j : Int) : opLe (.int i) (.int j) = some (.bl (decide (i ≤ j))) := rfl
theorem ne_int (x y : Int) : opNe (.int x) (.int y) = some (.bl (!(x == y))) := rfl
theorem ne_strF (a : Str) : opNe (.str a) (.str a) = some (.bl false) := by show some (D.bl (!(a == a))) = _; rw [beq_self_eq_true]; rfl
theorem qOr_FF {f g : Ev → Option Bool} {E : Ev} (h : f E = some false) (h2 : g E = some false) : qOr f g E = some false := (qOr_of h fun _ => h2).trans rfl
theorem all_true {α : Type} (l : List α) : opAll [.lst true (l.map fun _ => D.bl true)] = some (.bl true) := by
  have e : (l.map fun _ => D.bl true) = (l.map fun _ => true).map D.bl := by rw [List.map_map]; rfl
  show (match blsOf (l.map fun _ => D.bl true) with | some bs => some (D.bl (bs.all id)) | none => none) = _
  rw [e, blsOf_map]
  show some (D.bl ((l.map fun _ => true).all id)) = _
  congr 2
  rw [List.all_eq_true]
  intro x m
  obtain ⟨_, _, rfl⟩ := List.mem_map.mp m
  rfl
theorem is_row_ok {ops : List Op} (S : Sg ops) {i : Nat} {r : Rw} (k : Okr i r) (s : OkS ops r) : g_is_row [psD ops, r.d, .int (i : Nat)] = some (.bl true, [psD ops, r.d, .int (i : Nat)]) := by
  let E : Ev := [some (psD ops), some r.d, some (.int (i : Nat)), none]
  have fin : ∀ {x : Option (Out)}, b_is_row (lkOf [psD ops, r.d, .int (i : Nat)]) E = some (.ret (.bl true) E) → g_is_row [psD ops, r.d, .int (i : Nat)] = some (.bl true, [psD ops, r.d, .int (i : Nat)]) := fun h => runD_same [none] rfl h
  refine fin (x := none) ?_
  have first : ∀ (x : Str) (xs : List D), r.d = .tup (.str x :: xs) → 1 ≤ xs.length → tOfQ (qOr (qNot (tqf (q1L opIsi (qCons (qVar 1) (qCons (qC (.ty "tuple")) qNil))))) (qOr (tqf (q2f opLt (q1L opLen (qCons (qVar 1) qNil)) (qC (.int 2)))) (qNot (tqf (q1L opIsi (qCons (q2f opIx (qVar 1) (qC (.int 0))) (qCons (qC (.ty "str")) qNil))))))) E = some (false, E) := fun x xs e l => by
    have v1 : qVar 1 E = some (.tup (.str x :: xs)) := by rw [← e]; rfl
    refine tOfQ_of (qOr_FF (qNot_of (b := true) (tqf_of (q1L_of (qCons_of v1 (qCons_of (f := qC (.ty "tuple")) rfl rfl)) (isi_tup _)))) (qOr_FF (tqf_of (q2f_of (x := .int ((.str x :: xs).length : Nat)) (y := .int 2) (q1L_of (qCons_of v1 rfl) rfl) rfl ?_)) (qNot_of (b := true) (tqf_of (q1L_of (ds := [.str x, .ty "str"]) (qCons_of (q2f_of v1 rfl (by show L2.atI (.str x :: xs) ((0 : Nat) : Int) = _; exact L2.atI_nat rfl)) rfl) (isi_str x))))))
    rw [lt_int, decide_eq_false (by rw [List.length_cons]; omega)]
  cases r with
  | «let» t =>
    refine sSeq_nx (sIf_f (first _ [.str t] rfl (Nat.le_refl _)) rfl) (sSeq_ret (sIf_t (E1 := E) rfl (sRet_of (eOf_of ?_ rfl))))
    exact (qvAnd_of (a := true) (b := true) rfl fun _ => q1L_of (ds := [.str t, .ty "str"]) rfl (isi_str t))
  | num n =>
    refine sSeq_nx (sIf_f (first _ [.int n] rfl (Nat.le_refl _)) rfl) (sSeq_nx (E1 := E) (sIf_f (E1 := E) rfl rfl) (sSeq_ret (sIf_t (E1 := E) rfl (sRet_of ?_))))
    exact (evAnd_of (a := true) (b := true) (E1 := E) rfl fun _ => eCall_same (as := [.inr (.int n)]) rfl (.val .nil) (by simp [slotsA]) (is_integer_ok n))
  | op o ks =>
    obtain ⟨p, mp, rfl, hk⟩ := s
    refine sSeq_nx (sIf_f (first _ [.str p.1, .tup (ks.map nD)] rfl (by simp)) rfl) (sSeq_nx (E1 := E) (sIf_f (E1 := E) rfl rfl) (sSeq_nx (E1 := E) (sIf_f (E1 := E) rfl rfl) (sSeq_nx (E1 := E) (sIf_f (E1 := E) ?_ rfl) (sSeq_nx (E1 := E) (sIf_f (E1 := E) ?_ rfl) (sRet_of ?_)))))
    · exact tOfQ_of (qOr_FF (tqf_of (q2f_of (x := .str "op") (y := .str "op") rfl rfl (ne_strF _))) (qOr_FF (tqf_of (q2f_of (x := .int 3) (y := .int 3) rfl rfl rfl)) (qOr_FF (qNot_of (b := true) (tqf_of (q1L_of (ds := [.str p.1, .ty "str"]) rfl (isi_str _)))) (tqf_of (q2f_of (x := .str p.1) (y := psD ops) rfl rfl (ps_in mp))))))
    · refine tOfQ_of (qOr_FF (qNot_of (b := true) (tqf_of (q1L_of (ds := [.tup (ks.map nD), .ty "tuple"]) rfl (isi_tup _)))) (tqf_of (q2f_of (x := .int ((ks.map nD).length : Nat)) (y := .int (p.2.1 : Nat)) rfl (q2f_of (x := .tup [.int (p.2.1 : Nat), .int p.2.2]) (q2f_of (x := psD ops) (y := .str p.1) rfl rfl (ps_get S.nd mp)) rfl rfl) ?_)))
      rw [ne_int, List.length_map, hk]
      simp
    · have c := eComp_all (own := [3]) (g := gdName 3) (el := evAnd (eCall g_is_integer (xSlot 3 xNil)) (eOf (qCh opLe opLt (qC (.int 0)) (qVar 3) (qVar 2)))) nD (fun _ => D.bl true) ks (E := E) (E' := E) (iSeq_ks (rx := 1) rfl) rfl rfl rfl (Nat.le_trans k.1 (by decide)) fun j m => by
        let F : Ev := [some (psD ops), some (Rw.op p.1 ks).d, some (.int (i : Nat)), some (nD j)]
        refine ⟨F, F, rfl, ?_, rfl⟩
        refine (evAnd_of (a := true) (b := true) (E1 := F) (eCall_same (as := [.inl 3]) rfl (.slot rfl .nil) (by simp [slotsA]) (is_integer_ok (j : Nat))) fun _ => eOf_of ?_ rfl)
        have h1 : opLe (.int 0) (nD j) = some (.bl true) := by
          show some (D.bl (decide ((0 : Int) ≤ (j : Nat)))) = _
          rw [decide_eq_true (by omega)]
        have h2 : opLt (nD j) (.int (i : Nat)) = some (.bl true) := by
          show some (D.bl (decide (((j : Nat) : Int) < (i : Nat)))) = _
          have := k.2 j m
          rw [decide_eq_true (by omega)]
        unfold qCh
        show (match opLe (.int 0) (nD j) with | some (.bl true) => (match qVar 2 F with | some z => opLt (nD j) z | none => none) | some (.bl false) => some (D.bl false) | _ => none) = _
        rw [h1]
        exact h2
      exact e1L_of (op := opAll) (g := eCons _ eNil) (eCons_of c rfl) (all_true ks)
/-- all rows of an enumeration are its own -/
theorem enumT_mem {α : Type} : ∀ (l : List α) (k : Nat) (p : Int × α), p ∈ enumT (k : Int) l → ∃ i, p.1 = ((k + i : Nat) : Int) ∧ l[i]? = some p.2
  | [], _, _, m => by cases m
  | x :: l, k, p, m => by
    unfold enumT at m
    rcases List.mem_cons.mp m with e | m
    · subst e
      exact ⟨0, rfl, rfl⟩
    · obtain ⟨i, h1, h2⟩ := enumT_mem l (k + 1) p m
      exact ⟨i + 1, by rw [h1]; congr 1; omega, h2⟩
theorem is_rows_ok {ops : List Op} (S : Sg ops) {q : D} (hq : isFz q = true) {rows : List Rw} (V : Rows ops rows) (ne : rows ≠ []) : g_is_rows [sgD ops q, .tup (rows.map Rw.d)] = some (.bl true, [sgD ops q, .tup (rows.map Rw.d)]) := by
  have hz := fz_sgD (ops := ops) hq
  let R : D := .tup (rows.map Rw.d)
  have hR : isFz R = true := rwD rows
  let E (x2 : Option D) : Ev := [some (sgD ops q), some R, x2, none, none]
  have c1 : tOfQ (qOr (qNot (tqf (q1L opIsi (qCons (qVar 1) (qCons (qC (.ty "tuple")) qNil))))) (tqf (q2f opEq (q1L opLen (qCons (qVar 1) qNil)) (qC (.int 0))))) (E none) = some (false, E none) := by
    refine tOfQ_of (qOr_FF (qNot_of (b := true) (tqf_of (q1L_of (ds := [R, .ty "tuple"]) rfl (isi_tup _)))) (tqf_of (q2f_of (x := .int ((rows.map Rw.d).length : Nat)) (y := .int 0) rfl rfl ?_)))
    rw [eq_int, List.length_map]
    congr 2
    have : rows.length ≠ 0 := fun z => ne (List.eq_nil_of_length_eq_zero z)
    exact beq_eq_false_iff_ne.mpr (by omega)
  have c2 : eCall g_parts_of_signs (xSlot 0 xNil) (E none) = some (psD ops, E none) := eCall_same (as := [.inl 0]) rfl (.slot rfl .nil) (by simp [slotsA]) (parts_of_signs_ok S.len)
  have it : iEnum (eCons (eVar 1) eNil) (E (some (psD ops))) = some ((enumT 0 rows).map egD, E (some (psD ops))) := by
    unfold iEnum
    rw [eCons_of (f := eVar 1) (eVar_fz rfl hR) (rfl : eNil (E (some (psD ops))) = some ([], _))]
    show some (enumD 0 (frozL (rows.map Rw.d)), _) = _
    rw [frozL_mapT Rw.d Rw.fz, enumD_map]
    rfl
  have c3 := eComp_all (own := [3, 4]) (g := gdTup 2 (gdCons (gdName 3) (gdCons (gdName 4) gdNil))) (el := eCall g_is_row (xSlot 2 (xSlot 4 (xSlot 3 xNil)))) egD (fun _ => D.bl true) (enumT 0 rows) (E := E (some (psD ops))) (E' := E (some (psD ops))) it rfl rfl rfl (by rw [enumT_length]; exact Nat.le_trans V.ok.1 (by decide)) fun p m => by
    obtain ⟨i, h1, h2⟩ := enumT_mem rows 0 p m
    rw [Nat.zero_add] at h1
    let F : Ev := [some (sgD ops q), some R, some (psD ops), some (.int p.1), some p.2.d]
    refine ⟨F, F, rfl, ?_, rfl⟩
    have z := is_row_ok S (V.ok.2 i p.2 h2) (V.sg p.2 (List.mem_of_getElem? h2))
    rw [← h1] at z
    exact eCall_same (as := [.inl 2, .inl 4, .inl 3]) rfl (.slot rfl (.slot rfl (.slot rfl .nil))) (by simp [slotsA]) z
  refine runD_same [some (psD ops), none, none] rfl ?_
  show b_is_rows (lkOf [sgD ops q, R]) (E none) = _
  exact sSeq_nx (E1 := E none) (sIf_f c1 rfl) (sSeq_nx (E1 := E (some (psD ops))) (sAsg_of rfl c2 rfl) (sRet_of (e1L_of (op := opAll) (g := eCons _ eNil) (eCons_of c3 rfl) (all_true _))))
theorem need_ok {ops : List Op} (S : Sg ops) {q : D} (hq : isFz q = true) {rows : List Rw} (V : Rows ops rows) (ne : rows ≠ []) : g_need_rows [sgD ops q, .tup (rows.map Rw.d)] = some (.non, [sgD ops q, .tup (rows.map Rw.d)]) := by
  have hz := fz_sgD (ops := ops) hq
  have hR := rwD rows
  refine runD_nx (E' := [some (sgD ops q), some (.tup (rows.map Rw.d))]) rfl ?_ (outsD_fz hz (outsD_fz hR rfl))
  exact sIf_f (E1 := [some (sgD ops q), some (.tup (rows.map Rw.d))]) (dNot_of (tdf_of (eCall_same (as := [.inl 0, .inl 1]) rfl (.slot rfl (.slot rfl .nil)) (by simp [slotsA]) (is_rows_ok S hq V ne)))) rfl
end K31

namespace K31
open PySem Dm
/-! ### same -/
theorem nodesT_len (ops : List Op) : ∀ (rows g : List Rw) (f : List Nat), (nodesT ops rows g f).2.length = f.length + rows.length
  | [], _, _ => rfl
  | r :: rs, g, f => by
    show (nodesT ops rs _ _).2.length = _
    rw [nodesT_len ops rs, List.length_append, List.length_cons]
    simp
    omega
theorem nodesT_glen (ops : List Op) : ∀ (rows g : List Rw) (f : List Nat), (nodesT ops rows g f).1.length ≤ g.length + rows.length
  | [], _, _ => Nat.le_refl _
  | r :: rs, g, f => by
    show (nodesT ops rs _ _).1.length ≤ _
    have h1 := nodesT_glen ops rs (ndG g (keyOf ops f r)) (f ++ [ndI g (keyOf ops f r)])
    have h2 := ndG_len g (keyOf ops f r)
    rw [List.length_cons]
    omega
def lastN (f : List Nat) : Nat := f.getD (f.length - 1) 0
theorem last_nD {f : List Nat} (h : f ≠ []) : opIxF (.lst true (f.map nD)) (.int (-1)) = some (nD (lastN f)) := by
  have e : opIx (.lst true (f.map nD)) (.int (-1)) = some (nD (lastN f)) := by
    rcases List.eq_nil_or_concat f with z | ⟨l, x, z⟩
    · exact absurd z h
    · rw [List.concat_eq_append] at z
      subst z
      show L2.atI ((l ++ [x]).map nD) (-1) = _
      rw [List.map_append]
      refine (L2.atI_last _ _).trans ?_
      unfold lastN
      rw [List.length_append, List.length_singleton, Nat.add_sub_cancel, List.getD_eq_getElem?_getD, List.getElem?_append_right (Nat.le_refl _), Nat.sub_self]
      rfl
  unfold opIxF
  rw [e]
  rfl
theorem same_ok {ops : List Op} (S : Sg ops) {q : D} (hq : isFz q = true) {one other : List Rw} (V1 : Rows ops one) (V2 : Rows ops other) (n1 : one ≠ []) (n2 : other ≠ []) :
    g_same [sgD ops q, .tup (one.map Rw.d), .tup (other.map Rw.d)] = some (.bl (lastN (nodesT ops one [] []).2 == lastN (nodesT ops other (nodesT ops one [] []).1 []).2), [sgD ops q, .tup (one.map Rw.d), .tup (other.map Rw.d)]) := by
  have hz := fz_sgD (ops := ops) hq
  let A : D := .tup (one.map Rw.d)
  let B : D := .tup (other.map Rw.d)
  have hA : isFz A = true := rwD one
  have hB : isFz B = true := rwD other
  have l1 := V1.ok.1
  have l2 := V2.ok.1
  let E (x : Option D) : Ev := [some (sgD ops q), some A, some B, x]
  have c1 : eCall g_need_rows (xSlot 0 (xSlot 1 xNil)) (E none) = some (.non, E none) := eCall_same (as := [.inl 0, .inl 1]) rfl (.slot rfl (.slot rfl .nil)) (by simp [slotsA]) (need_ok S hq V1 n1)
  have c2 : eCall g_need_rows (xSlot 0 (xSlot 2 xNil)) (E none) = some (.non, E none) := eCall_same (as := [.inl 0, .inl 2]) rfl (.slot rfl (.slot rfl .nil)) (by simp [slotsA]) (need_ok S hq V2 n2)
  have mk : eMake "Terms" g_Terms___init__ (xSlot 0 xNil) (E none) = some (tmI ops [] [], E none) :=
    (eMake_of (as := [.inl 0]) (E1 := E none) (E2 := E none) (ds := [sgD ops q]) (os := [sgD ops q]) rfl (by simp [gather, E, hz]) (init_t S.len hq)).trans rfl
  obtain ⟨t1, tl1, p1⟩ := put_ok S V1 (hs := []) (ht := []) (by simp; omega) rfl
  have gl := nodesT_glen ops one [] []
  obtain ⟨t2, tl2, p2⟩ := put_ok S V2 (hs := (nodesT ops one [] []).1) (ht := t1) (by simp at gl; omega) tl1
  have pc1 : eCall g_put_rows (xSlot 3 (xSlot 1 xNil)) (E (some (tmI ops [] []))) = some (.lst true ((nodesT ops one [] []).2.map nD), E (some (tmI ops (nodesT ops one [] []).1 t1))) :=
    (eCall_of (as := [.inl 3, .inl 1]) (E1 := E (some (tmI ops [] []))) (E2 := E none) rfl (by simp [gather, E, hA, tmI_nz]; rfl) p1).trans rfl
  have pc2 : eCall g_put_rows (xSlot 3 (xSlot 2 xNil)) (E (some (tmI ops (nodesT ops one [] []).1 t1))) = some (.lst true ((nodesT ops other (nodesT ops one [] []).1 []).2.map nD), E (some (tmI ops (nodesT ops other (nodesT ops one [] []).1 []).1 t2))) :=
    (eCall_of (as := [.inl 3, .inl 2]) (E1 := E (some (tmI ops (nodesT ops one [] []).1 t1))) (E2 := E none) rfl (by simp [gather, E, hB, tmI_nz]; rfl) p2).trans rfl
  have ne1 : (nodesT ops one [] []).2 ≠ [] := fun z => n1 (List.eq_nil_of_length_eq_zero (by have := nodesT_len ops one [] []; rw [z] at this; simp only [List.length_nil, Nat.zero_add] at this; exact this.symm))
  have ne2 : (nodesT ops other (nodesT ops one [] []).1 []).2 ≠ [] := fun z => n2 (List.eq_nil_of_length_eq_zero (by have := nodesT_len ops other (nodesT ops one [] []).1 []; rw [z] at this; simp only [List.length_nil, Nat.zero_add] at this; exact this.symm))
  have r1 := e2f_of (op := opIxF) (g := eOf (q1f opNeg (qC (.int 1)))) (y := .int (-1)) pc1 rfl (last_nD ne1)
  have r2 := e2f_of (op := opIxF) (g := eOf (q1f opNeg (qC (.int 1)))) (y := .int (-1)) pc2 rfl (last_nD ne2)
  refine runD_of (E' := E (some (tmI ops (nodesT ops other (nodesT ops one [] []).1 []).1 t2))) rfl ?_ (outsD_fz hz (outsD_fz hA (outsD_fz hB rfl)))
  refine sSeq_nx (sExpr_of c1) (sSeq_nx (sExpr_of c2) (sSeq_nx (E1 := E (some (tmI ops [] []))) (sAsg_of rfl mk rfl) (sRet_of (e2f_of r1 r2 ?_))))
  show some (D.bl (((lastN (nodesT ops one [] []).2 : Nat) : Int) == ((lastN (nodesT ops other (nodesT ops one [] []).1 []).2 : Nat) : Int))) = _
  congr 2
  rw [Bool.eq_iff_iff, beq_iff_eq, beq_iff_eq]
  omega
end K31

namespace K31
open PySem Dm
/-! ### numberings: plain -/
theorem srN_idem (ps : List Nat) : srN (srN ps) = srN ps := srN_eq (srN_perm ps)
theorem srt_perm (b : Bool) (ps : List Nat) : (srt b ps).Perm ps := by
  unfold srt
  split
  · exact srN_perm ps
  · exact List.Perm.refl _
theorem srt_idem (b : Bool) (ps : List Nat) : srt b (srt b ps) = srt b ps := by
  unfold srt
  cases b
  · rfl
  · exact srN_idem ps
theorem srt_ats (b : Bool) (P ps : List Nat) : srt b (ats P (srt b ps)) = srt b (ats P ps) := by
  unfold srt
  cases b
  · rfl
  · exact srN_eq ((srN_perm ps).map _)
theorem nodup_at {α : Type} {P : List α} (nd : P.Nodup) {i j : Nat} {x : α} (hi : P[i]? = some x) (hj : P[j]? = some x) : i = j := by
  obtain ⟨li, ei⟩ := List.getElem?_eq_some_iff.mp hi
  obtain ⟨lj, ej⟩ := List.getElem?_eq_some_iff.mp hj
  have h := List.pairwise_iff_getElem.mp nd
  refine Classical.byContradiction fun n => ?_
  rcases Nat.lt_or_gt_of_ne n with q | q
  · exact h i j li lj q (ei.trans ej.symm)
  · exact h j i lj li q (ej.trans ei.symm)
def inv (P : List Nat) (x : Nat) : Nat := (ixOf P x).getD 0
theorem inv_get {P : List Nat} (nd : P.Nodup) {k : Nat} (h : k < P.length) : inv P (P.getD k 0) = k := by
  have e : P.getD k 0 = P[k] := by rw [List.getD_eq_getElem?_getD, List.getElem?_eq_getElem h]; rfl
  obtain ⟨j, ej⟩ := ixOf_mem (List.getElem_mem h)
  have hj := ixOf_lt ej
  have g := ixOf_some ej
  have : j = k := nodup_at nd g (List.getElem?_eq_getElem h)
  unfold inv
  rw [e, ej, this]
  rfl
theorem inv_ats {P : List Nat} (nd : P.Nodup) {ps : List Nat} (h : ∀ k ∈ ps, k < P.length) : (ats P ps).map (inv P) = ps := by
  unfold ats
  rw [List.map_map]
  exact (List.map_congr_left (g := id) fun k m => inv_get nd (h k m)).trans (List.map_id _)
theorem srt_inj {P : List Nat} (nd : P.Nodup) {b : Bool} {ps qs : List Nat} (hp : ∀ k ∈ ps, k < P.length) (hq : ∀ k ∈ qs, k < P.length) (np : srt b ps = ps) (nq : srt b qs = qs) (e : srt b (ats P ps) = srt b (ats P qs)) : ps = qs := by
  have pm : (ats P ps).Perm (ats P qs) := (srt_perm b _).symm.trans (e ▸ srt_perm b _)
  have pm2 : ps.Perm qs := by
    have := pm.map (inv P)
    rwa [inv_ats nd hp, inv_ats nd hq] at this
  cases b with
  | true =>
    rw [← np, ← nq]
    exact srN_eq pm2
  | false =>
    have z : ats P ps = ats P qs := e
    have := congrArg (List.map (inv P)) z
    rwa [inv_ats nd hp, inv_ats nd hq] at this
theorem ats_take {f ks : List Nat} {i : Nat} (h : ∀ k ∈ ks, k < i) : ats (f.take i) ks = ats f ks := by
  unfold ats
  refine List.map_congr_left fun k m => ?_
  rw [List.getD_eq_getElem?_getD, List.getD_eq_getElem?_getD, List.getElem?_take_of_lt (h k m)]
theorem ats_app {f ks l : List Nat} (h : ∀ k ∈ ks, k < f.length) : ats (f ++ l) ks = ats f ks := by
  unfold ats
  refine List.map_congr_left fun k m => ?_
  rw [List.getD_eq_getElem?_getD, List.getD_eq_getElem?_getD, List.getElem?_append_left (h k m)]
def Okn (n : Nat) (r : Rw) : Prop := (pts r).length ≤ 3 ∧ ∀ k ∈ pts r, k < n
theorem okn_of {n : Nat} {r : Rw} (h : Okr n r) : Okn n r := by
  cases r with
  | «let» s => exact ⟨Nat.zero_le _, fun _ m => by cases m⟩
  | num n => exact ⟨Nat.zero_le _, fun _ m => by cases m⟩
  | op o ks => exact h
theorem keyOf_app {ops : List Op} {f l : List Nat} {r : Rw} (h : Okn f.length r) : keyOf ops (f ++ l) r = keyOf ops f r := by
  cases r with
  | op o ks =>
    have z : ats (f ++ l) ks = ats f ks := ats_app h.2
    show Rw.op o (srt (swp ops o) (ats (f ++ l) ks)) = _
    rw [z]
    rfl
  | _ => rfl
/-- what a key of the nodes is -/
structure Nrm (ops : List Op) (n : Nat) (r : Rw) : Prop where
  ok : Okn n r
  nm : ∀ o ps, r = .op o ps → srt (swp ops o) ps = ps
  sg : OkS ops r
theorem nrm_key {ops : List Op} {f : List Nat} {n : Nat} (hf : ∀ k ∈ f, k < n) {r : Rw} (h : Okn f.length r) (s : OkS ops r) : Nrm ops n (keyOf ops f r) := by
  cases r with
  | «let» t => exact ⟨⟨Nat.zero_le _, fun _ m => by cases m⟩, fun _ _ e => (by cases e), trivial⟩
  | num t => exact ⟨⟨Nat.zero_le _, fun _ m => by cases m⟩, fun _ _ e => (by cases e), trivial⟩
  | op o ks =>
    obtain ⟨p, mp, e, l⟩ := s
    have lenA : (srt (swp ops o) (ats f ks)).length = ks.length := by rw [(srt_perm _ _).length_eq]; unfold ats; rw [List.length_map]
    refine ⟨⟨by show (srt (swp ops o) (ats f ks)).length ≤ 3; rw [lenA]; exact h.1, fun k m => ?_⟩, fun o' ps e => ?_, ⟨p, mp, e, by rw [lenA]; exact l⟩⟩
    · exact ats_lt hf h.2 k ((srt_perm _ _).mem_iff.mp m)
    · cases e
      exact srt_idem _ _
/-- a numbering of rows -/
structure Nb (ops : List Op) (dn g : List Rw) (f : List Nat) : Prop where
  len : f.length = dn.length
  nd : g.Nodup
  lt : ∀ k ∈ f, k < g.length
  at' : ∀ i r, dn[i]? = some r → g[f.getD i 0]? = some (keyOf ops f r)
  nrm : ∀ j r, g[j]? = some r → Nrm ops j r
  all : ∀ j, j < g.length → j ∈ f
  small : g.length ≤ dn.length
  okr : ∀ i r, dn[i]? = some r → Okn i r
theorem ndG_get {g : List Rw} {r : Rw} : (ndG g r)[ndI g r]? = some r := ixOf_some (ndI_ix g r)
theorem ndG_old {g : List Rw} {r : Rw} {j : Nat} (h : j < g.length) : (ndG g r)[j]? = g[j]? := by
  unfold ndG
  split
  · rfl
  · exact List.getElem?_append_left h
theorem ndG_cases (g : List Rw) (r : Rw) : (ndG g r = g ∧ ndI g r < g.length) ∨ (ndG g r = g ++ [r] ∧ ndI g r = g.length ∧ r ∉ g) := by
  by_cases m : r ∈ g
  · have e : ndG g r = g := if_pos m
    have := ndI_lt g r
    rw [e] at this
    exact .inl ⟨e, this⟩
  · refine .inr ⟨if_neg m, ?_, m⟩
    unfold ndI
    rw [ixOf_none.mpr m]
theorem nb_step {ops : List Op} {dn g : List Rw} {f : List Nat} (N : Nb ops dn g f) {r : Rw} (h : Okn dn.length r) (s : OkS ops r) : Nb ops (dn ++ [r]) (ndG g (keyOf ops f r)) (f ++ [ndI g (keyOf ops f r)]) := by
  have h' : Okn f.length r := by rw [N.len]; exact h
  have key := nrm_key (n := g.length) N.lt h' s
  generalize hκ : keyOf ops f r = κ at key
  have ltn := ndI_lt g κ
  refine ⟨by rw [List.length_append, List.length_append, N.len]; rfl, ?_, fun k m => ?_, fun i x e => ?_, fun j x e => ?_, fun j hj => ?_, ?_, fun i x e => ?_⟩
  · rcases ndG_cases g κ with ⟨e, _⟩ | ⟨e, _, n⟩
    · rw [e]; exact N.nd
    · rw [e]
      exact List.nodup_append.mpr ⟨N.nd, by simp, fun a ma b mb q => n (by rw [List.mem_singleton.mp mb] at q; rw [← q]; exact ma)⟩
  · rcases List.mem_append.mp m with m | m
    · exact Nat.lt_of_lt_of_le (N.lt k m) (ndG_mono _ _)
    · rw [List.mem_singleton.mp m]; exact ltn
  · by_cases hi : i < dn.length
    · rw [List.getElem?_append_left hi] at e
      have hx : Okn f.length x := ⟨(N.okr i x e).1, fun k m => by have := (N.okr i x e).2 k m; rw [N.len]; omega⟩
      have fi : i < f.length := by rw [N.len]; exact hi
      have e1 : (f ++ [ndI g κ]).getD i 0 = f.getD i 0 := by rw [List.getD_eq_getElem?_getD, List.getD_eq_getElem?_getD, List.getElem?_append_left fi]
      have lt2 : f.getD i 0 < g.length := N.lt _ (by rw [List.getD_eq_getElem?_getD, List.getElem?_eq_getElem fi]; exact List.getElem_mem fi)
      rw [e1, keyOf_app hx, ndG_old lt2]
      exact N.at' i x e
    · have hi2 : i = dn.length := by
        have := (List.getElem?_eq_some_iff.mp e).1
        rw [List.length_append, List.length_singleton] at this
        omega
      subst hi2
      rw [List.getElem?_append_right (Nat.le_refl _), Nat.sub_self] at e
      cases e
      have e1 : (f ++ [ndI g κ]).getD dn.length 0 = ndI g κ := by
        rw [List.getD_eq_getElem?_getD, ← N.len, List.getElem?_append_right (Nat.le_refl _), Nat.sub_self]
        rfl
      rw [e1, keyOf_app h', hκ]
      exact ndG_get
  · rcases ndG_cases g κ with ⟨q, _⟩ | ⟨q, _, _⟩
    · rw [q] at e; exact N.nrm j x e
    · rw [q] at e
      by_cases hj : j < g.length
      · rw [List.getElem?_append_left hj] at e; exact N.nrm j x e
      · rw [List.getElem?_append_right (by omega)] at e
        have hj2 : j = g.length := by
          have := (List.getElem?_eq_some_iff.mp e).1
          simp at this
          omega
        subst hj2
        rw [Nat.sub_self] at e
        cases e
        exact key
  · rcases ndG_cases g κ with ⟨q, _⟩ | ⟨q, q2, _⟩
    · rw [q] at hj; exact List.mem_append_left _ (N.all j hj)
    · rw [q, List.length_append, List.length_singleton] at hj
      by_cases h2 : j < g.length
      · exact List.mem_append_left _ (N.all j h2)
      · have : j = g.length := by omega
        rw [q2, this]
        simp
  · have := ndG_len g κ
    have := N.small
    rw [List.length_append]
    simp
    omega
  · by_cases hi : i < dn.length
    · rw [List.getElem?_append_left hi] at e
      exact N.okr i x e
    · have hi2 : i = dn.length := by
        have := (List.getElem?_eq_some_iff.mp e).1
        rw [List.length_append, List.length_singleton] at this
        omega
      subst hi2
      rw [List.getElem?_append_right (Nat.le_refl _), Nat.sub_self] at e
      cases e
      exact h
theorem nb_run {ops : List Op} : ∀ (rs dn g : List Rw) (f : List Nat), Nb ops dn g f → (∀ i r, rs[i]? = some r → Okn (dn.length + i) r ∧ OkS ops r) → Nb ops (dn ++ rs) (nodesT ops rs g f).1 (nodesT ops rs g f).2
  | [], dn, g, f, N, _ => by rw [List.append_nil]; exact N
  | r :: rs, dn, g, f, N, h => by
    have h0 := h 0 r rfl
    have := nb_run rs (dn ++ [r]) _ _ (nb_step N (by simpa using h0.1) h0.2) fun i x e => by
      have z := h (i + 1) x (by simpa using e)
      rw [List.length_append, List.length_singleton]
      rw [show dn.length + 1 + i = dn.length + (i + 1) by omega]
      exact z
    rw [List.append_assoc] at this
    exact this
theorem nb_rows {ops : List Op} {rows : List Rw} (V : Rows ops rows) : Nb ops rows (nodesT ops rows [] []).1 (nodesT ops rows [] []).2 := by
  have z : Nb ops [] [] [] := ⟨rfl, List.nodup_nil, fun _ m => (by cases m), fun _ _ e => (by simp at e), fun _ _ e => (by simp at e), fun _ h => (by simp at h), Nat.le_refl _, fun _ _ e => (by simp at e)⟩
  exact nb_run rows [] [] [] z fun i r e => ⟨by rw [List.length_nil, Nat.zero_add]; exact okn_of (V.ok.2 i r e), V.sg r (List.mem_of_getElem? e)⟩
end K31

namespace K31
open PySem Dm
theorem getD_mem {l : List Nat} {i : Nat} (h : i < l.length) : l.getD i 0 ∈ l := by
  rw [List.getD_eq_getElem?_getD, List.getElem?_eq_getElem h]
  exact List.getElem_mem h
theorem getD_app {l m : List Nat} {i : Nat} (h : i < l.length) : (l ++ m).getD i 0 = l.getD i 0 := by
  rw [List.getD_eq_getElem?_getD, List.getD_eq_getElem?_getD, List.getElem?_append_left h]
theorem getD_last (l : List Nat) (x : Nat) : (l ++ [x]).getD l.length 0 = x := by
  rw [List.getD_eq_getElem?_getD, List.getElem?_append_right (Nat.le_refl _), Nat.sub_self]
  rfl
theorem getD_at {l : List Nat} {i : Nat} (h : i < l.length) : l[i]? = some (l.getD i 0) := by
  rw [List.getD_eq_getElem?_getD, List.getElem?_eq_getElem h]
  rfl
theorem Nrm.mono {ops : List Op} {n m : Nat} {r : Rw} (h : Nrm ops n r) (l : n ≤ m) : Nrm ops m r := ⟨⟨h.ok.1, fun k mk => Nat.lt_of_lt_of_le (h.ok.2 k mk) l⟩, h.nm, h.sg⟩
theorem keyOf_inj {ops : List Op} {P : List Nat} (nd : P.Nodup) {r r' : Rw} (h : Nrm ops P.length r) (h' : Nrm ops P.length r') (e : keyOf ops P r = keyOf ops P r') : r = r' := by
  cases r <;> cases r' <;> simp only [keyOf, Rw.let.injEq, Rw.num.injEq, Rw.op.injEq, reduceCtorEq] at e
  · rw [e]
  · rw [e]
  · obtain ⟨e1, e2⟩ := e
    subst e1
    exact congrArg (Rw.op _) (srt_inj nd h.ok.2 h'.ok.2 (h.nm _ _ rfl) (h'.nm _ _ rfl) e2)
structure Rel (ops : List Op) (G : List Rw) (nodes : List Nat) (m : Nat) (h : List Rw) (f P : List Nat) : Prop where
  pl : P.length = h.length
  fl : f.length = m
  flt : ∀ k ∈ f, k < h.length
  fP : ∀ i, i < m → P.getD (f.getD i 0) 0 = nodes.getD i 0
  nd : P.Nodup
  key : ∀ t r, h[t]? = some r → G[P.getD t 0]? = some (keyOf ops P r) ∧ Nrm ops h.length r
theorem rel_step {ops : List Op} {rows G : List Rw} {nodes : List Nat} (N : Nb ops rows G nodes) {m : Nat} {h : List Rw} {f P : List Nat} (R : Rel ops G nodes m h f P) {r : Rw} (at0 : rows[m]? = some r) (s : OkS ops r) :
    ∃ P', Rel ops G nodes (m + 1) (ndG h (keyOf ops f r)) (f ++ [ndI h (keyOf ops f r)]) P' ∧ P.length ≤ P'.length ∧ ∀ t, t < P.length → P'.getD t 0 = P.getD t 0 := by
  have okn : Okn f.length r := by rw [R.fl]; exact N.okr m r at0
  have kn := nrm_key (n := h.length) R.flt okn s
  have same : keyOf ops nodes r = keyOf ops P (keyOf ops f r) := by
    cases r with
    | op o ks =>
      show Rw.op o _ = Rw.op o _
      rw [srt_ats]
      have e : ats P (ats f ks) = ats nodes ks := by
        unfold ats
        rw [List.map_map]
        refine List.map_congr_left fun k mk => ?_
        exact R.fP k (by have := okn.2 k mk; rw [R.fl] at this; exact this)
      rw [e]
    | _ => rfl
  have gm := N.at' m r at0
  rw [same] at gm
  generalize hκ : keyOf ops f r = κ at kn gm
  have old : ∀ i, i < m → f.getD i 0 < h.length := fun i hi => R.flt _ (getD_mem (by rw [R.fl]; exact hi))
  rcases ndG_cases h κ with ⟨e, lt⟩ | ⟨e, lt, nm⟩
  · have ht : h[ndI h κ]? = some κ := by
      have := ndG_get (g := h) (r := κ)
      rwa [e] at this
    refine ⟨P, ?_, Nat.le_refl _, fun _ _ => rfl⟩
    rw [e]
    refine ⟨R.pl, by rw [List.length_append, R.fl]; rfl, fun k mk => ?_, fun i hi => ?_, R.nd, R.key⟩
    · rcases List.mem_append.mp mk with mk | mk
      · exact R.flt k mk
      · rw [List.mem_singleton.mp mk]; exact lt
    · by_cases q : i < m
      · rw [getD_app (l := f) (by rw [R.fl]; exact q)]; exact R.fP i q
      · have q2 : i = m := by omega
        subst q2
        have := getD_last f (ndI h κ)
        rw [R.fl] at this
        rw [this]
        exact nodup_at N.nd (R.key _ _ ht).1 gm
  · have notin : nodes.getD m 0 ∉ P := fun mem => by
      obtain ⟨t, ht, et⟩ := List.mem_iff_getElem.mp mem
      have th : t < h.length := by rw [← R.pl]; exact ht
      have a := R.key t _ (List.getElem?_eq_getElem th)
      have e1 : P.getD t 0 = nodes.getD m 0 := by rw [List.getD_eq_getElem?_getD, List.getElem?_eq_getElem ht]; exact et
      rw [e1, gm] at a
      have e2 := keyOf_inj R.nd (by rw [R.pl]; exact kn) (by rw [R.pl]; exact a.2) (Option.some.inj a.1)
      exact nm (by rw [e2]; exact List.getElem_mem th)
    refine ⟨P ++ [nodes.getD m 0], ?_, by rw [List.length_append]; exact Nat.le_add_right _ _, fun t ht => getD_app ht⟩
    have up : ∀ r, Nrm ops h.length r → keyOf ops (P ++ [nodes.getD m 0]) r = keyOf ops P r := fun r hr => keyOf_app ⟨hr.ok.1, by rw [R.pl]; exact hr.ok.2⟩
    rw [e]
    refine ⟨by rw [List.length_append, List.length_append, R.pl]; rfl, by rw [List.length_append, R.fl]; rfl, fun k mk => ?_, fun i hi => ?_, List.nodup_append.mpr ⟨R.nd, by simp, fun a ma b mb q => notin (by rw [List.mem_singleton.mp mb] at q; rw [← q]; exact ma)⟩, fun t r' et => ?_⟩
    · rw [List.length_append, List.length_singleton]
      rcases List.mem_append.mp mk with mk | mk
      · have := R.flt k mk; omega
      · rw [List.mem_singleton.mp mk]; omega
    · by_cases q : i < m
      · rw [getD_app (l := f) (by rw [R.fl]; exact q), getD_app (l := P) (by rw [R.pl]; exact old i q)]
        exact R.fP i q
      · have q2 : i = m := by omega
        subst q2
        have := getD_last f (ndI h κ)
        rw [R.fl] at this
        rw [this, lt, ← R.pl]
        exact getD_last P _
    · by_cases q : t < h.length
      · rw [List.getElem?_append_left q] at et
        have a := R.key t r' et
        rw [getD_app (by rw [R.pl]; exact q), up r' a.2]
        exact ⟨a.1, a.2.mono (by rw [List.length_append]; exact Nat.le_add_right _ _)⟩
      · have q2 : t = h.length := by
          have := (List.getElem?_eq_some_iff.mp et).1
          rw [List.length_append, List.length_singleton] at this
          omega
        subst q2
        rw [List.getElem?_append_right (Nat.le_refl _), Nat.sub_self] at et
        cases et
        have := getD_last P (nodes.getD m 0)
        rw [R.pl] at this
        rw [this, up κ kn]
        exact ⟨gm, kn.mono (by rw [List.length_append]; exact Nat.le_add_right _ _)⟩
theorem rel_run {ops : List Op} {rows G : List Rw} {nodes : List Nat} (N : Nb ops rows G nodes) (sg : ∀ r ∈ rows, OkS ops r) : ∀ (rs : List Rw) (m : Nat) (h : List Rw) (f P : List Nat), Rel ops G nodes m h f P → (∀ i r, rs[i]? = some r → rows[m + i]? = some r) →
    ∃ P', Rel ops G nodes (m + rs.length) (nodesT ops rs h f).1 (nodesT ops rs h f).2 P' ∧ P.length ≤ P'.length ∧ ∀ t, t < P.length → P'.getD t 0 = P.getD t 0
  | [], m, h, f, P, R, _ => ⟨P, R, Nat.le_refl _, fun _ _ => rfl⟩
  | r :: rs, m, h, f, P, R, e => by
    have e0 := e 0 r rfl
    obtain ⟨P1, R1, l1, p1⟩ := rel_step N R e0 (sg r (List.mem_of_getElem? e0))
    obtain ⟨P2, R2, l2, p2⟩ := rel_run N sg rs (m + 1) _ _ P1 R1 fun i x q => by
      have := e (i + 1) x (by simpa using q)
      rw [show m + 1 + i = m + (i + 1) by omega]
      exact this
    refine ⟨P2, ?_, Nat.le_trans l1 l2, fun t ht => (p2 t (Nat.lt_of_lt_of_le ht l1)).trans (p1 t ht)⟩
    rw [List.length_cons, show m + (rs.length + 1) = m + 1 + rs.length by omega]
    exact R2
/-- what same tells -/
theorem same_nodes {ops : List Op} {rows : List Rw} (V : Rows ops rows) {k m : Nat} (hk : k < rows.length) (hm : m < rows.length) :
    (lastN (nodesT ops (rows.take (k + 1)) [] []).2 == lastN (nodesT ops (rows.take (m + 1)) (nodesT ops (rows.take (k + 1)) [] []).1 []).2) = ((nodesT ops rows [] []).2.getD k 0 == (nodesT ops rows [] []).2.getD m 0) := by
  have N := nb_rows V
  have z : Rel ops (nodesT ops rows [] []).1 (nodesT ops rows [] []).2 0 [] [] [] := ⟨rfl, rfl, fun _ m => (by cases m), fun _ h => (by omega), List.nodup_nil, fun _ _ e => (by simp at e)⟩
  have pre : ∀ j i r, (rows.take j)[i]? = some r → rows[0 + i]? = some r := fun j i r e => by
    have hi : i < j := by
      have := (List.getElem?_eq_some_iff.mp e).1
      rw [List.length_take] at this
      omega
    rw [List.getElem?_take_of_lt hi] at e
    rw [Nat.zero_add]
    exact e
  obtain ⟨P1, R1, _, _⟩ := rel_run N V.sg (rows.take (k + 1)) 0 [] [] [] z (pre (k + 1))
  have lk : (rows.take (k + 1)).length = k + 1 := by rw [List.length_take]; omega
  have lm : (rows.take (m + 1)).length = m + 1 := by rw [List.length_take]; omega
  rw [lk, Nat.zero_add] at R1
  generalize nodesT ops (rows.take (k + 1)) [] [] = A at R1
  have z2 : Rel ops (nodesT ops rows [] []).1 (nodesT ops rows [] []).2 0 A.1 [] P1 := ⟨R1.pl, rfl, fun _ m => (by cases m), fun _ h => (by omega), R1.nd, R1.key⟩
  obtain ⟨P2, R2, l2, p2⟩ := rel_run N V.sg (rows.take (m + 1)) 0 A.1 [] P1 z2 (pre (m + 1))
  rw [lm, Nat.zero_add] at R2
  generalize nodesT ops (rows.take (m + 1)) A.1 [] = B at R2
  have ea : lastN A.2 = A.2.getD k 0 := by unfold lastN; rw [R1.fl]; rfl
  have eb : lastN B.2 = B.2.getD m 0 := by unfold lastN; rw [R2.fl]; rfl
  have la : A.2.getD k 0 < P1.length := by rw [R1.pl]; exact R1.flt _ (getD_mem (by rw [R1.fl]; omega))
  have lb : B.2.getD m 0 < P2.length := by rw [R2.pl]; exact R2.flt _ (getD_mem (by rw [R2.fl]; omega))
  have pa : P2.getD (A.2.getD k 0) 0 = (nodesT ops rows [] []).2.getD k 0 := (p2 _ la).trans (R1.fP k (by omega))
  have pb : P2.getD (B.2.getD m 0) 0 = (nodesT ops rows [] []).2.getD m 0 := R2.fP m (by omega)
  rw [ea, eb, Bool.eq_iff_iff, beq_iff_eq, beq_iff_eq]
  constructor
  · intro e
    rw [← pa, ← pb, e]
  · intro e
    rw [← pa, ← pb] at e
    refine nodup_at R2.nd (getD_at (Nat.lt_of_lt_of_le la l2)) ?_
    rw [e]
    exact getD_at lb
theorem gok_rows {ops : List Op} {rows : List Rw} (V : Rows ops rows) : Gok (nodesT ops rows [] []).1 := by
  have N := nb_rows V
  exact ⟨Nat.le_trans N.small V.ok.1, N.nd, fun i r e => (N.nrm i r e).ok⟩
end K31

namespace K31
open PySem Dm
/-! ### worths of rows are worths of nodes -/
theorem getDI_app {l m : List Int} {i : Nat} (h : i < l.length) : (l ++ m).getD i 0 = l.getD i 0 := by
  rw [List.getD_eq_getElem?_getD, List.getD_eq_getElem?_getD, List.getElem?_append_left h]
theorem atI_app {f l : List Int} {ks : List Nat} (h : ∀ k ∈ ks, k < f.length) : atI (f ++ l) ks = atI f ks := by
  unfold atI
  exact List.map_congr_left fun k m => getDI_app (h k m)
theorem ownR_app {L : D} {ops : List Op} {seed : Int} {ws l : List Int} {i : Nat} {r : Rw} (hi : i < ws.length) (ok : Okn i r) (h : OwnR L ops seed ws i r) : OwnR L ops seed (ws ++ l) i r := by
  have e := getDI_app (m := l) hi
  cases r with
  | «let» s => show opIx L (.str s) = _; rw [e]; exact h
  | num n => show (ws ++ l).getD i 0 = n; rw [e]; exact h
  | op o ks =>
    refine ⟨?_, h.2⟩
    have z : atI (ws ++ l) ks = atI ws ks := atI_app fun k m => Nat.lt_trans (ok.2 k m) hi
    rw [e, z]
    exact h.1
theorem own_exists {L : D} {ops : List Op} {seed : Int} {g : List Rw} (G : Gok g) (hL : ∀ s, Rw.let s ∈ g → ∃ v, opIx L (.str s) = some (.int v)) (hg : ∀ o ps, Rw.op o ps ∈ g → Good o) : ∃ ws, Own L ops seed g ws := by
  have go : ∀ n, n ≤ g.length → ∃ ws : List Int, ws.length = n ∧ ∀ i r, i < n → g[i]? = some r → OwnR L ops seed ws i r := by
    intro n
    induction n with
    | zero => exact fun _ => ⟨[], rfl, fun _ _ h => by omega⟩
    | succ n ih =>
      intro h
      obtain ⟨ws, hl, hw⟩ := ih (by omega)
      have gn : g[n]? = some g[n] := List.getElem?_eq_getElem h
      have okn := G.2.2 n _ gn
      have new : ∃ v, OwnR L ops seed (ws ++ [v]) n g[n] := by
        have last : ∀ v, (ws ++ [v]).getD n 0 = v := fun v => by
          rw [List.getD_eq_getElem?_getD, ← hl, List.getElem?_append_right (Nat.le_refl _), Nat.sub_self]
          rfl
        have mem := List.getElem_mem h
        generalize g[n] = r at okn mem
        cases r with
        | «let» s =>
          obtain ⟨v, hv⟩ := hL s mem
          exact ⟨v, by show opIx L (.str s) = _; rw [last]; exact hv⟩
        | num m => exact ⟨m, last m⟩
        | op o ks =>
          refine ⟨Fm seed o (srtI (swp ops o) (atI ws ks)), ?_, hg o ks mem⟩
          rw [last]
          have z : ∀ l, atI (ws ++ l) ks = atI ws ks := fun l => atI_app fun k m => by rw [hl]; exact okn.2 k m
          rw [z]
      obtain ⟨v, hv⟩ := new
      refine ⟨ws ++ [v], by rw [List.length_append, hl]; rfl, fun i r hi gi => ?_⟩
      by_cases q : i < n
      · exact ownR_app (by omega) (G.2.2 i r gi) (hw i r q gi)
      · have e : i = n := by omega
        subst e
        rw [gn] at gi
        cases gi
        exact hv
  obtain ⟨ws, h1, h2⟩ := go g.length (Nat.le_refl _)
  exact ⟨ws, h1, fun i r e => h2 i r (List.getElem?_eq_some_iff.mp e).1 e⟩
def rws (w : Nat → Int) (nodes : List Nat) : List Int := nodes.map w
theorem rws_getD {w : Nat → Int} {nodes : List Nat} {i : Nat} (h : i < nodes.length) : (rws w nodes).getD i 0 = w (nodes.getD i 0) := by
  unfold rws
  rw [List.getD_eq_getElem?_getD, List.getElem?_map, List.getD_eq_getElem?_getD, List.getElem?_eq_getElem h]
  rfl
theorem atI_rws {w : Nat → Int} {nodes ks : List Nat} (h : ∀ k ∈ ks, k < nodes.length) : atI (rws w nodes) ks = (ats nodes ks).map w := by
  unfold atI ats
  rw [List.map_map]
  exact List.map_congr_left fun k m => rws_getD (h k m)
theorem srtI_perm {b : Bool} {w : Nat → Int} {xs : List Nat} : srtI b ((srt b xs).map w) = srtI b (xs.map w) := by
  unfold srtI srt
  cases b
  · rfl
  · exact srI_eq ((srN_perm xs).map w)
theorem toldF {ops : List Op} (S : Sg ops) {q : D} {rows : List Rw} (V : Rows ops rows) {L tb : D} {seed : Int} {ws : List Int} (O : Own L ops seed (nodesT ops rows [] []).1 ws) :
    Told (wD true (sgD ops q) (fmD seed) (swD ops) tb) L rows (rws (fun k => ws.getD k 0) (nodesT ops rows [] []).2) := by
  have N := nb_rows V
  generalize nodesT ops rows [] [] = A at O N
  refine ⟨by unfold rws; rw [List.length_map, N.len], fun i r e => ?_⟩
  have hi : i < A.2.length := by rw [N.len]; exact (List.getElem?_eq_some_iff.mp e).1
  have o := O.2 _ _ (N.at' i r e)
  have ev : (rws (fun k => ws.getD k 0) A.2).getD i 0 = ws.getD (A.2.getD i 0) 0 := rws_getD hi
  cases r with
  | «let» s => show opIx L (.str s) = _; rw [ev]; exact o
  | num n => show _ = n; rw [ev]; exact o
  | op x ks =>
    have kk : ∀ k ∈ ks, k < A.2.length := fun k m => by have := (N.okr i _ e).2 k m; omega
    obtain ⟨o1, o2⟩ := o
    have la : (atI (rws (fun k => ws.getD k 0) A.2) ks).length ≤ 1000 := by unfold atI; rw [List.length_map]; have : ks.length ≤ 3 := (N.okr i _ e).1; omega
    have ap := applyF_ok (ops := ops) (o := true) (sg := sgD ops q) (seed := seed) (tb := tb) o2 la
    show g_World_apply _ = some (.int ((rws (fun k => ws.getD k 0) A.2).getD i 0), _)
    rw [ev, o1]
    refine ap.trans ?_
    congr 3
    rw [atI_rws kk]
    show Fm seed x (srtI (swp ops x) ((ats A.2 ks).map fun k => ws.getD k 0)) = Fm seed x (srtI (swp ops x) ((srt (swp ops x) (ats A.2 ks)).map fun k => ws.getD k 0))
    rw [srtI_perm]
/-! the world that parts -/
def Small (g : List Rw) : Prop := ∀ n, Rw.num n ∈ g → n ≤ 3
theorem wn_inj {g : List Rw} (nd : g.Nodup) (sm : Small g) {j k : Nat} (hj : j < g.length) (hk : k < g.length) (e : wn g j = wn g k) : j = k := by
  have gj : g[j]? = some g[j] := List.getElem?_eq_getElem hj
  have gk : g[k]? = some g[k] := List.getElem?_eq_getElem hk
  have mj := List.getElem_mem hj
  have mk := List.getElem_mem hk
  unfold wn at e
  rw [gj, gk] at e
  have key : (∀ n, g[j] = .num n → g[k] = .num n → j = k) := fun n e1 e2 => nodup_at nd (gj.trans (by rw [e1])) (gk.trans (by rw [e2]))
  generalize g[j] = a at e mj key
  generalize g[k] = b at e mk key
  cases a with
  | num n =>
    cases b with
    | num m => exact key n rfl (by rw [show n = m from e])
    | «let» s => have := sm n mj; simp only at e; omega
    | op o ps => have := sm n mj; simp only at e; omega
  | «let» s =>
    cases b with
    | num m => have := sm m mk; simp only at e; omega
    | «let» t => simp only at e; omega
    | op o ps => simp only at e; omega
  | op o' ps' =>
    cases b with
    | num m => have := sm m mk; simp only at e; omega
    | «let» t => simp only at e; omega
    | op o ps => simp only at e; omega
theorem map_injOn {w : Nat → Int} {n : Nat} (inj : ∀ j k, j < n → k < n → w j = w k → j = k) : ∀ {a b : List Nat}, (∀ k ∈ a, k < n) → (∀ k ∈ b, k < n) → a.map w = b.map w → a = b
  | [], [], _, _, _ => rfl
  | [], _ :: _, _, _, h => by simp at h
  | _ :: _, [], _, _, h => by simp at h
  | x :: a, y :: b, ha, hb, h => by
    rw [List.map_cons, List.map_cons] at h
    injection h with h1 h2
    rw [inj x y (ha x (by simp)) (hb y (by simp)) h1, map_injOn inj (fun k m => ha k (List.mem_cons_of_mem _ m)) (fun k m => hb k (List.mem_cons_of_mem _ m)) h2]
theorem perm_injOn {w : Nat → Int} {n : Nat} (inj : ∀ j k, j < n → k < n → w j = w k → j = k) {a b : List Nat} (ha : ∀ k ∈ a, k < n) (hb : ∀ k ∈ b, k < n) (h : (a.map w).Perm (b.map w)) : a.Perm b := by
  let u : Int → Nat := fun x => ((List.range n).find? fun j => decide (w j = x)).getD 0
  have hu : ∀ k, k < n → u (w k) = k := fun k hk => by
    show ((List.range n).find? fun j => decide (w j = w k)).getD 0 = k
    cases e : (List.range n).find? fun j => decide (w j = w k) with
    | none => exact absurd (List.find?_eq_none.mp e k (List.mem_range.mpr hk)) (by simp)
    | some j =>
      have h1 := List.find?_some e
      have h2 := List.mem_range.mp (List.mem_of_find?_eq_some e)
      exact inj j k h2 hk (by simpa using h1)
  have back : ∀ l : List Nat, (∀ k ∈ l, k < n) → (l.map w).map u = l := fun l hl => by
    rw [List.map_map]
    exact (List.map_congr_left (g := id) fun k m => hu k (hl k m)).trans (List.map_id _)
  have := h.map u
  rwa [back a ha, back b hb] at this
theorem srtI_eq {b : Bool} {xs ys : List Int} (e : srtI b xs = srtI b ys) : xs.Perm ys := by
  unfold srtI at e
  cases b with
  | true => exact (srI_perm xs).symm.trans ((show srI xs = srI ys from e) ▸ srI_perm ys)
  | false => exact (show xs = ys from e) ▸ List.Perm.refl _
theorem entT_mem {g : List Rw} {ops : List Op} {t : Tr} : ∀ (rs : List Rw) (i : Nat), t ∈ entT g ops i rs ↔ ∃ j r, rs[j]? = some r ∧ entry g ops (i + j) r = some t
  | [], i => by simp [entT]
  | r :: rs, i => by
    unfold entT
    rw [List.mem_append, entT_mem rs (i + 1)]
    constructor
    · rintro (h | ⟨j, x, h1, h2⟩)
      · refine ⟨0, r, rfl, ?_⟩
        rw [Nat.add_zero]
        cases e : entry g ops i r with
        | none => rw [e] at h; cases h
        | some t' => rw [e] at h; rw [List.mem_singleton.mp h]
      · exact ⟨j + 1, x, by simpa using h1, by rw [show i + (j + 1) = i + 1 + j by omega]; exact h2⟩
    · rintro ⟨j, x, h1, h2⟩
      cases j with
      | zero =>
        simp at h1
        subst h1
        rw [Nat.add_zero] at h2
        rw [h2]
        exact .inl (List.mem_singleton.mpr rfl)
      | succ j => exact .inr ⟨j, x, by simpa using h1, by rw [show i + 1 + j = i + (j + 1) by omega]; exact h2⟩
theorem entry_some {g : List Rw} {ops : List Op} {i : Nat} {r : Rw} {t : Tr} (h : entry g ops i r = some t) : ∃ o ks, r = .op o ks ∧ t = ((o, srtI (swp ops o) (ks.map (wn g))), 1000 + (i : Int)) := by
  cases r with
  | op o ks => cases h; exact ⟨o, ks, rfl, rfl⟩
  | _ => cases h
/-- the keys of the table are apart -/
theorem entT_nodup {g : List Rw} {ops : List Op} (nd : g.Nodup) (sm : Small g) (nrm : ∀ j r, g[j]? = some r → Nrm ops j r) : ∀ (rs : List Rw) (i : Nat), g.drop i = rs → ((entT g ops i rs).map (·.1)).Nodup
  | [], _, _ => List.nodup_nil
  | r :: rs, i, hd => by
    have gi : g[i]? = some r := by rw [← List.head?_drop, hd]; rfl
    have hd2 : g.drop (i + 1) = rs := by rw [← List.drop_drop, hd]; rfl
    have ih := entT_nodup nd sm nrm rs (i + 1) hd2
    unfold entT
    cases e : entry g ops i r with
    | none => exact ih
    | some t =>
      show (t.1 :: (entT g ops (i + 1) rs).map (·.1)).Nodup
      refine List.nodup_cons.mpr ⟨fun m => ?_, ih⟩
      obtain ⟨t', mt, et⟩ := List.mem_map.mp m
      obtain ⟨j, r', h1, h2⟩ := (entT_mem rs (i + 1)).mp mt
      obtain ⟨o, ks, er, rfl⟩ := entry_some e
      obtain ⟨o', ks', er', rfl⟩ := entry_some h2
      subst er er'
      have gj : g[i + 1 + j]? = some (.op o' ks') := by rw [← hd2] at h1; rw [List.getElem?_drop] at h1; exact h1
      simp only [Prod.mk.injEq] at et
      obtain ⟨e1, e2⟩ := et
      subst e1
      have li := (List.getElem?_eq_some_iff.mp gi).1
      have lj := (List.getElem?_eq_some_iff.mp gj).1
      have n1 := nrm _ _ gi
      have n2 := nrm _ _ gj
      have k1 : ∀ k ∈ ks, k < g.length := fun k mk => Nat.lt_trans (n1.ok.2 k mk) li
      have k2 : ∀ k ∈ ks', k < g.length := fun k mk => Nat.lt_trans (n2.ok.2 k mk) lj
      have eq : ks = ks' := by
        have inj := fun j k (hj : j < g.length) (hk : k < g.length) (e : wn g j = wn g k) => wn_inj nd sm hj hk e
        cases hb : swp ops o' with
        | true =>
          have pm := perm_injOn inj k2 k1 (srtI_eq e2)
          have a1 := n1.nm _ _ rfl
          have a2 := n2.nm _ _ rfl
          rw [hb] at a1 a2
          rw [← a1, ← a2]
          exact srN_eq pm.symm
        | false =>
          rw [hb] at e2
          exact (map_injOn inj k2 k1 e2).symm
      subst eq
      have := nodup_at nd gi gj
      omega
theorem toldT {ops : List Op} (S : Sg ops) {q : D} {rows : List Rw} (V : Rows ops rows) {L : D} (sm : Small (nodesT ops rows [] []).1) (hL : ∀ (j : Nat) (s : Str), (nodesT ops rows [] []).1[j]? = some (Rw.let s) → opIx L (.str s) = some (.int (1000 + (j : Int)))) {us : List Tr} (pm : us.Perm (entT (nodesT ops rows [] []).1 ops 0 (nodesT ops rows [] []).1)) :
    Told (wD true (sgD ops q) (tmD us) (swD ops) (tbD us)) L rows (rws (wn (nodesT ops rows [] []).1) (nodesT ops rows [] []).2) := by
  have N := nb_rows V
  generalize nodesT ops rows [] [] = A at sm hL pm N
  refine ⟨by unfold rws; rw [List.length_map, N.len], fun i r e => ?_⟩
  have hi : i < A.2.length := by rw [N.len]; exact (List.getElem?_eq_some_iff.mp e).1
  have gi := N.at' i r e
  have ev : (rws (wn A.1) A.2).getD i 0 = wn A.1 (A.2.getD i 0) := rws_getD hi
  cases r with
  | «let» s =>
    show opIx L (.str s) = _
    rw [ev, hL _ _ gi]
    unfold wn
    rw [gi]
    rfl
  | num n =>
    show _ = n
    rw [ev]
    unfold wn
    rw [gi]
    rfl
  | op x ks =>
    have kk : ∀ k ∈ ks, k < A.2.length := fun k m => by have := (N.okr i _ e).2 k m; omega
    show g_World_apply _ = some (.int ((rws (wn A.1) A.2).getD i 0), _)
    rw [ev]
    have w : wn A.1 (A.2.getD i 0) = 1000 + ((A.2.getD i 0 : Nat) : Int) := by
      unfold wn
      rw [gi]
      rfl
    rw [w]
    refine applyT_ok ?_
    have nd : ((tbL us).map (·.1)).Nodup := by
      have e1 : (tbL us).map (·.1) = us.map (·.1) := by unfold tbL; rw [List.map_map]; rfl
      rw [e1]
      exact (pm.map _).nodup_iff.mpr (entT_nodup N.nd sm N.nrm A.1 0 rfl)
    have e2 : putsT (tbL us) ([], []) = ((tbL us).map (·.1), (tbL us).map (·.2)) := putsT_nodup (tbL us) (as := []) (ds := []) (by rw [List.nil_append]; exact nd)
    have mem : (((x, srtI (swp ops x) ((srt (swp ops x) (ats A.2 ks)).map (wn A.1))) : Tk), 1000 + ((A.2.getD i 0 : Nat) : Int)) ∈ us := by
      refine pm.mem_iff.mpr ((entT_mem A.1 0).mpr ⟨A.2.getD i 0, _, gi, ?_⟩)
      rw [Nat.zero_add]
      rfl
    have look := lookK_mem (l := tbL us) nd (List.mem_map.mpr ⟨_, mem, rfl⟩)
    rw [e2, atI_rws kk, ← srtI_perm]
    show (lookK ((tbL us).map (·.1)) ((tbL us).map (·.2)) (x, srtI (swp ops x) ((srt (swp ops x) (ats A.2 ks)).map (wn A.1)))).getD (.int 0) = _
    rw [look]
    rfl
end K31

namespace K31
open PySem Dm
/-! ### drawn signs -/
theorem compQ_some {α : Type} {enc : α → D} {i : Nat} {own : List Nat} {g : D → Ev → Option Ev} {tt : Ev → Option (Bool × Ev)} {el : Ev → Option (D × Ev)} {Pv : Ev → Prop} (ts : List α) (hP : ∀ E, Pv E → E[i]? = some (some (.lst true (ts.map enc)))) (hz : ∀ t, isFz (enc t) = true)
    (turn : ∀ t ∈ ts, ∀ E, Pv E → ∃ E1 E2 b, g (enc t) E = some E1 ∧ tt E1 = some (b, E2) ∧ (b = false → Pv (wipeE E2 own)) ∧ (b = true → ∃ E3, el E2 = some (enc t, E3) ∧ Pv (wipeE E3 own))) :
    ∀ (n k : Nat) (E : Ev), Pv E → k ≤ ts.length → ts.length < n + k → ∃ (ys : List α) (E' : Ev), ys.Sublist (ts.drop k) ∧ Pv E' ∧ compQ i own g tt el n k E = some (ys.map enc, E') := by
  intro n
  induction n with
  | zero =>
    intro k E p hk0 h
    omega
  | succ n ih =>
    intro k E p hk0 h
    unfold compQ
    rw [hP E p]
    dsimp only
    rw [List.getElem?_map]
    by_cases hk : k < ts.length
    · rw [List.getElem?_eq_getElem hk, List.drop_eq_getElem_cons hk]
      obtain ⟨E1, E2, b, h1, h2, h3, h4⟩ := turn ts[k] (List.getElem_mem hk) E p
      cases b with
      | false =>
        obtain ⟨ys, E', q1, q2, q3⟩ := ih (k + 1) (wipeE E2 own) (h3 rfl) hk (by omega)
        refine ⟨ys, E', q1.cons _, q2, ?_⟩
        show (if isFz (enc ts[k]) = true then (match g (enc ts[k]) E with | some E1 => (match tt E1 with | some (false, E2) => compQ i own g tt el n (k + 1) (wipeE E2 own) | some (true, E2) => (match el E2 with | some (d, E3) => (match compQ i own g tt el n (k + 1) (wipeE E3 own) with | some (ds, E4) => some (d :: ds, E4) | none => none) | none => none) | none => none) | none => none) else none) = _
        rw [if_pos (hz _), h1]
        show (match tt E1 with | some (false, E2) => compQ i own g tt el n (k + 1) (wipeE E2 own) | some (true, E2) => (match el E2 with | some (d, E3) => (match compQ i own g tt el n (k + 1) (wipeE E3 own) with | some (ds, E4) => some (d :: ds, E4) | none => none) | none => none) | none => none) = _
        rw [h2]
        exact q3
      | true =>
        obtain ⟨E3, h5, h6⟩ := h4 rfl
        obtain ⟨ys, E', q1, q2, q3⟩ := ih (k + 1) (wipeE E3 own) h6 hk (by omega)
        refine ⟨ts[k] :: ys, E', q1.cons₂ _, q2, ?_⟩
        show (if isFz (enc ts[k]) = true then (match g (enc ts[k]) E with | some E1 => (match tt E1 with | some (false, E2) => compQ i own g tt el n (k + 1) (wipeE E2 own) | some (true, E2) => (match el E2 with | some (d, E3) => (match compQ i own g tt el n (k + 1) (wipeE E3 own) with | some (ds, E4) => some (d :: ds, E4) | none => none) | none => none) | none => none) | none => none) else none) = _
        rw [if_pos (hz _), h1]
        show (match tt E1 with | some (false, E2) => compQ i own g tt el n (k + 1) (wipeE E2 own) | some (true, E2) => (match el E2 with | some (d, E3) => (match compQ i own g tt el n (k + 1) (wipeE E3 own) with | some (ds, E4) => some (d :: ds, E4) | none => none) | none => none) | none => none) = _
        rw [h2]
        show (match el E2 with | some (d, E3) => (match compQ i own g tt el n (k + 1) (wipeE E3 own) with | some (ds, E4) => some (d :: ds, E4) | none => none) | none => none) = _
        rw [h5]
        show (match compQ i own g tt el n (k + 1) (wipeE E3 own) with | some (ds, E4) => some (enc ts[k] :: ds, E4) | none => none) = _
        rw [q3]
        rfl
    · rw [List.getElem?_eq_none (by omega), List.drop_eq_nil_of_le (by omega)]
      exact ⟨[], E, List.Sublist.refl _, p, rfl⟩
theorem eCompQ_some {α : Type} {enc : α → D} {i : Nat} {own : List Nat} {g : D → Ev → Option Ev} {tt : Ev → Option (Bool × Ev)} {el : Ev → Option (D × Ev)} {Pv : Ev → Prop} (ts : List α) (hP : ∀ E, Pv E → E[i]? = some (some (.lst true (ts.map enc)))) (hz : ∀ t, isFz (enc t) = true) (hl : ts.length ≤ 1000)
    (turn : ∀ t ∈ ts, ∀ E, Pv E → ∃ E1 E2 b, g (enc t) E = some E1 ∧ tt E1 = some (b, E2) ∧ (b = false → Pv (wipeE E2 own)) ∧ (b = true → ∃ E3, el E2 = some (enc t, E3) ∧ Pv (wipeE E3 own))) {E : Ev} (hE : E[i]? = some (some (.lst true (ts.map enc)))) (ho : ownFz E own = true) (h0 : Pv (wipeE E own)) :
    ∃ (ys : List α) (E' : Ev), ys.Sublist ts ∧ Pv E' ∧ eCompQ own i g tt el E = some (.lst true (ys.map enc), backE E E' own) := by
  obtain ⟨ys, E', q1, q2, q3⟩ := compQ_some ts hP hz turn whileFuel 0 (wipeE E own) h0 (Nat.zero_le _) (by unfold whileFuel; omega)
  refine ⟨ys, E', by simpa using q1, q2, ?_⟩
  have lz := isFzL_map enc hz ts
  unfold eCompQ
  rw [hE]
  show (if isFzL (ts.map enc) = true then (if ownFz E own = true then (match compQ i own g tt el whileFuel 0 (wipeE E own) with | some (ds, E2) => (if ds.length ≤ sizeLine then some (D.lst true ds, backE E E2 own) else none) | none => none) else none) else _) = _
  rw [if_pos lz, if_pos ho, q3]
  show (if (ys.map enc).length ≤ sizeLine then some (D.lst true (ys.map enc), backE E E' own) else none) = _
  rw [if_pos (by rw [List.length_map]; exact Nat.le_trans q1.length_le (by rw [List.length_drop]; exact Nat.le_trans (by omega : ts.length - 0 ≤ 5000) (by decide)))]
def four : List Op := [("add", 2, 1), ("mix", 3, 0), ("neg", 1, 0), ("sub", 2, 0)]
theorem sg_four {ops : List Op} (h : ops.Sublist four) : Sg ops where
  len := Nat.le_trans h.length_le (by decide)
  nd := (h.map _).nodup (by decide +kernel)
  ar := fun p m => by
    have m' := h.subset m
    simp only [four, List.mem_cons, List.not_mem_nil, or_false] at m'
    rcases m' with e | e | e | e <;> subst e
    · exact ⟨by decide, by decide, fun _ => rfl, good_add⟩
    · exact ⟨by decide, by decide, fun e => (by simp at e), good_mix⟩
    · exact ⟨by decide, by decide, fun e => (by simp at e), good_neg⟩
    · exact ⟨by decide, by decide, fun e => (by simp at e), good_sub⟩
abbrev Qn := Str × Int
def qnD (p : Qn) : D := .tup [.str p.1, .int p.2]
theorem fz_qnD (p : Qn) : isFz (qnD p) = true := rfl
def twoQ : List Qn := [("less", 2), ("odd", 1)]
theorem tup3_ok {f g h : Ev → Option (D × Ev)} {E : Ev} {x y z : D} (h1 : f E = some (x, E)) (h2 : g E = some (y, E)) (h3 : h E = some (z, E)) : eTup (eCons f (eCons g (eCons h eNil))) E = some (.tup [x, y, z], E) :=
  eTup_of (eCons_of h1 (eCons_of h2 (eCons_of h3 rfl))) (by simp)
theorem signs_ok {cs : List Int} {b : D} (hb : Bag cs b) : ∃ ops q b', ops.Sublist four ∧ isFz q = true ∧ Bag cs b' ∧ g__law_signs [b] = some (sgD ops q, [b']) := by
  let A : D := .lst true (four.map opD)
  let B : D := .lst true (twoQ.map qnD)
  have nz := bag_nz hb
  have lk0 : ∀ j, 0 < j → lkOf [b] j = false := fun j hj => by
    unfold lkOf
    rw [List.getElem?_eq_none (by simp only [List.length_cons, List.length_nil]; omega)]
  -- the two lists
  have p1 := sAsg_of (lk := lkOf [b]) (ts := [1]) (g := gdName 1) (d := A) (E := [some b, none, none, none, none]) (E2 := [some b, some A, none, none, none]) (f := eLst (eCons (eTup (eCons (eOf (qC (.str "add"))) (eCons (eOf (qC (.int 2))) (eCons (eOf (qC (.int 1))) eNil)))) (eCons (eTup (eCons (eOf (qC (.str "mix"))) (eCons (eOf (qC (.int 3))) (eCons (eOf (qC (.int 0))) eNil)))) (eCons (eTup (eCons (eOf (qC (.str "neg"))) (eCons (eOf (qC (.int 1))) (eCons (eOf (qC (.int 0))) eNil)))) (eCons (eTup (eCons (eOf (qC (.str "sub"))) (eCons (eOf (qC (.int 2))) (eCons (eOf (qC (.int 0))) eNil)))) eNil)))))
    (by show (!lkOf [b] 1 && true) = true; rw [lk0 1 (by decide)]; rfl) (eLst_of (eCons_of (tup3_ok rfl rfl rfl) (eCons_of (tup3_ok rfl rfl rfl) (eCons_of (tup3_ok rfl rfl rfl) (eCons_of (tup3_ok rfl rfl rfl) rfl)))) (by show 4 ≤ 5000; decide)) rfl
  have p2 := sAsg_of (lk := lkOf [b]) (ts := [2]) (g := gdName 2) (d := B) (E := [some b, some A, none, none, none]) (E2 := [some b, some A, some B, none, none]) (f := eLst (eCons (eTup (eCons (eOf (qC (.str "less"))) (eCons (eOf (qC (.int 2))) eNil))) (eCons (eTup (eCons (eOf (qC (.str "odd"))) (eCons (eOf (qC (.int 1))) eNil))) eNil)))
    (by show (!lkOf [b] 2 && true) = true; rw [lk0 2 (by decide)]; rfl) (eLst_of (eCons_of (eTup_two rfl rfl) (eCons_of (eTup_two rfl rfl) rfl)) (by show 2 ≤ 5000; decide)) rfl
  -- kept
  obtain ⟨ops, E', s1, ⟨b1, hb1, rfl⟩, c1⟩ := eCompQ_some (own := [4]) (i := 1) (g := gdName 4) (tt := tdf (e2f opGt (eCall g__law_take (xSlot 0 (xVal (eOf (qC (.int 3))) xNil))) (eOf (qC (.int 0))))) (el := eVar 4) (Pv := fun E => ∃ b, Bag cs b ∧ E = [some b, some A, some B, none, none]) four (fun E ⟨b, _, e⟩ => by rw [e]; rfl) fz_opD (by decide)
    (fun t _ E ⟨b, hb, e⟩ => by
      subst e
      obtain ⟨b', v, hb', v0, v1, q⟩ := take_b hb (E := [some b, some A, some B, none, some (opD t)]) (i := 0) (f := eOf (qC (.int 3))) (n := 3) rfl rfl (by decide) (by decide)
      refine ⟨[some b, some A, some B, none, some (opD t)], [some b', some A, some B, none, some (opD t)], decide (0 < v), rfl, tdf_of (e2f_of (op := opGt) q rfl rfl), fun _ => ⟨b', hb', rfl⟩, fun _ => ⟨_, eVar_fz rfl (fz_opD t), b', hb', rfl⟩⟩) (E := [some b, some A, some B, none, none]) rfl rfl ⟨b, hb, rfl⟩
  have p3 := sAsg_of (lk := lkOf [b]) (ts := [3]) (g := gdName 3) (E2 := [some b1, some A, some B, some (.lst true (ops.map opD)), none]) (by show (!lkOf [b] 3 && true) = true; rw [lk0 3 (by decide)]; rfl) c1 rfl
  obtain ⟨qs, E', s2, ⟨b2, hb2, rfl⟩, c2⟩ := eCompQ_some (own := [4]) (i := 2) (g := gdName 4) (tt := tdf (e2f opEq (eCall g__law_take (xSlot 0 (xVal (eOf (qC (.int 2))) xNil))) (eOf (qC (.int 0))))) (el := eVar 4) (Pv := fun E => ∃ b, Bag cs b ∧ E = [some b, some A, some B, some (.lst true (ops.map opD)), none]) twoQ (fun E ⟨b, _, e⟩ => by rw [e]; rfl) fz_qnD (by decide)
    (fun t _ E ⟨b, hb, e⟩ => by
      subst e
      obtain ⟨b', v, hb', v0, v1, q⟩ := take_b hb (E := [some b, some A, some B, some (.lst true (ops.map opD)), some (qnD t)]) (i := 0) (f := eOf (qC (.int 2))) (n := 2) rfl rfl (by decide) (by decide)
      refine ⟨[some b, some A, some B, some (.lst true (ops.map opD)), some (qnD t)], [some b', some A, some B, some (.lst true (ops.map opD)), some (qnD t)], v == 0, rfl, tdf_of (e2f_of (op := opEq) q rfl (eq_int v 0)), fun _ => ⟨b', hb', rfl⟩, fun _ => ⟨_, eVar_fz rfl (fz_qnD t), b', hb', rfl⟩⟩) (E := [some b1, some A, some B, some (.lst true (ops.map opD)), none]) rfl rfl ⟨b1, hb1, rfl⟩
  refine ⟨ops, .tup (qs.map qnD), b2, s1, by simp only [isFz, isFzL_map qnD fz_qnD], hb2, runD_of (E' := [some b2, some A, some B, some (.lst true (ops.map opD)), none]) rfl ?_ (outsD_nz nz rfl)⟩
  exact sSeq_nx p1 (sSeq_nx p2 (sSeq_nx p3 (sRet_of (eTup_two (n1L_of (ds := [.lst true (ops.map opD)]) rfl (opTuple_lst true (isFzL_map opD fz_opD ops))) (e1L_of (op := opTuple) (g := eCons _ eNil) (eCons_of c2 rfl) (opTuple_lst true (isFzL_map qnD fz_qnD qs)))))))
end K31

namespace K31
open PySem Dm
/-! ### drawn rows -/
structure Ly (d : D) : Prop where
  dat : isDat d = true
  lay : (toP d).canLay0 = true
  dep : (toP d).depth ≤ 3
theorem ly_all : ∀ {xs : List D}, (∀ d ∈ xs, Ly d) → isDatL xs = true ∧ PyData.canLayAll0 (toPL xs) = true ∧ PyData.depthAll (toPL xs) ≤ 3
  | [], _ => ⟨rfl, rfl, Nat.zero_le _⟩
  | x :: xs, h => by
    have hx := h x List.mem_cons_self
    obtain ⟨a, b, c⟩ := ly_all fun d m => h d (List.mem_cons_of_mem _ m)
    refine ⟨by simp only [isDatL, hx.dat, a]; rfl, ?_, ?_⟩
    · rw [toPL]
      simp only [PyData.canLayAll0, hx.lay, b]
      rfl
    · rw [toPL]
      simp only [PyData.depthAll]
      have := hx.dep
      omega
theorem okEq_lst {xs : List D} (h : ∀ d ∈ xs, Ly d) : okEq (.lst true xs) = true := by
  obtain ⟨a, b, c⟩ := ly_all h
  unfold okEq SeqAt.shaped
  simp only [isDat, a, toP, PyData.canLay0, PyData.depth, b, Bool.true_and, decide_eq_true_eq]
  omega
theorem ne_any {xs : List D} (h : ∀ d ∈ xs, Ly d) : opNe (.lst true xs) (.lst true []) = some (.bl (!xs.isEmpty)) := by
  have e : opNe (.lst true xs) (.lst true []) = (if okEq (.lst true xs) = true ∧ okEq (.lst true []) = true then some (.bl (!PyData.eqv (toP (.lst true xs)) (toP (.lst true [])))) else none) := rfl
  rw [e, if_pos ⟨okEq_lst h, okEq_lst fun _ m => by cases m⟩]
  cases xs with
  | nil => simp [toP, toPL, PyData.eqv, PyData.eqvAll]
  | cons x xs => simp [toP, toPL, PyData.eqv, PyData.eqvAll]
theorem ly_let {s : Str} (h : PyData.strOk s = true) : Ly (Rw.let s).d := by
  have l : PyData.strOk "letter" = true := by decide +kernel
  refine ⟨rfl, ?_, ?_⟩
  · simp only [Rw.d, toP, toPL, PyData.canLay0, PyData.canLayAll0, h, l]; rfl
  · simp only [Rw.d, toP, toPL, PyData.depth, PyData.depthAll]; decide
theorem ly_num (n : Int) : Ly (Rw.num n).d := by
  have l : PyData.strOk "num" = true := by decide +kernel
  refine ⟨rfl, ?_, ?_⟩
  · simp only [Rw.d, toP, toPL, PyData.canLay0, PyData.canLayAll0, l]; rfl
  · simp only [Rw.d, toP, toPL, PyData.depth, PyData.depthAll]; decide
theorem lay_ints : ∀ ns : List Int, PyData.canLayAll0 (toPL (ns.map .int)) = true
  | [] => rfl
  | n :: ns => by
    rw [List.map_cons, toPL]
    simp only [toP, PyData.canLayAll0, PyData.canLay0, lay_ints ns]
    rfl
theorem ly_op {o : Str} (h : PyData.strOk o = true) (ks : List Nat) : Ly (Rw.op o ks).d := by
  have l : PyData.strOk "op" = true := by decide +kernel
  refine ⟨?_, ?_, ?_⟩
  · show (true && (true && (isDat (.tup (ks.map nD)) && true))) = true
    rw [nD_map]
    simp only [isDat, dat_ints]
    rfl
  · simp only [Rw.d, toP, toPL, PyData.canLay0, PyData.canLayAll0, h, l, nD_map, lay_ints]; rfl
  · simp only [Rw.d, toP, toPL, PyData.depth, PyData.depthAll, nD_map, depth_intsP]; decide
theorem ly_opD {p : Op} (h : PyData.strOk p.1 = true) : Ly (opD p) := by
  refine ⟨rfl, ?_, ?_⟩
  · simp only [opD, toP, toPL, PyData.canLay0, PyData.canLayAll0, h]; rfl
  · simp only [opD, toP, toPL, PyData.depth, PyData.depthAll]; decide
theorem strOk_four {p : Op} (h : p ∈ four) : PyData.strOk p.1 = true := by
  simp only [four, List.mem_cons, List.not_mem_nil, or_false] at h
  rcases h with e | e | e | e <;> subst e <;> decide +kernel
/-- one of frozen things, the list stays -/
theorem some_fz {cs : List Int} {b : D} (hb : Bag cs b) {ds : List D} (h0 : ds ≠ []) (h1 : ds.length ≤ 1000) (hz : ∀ d ∈ ds, isFz d = true) : ∃ b' d, Bag cs b' ∧ d ∈ ds ∧ g__law_some [b, .lst true ds] = some (d, [b', .lst true ds]) := by
  have hpos : 0 < ds.length := List.length_pos_iff.mpr h0
  obtain ⟨b', v, hb', v0, v1, q⟩ := take_b hb (E := [some b, some (.lst true ds)]) (i := 0) (f := n1L opLen (qCons (qVar 1) qNil)) (n := ds.length) rfl rfl (by omega) (by omega)
  obtain ⟨j, rfl⟩ : ∃ j : Nat, v = j := ⟨v.toNat, by omega⟩
  have hj : j < ds.length := by omega
  have hat : opIx (.lst true ds) (.int (j : Nat)) = some ds[j] := L2.atI_nat (List.getElem?_eq_getElem hj)
  refine ⟨b', ds[j], hb', List.getElem_mem hj, runD_of (E' := [some b', some (.lst true ds)]) rfl (sRet_of ?_) (outsD_nz (bag_nz hb) rfl)⟩
  show eIxN 1 _ [some b, some (.lst true ds)] = _
  unfold eIxN
  show (match eCall g__law_take (xSlot 0 (xVal (n1L opLen (qCons (qVar 1) qNil)) xNil)) [some b, some (.lst true ds)] with | some (k, E1) => _ | none => _) = _
  rw [q]
  show (match opIxF (.lst true ds) (.int (j : Nat)) with | some d => some (d, [some b', some (.lst true ds)]) | none => _) = _
  have : opIxF (.lst true ds) (.int (j : Nat)) = some ds[j] := by
    unfold opIxF
    rw [hat]
    exact if_pos (hz _ (List.getElem_mem hj))
  rw [this]
theorem some_s {cs : List Int} {b : D} (hb : Bag cs b) {E : Ev} {i j : Nat} {ds : List D} (he : E[i]? = some (some b)) (hj : E[j]? = some (some (.lst true ds))) (hij : i ≠ j) (h0 : ds ≠ []) (h1 : ds.length ≤ 1000) (hz : ∀ d ∈ ds, isFz d = true) :
    ∃ b' d, Bag cs b' ∧ d ∈ ds ∧ eCall g__law_some (xSlot i (xSlot j xNil)) E = some (d, E.set i (some b')) := by
  obtain ⟨b', d, hb', hd, q⟩ := some_fz hb h0 h1 hz
  have nb := bag_nz hb
  have hj2 : (E.set i none)[j]? = some (some (.lst true ds)) := by rw [List.getElem?_set_ne hij]; exact hj
  have gt : gather [.inl i, .inl j] E = some ([b, .lst true ds], (E.set i none).set j none) := by
    unfold gather
    rw [he]
    show (if isFz b = true then _ else (match gather [.inl j] (E.set i none) with | some (ds, E') => some (b :: ds, E') | none => none)) = _
    rw [nb]
    show (match gather [.inl j] (E.set i none) with | some (ds, E') => some (b :: ds, E') | none => none) = _
    unfold gather
    rw [hj2]
    rfl
  refine ⟨b', d, hb', hd, (eCall_of (as := [.inl i, .inl j]) (E1 := E) (xSlot_of he (xSlot_of hj rfl)) gt q).trans ?_⟩
  congr 2
  show (((E.set i none).set j none).set i (some b')).set j (some (.lst true ds)) = E.set i (some b')
  refine List.ext_getElem? fun k => ?_
  have li : i < E.length := (List.getElem?_eq_some_iff.mp he).1
  have lj : j < E.length := (List.getElem?_eq_some_iff.mp hj).1
  by_cases a : j = k
  · subst a
    rw [List.getElem?_set_self (by simp only [List.length_set]; exact lj), List.getElem?_set_ne hij, hj]
  · rw [List.getElem?_set_ne a]
    by_cases c : i = k
    · subst c
      rw [List.getElem?_set_self (by simp only [List.length_set]; exact li), List.getElem?_set_self li]
    · rw [List.getElem?_set_ne c, List.getElem?_set_ne a, List.getElem?_set_ne c, List.getElem?_set_ne c]
structure Dr (ops : List Op) (R : List Rw) : Prop where
  ok : ∀ i r, R[i]? = some r → Okr i r
  all : ∀ r ∈ R, OkS ops r ∧ Ly r.d ∧ ∀ n, r = .num n → -3 ≤ n ∧ n ≤ 3
theorem Okr.mono {n m : Nat} {r : Rw} (h : Okr n r) (l : n ≤ m) : Okr m r := by
  cases r with
  | op o ks => exact ⟨h.1, fun k mk => Nat.lt_of_lt_of_le (h.2 k mk) l⟩
  | _ => trivial
theorem dr_app {ops : List Op} {R : List Rw} (h : Dr ops R) {r : Rw} (o : Okr R.length r) (s : OkS ops r) (l : Ly r.d) (n : ∀ n, r = .num n → -3 ≤ n ∧ n ≤ 3) : Dr ops (R ++ [r]) := by
  refine ⟨fun i x e => ?_, fun x m => ?_⟩
  · by_cases hi : i < R.length
    · rw [List.getElem?_append_left hi] at e; exact h.ok i x e
    · have e2 : i = R.length := by
        have := (List.getElem?_eq_some_iff.mp e).1
        rw [List.length_append, List.length_singleton] at this
        omega
      subst e2
      rw [List.getElem?_append_right (Nat.le_refl _), Nat.sub_self] at e
      cases e
      exact o
  · rcases List.mem_append.mp m with m | m
    · exact h.all x m
    · rw [List.mem_singleton.mp m]; exact ⟨s, l, n⟩
theorem app_rw {R : List Rw} {r : Rw} (h : R.length ≤ 1000) : mAppend (R.map Rw.d) [r.d] = some (.non, (R ++ [r]).map Rw.d) := by
  rw [List.map_append]
  exact if_pos (by rw [List.length_map]; exact Nat.lt_of_le_of_lt h (by decide))
end K31

namespace K31
open PySem Dm
/-! ### drawn rows: one lap -/
def rwE (b S : D) (R : List Rw) (c4 c5 c6 c7 c8 : Option D) : Ev := [some b, some S, some (.int 18), some (.lst true (R.map Rw.d)), c4, c5, c6, c7, c8, none, none]
theorem compL_draw {own : List Nat} {g : D → Ev → Option Ev} {el : Ev → Option (D × Ev)} {Pv : Ev → Prop} {Q : Nat → Prop} : ∀ (xs : List D), (∀ x ∈ xs, ∀ E, Pv E → ∃ E1 E3 k, g x E = some E1 ∧ el E1 = some (nD k, E3) ∧ Q k ∧ Pv (wipeE E3 own)) → ∀ E, Pv E →
    ∃ (ks : List Nat) (E' : Ev), ks.length = xs.length ∧ (∀ k ∈ ks, Q k) ∧ Pv E' ∧ compL own g dYes el xs E = some (ks.map nD, E')
  | [], _, E, p => ⟨[], E, rfl, fun _ m => (by cases m), p, rfl⟩
  | x :: xs, turn, E, p => by
    obtain ⟨E1, E3, k, h1, h2, hq, h3⟩ := turn x List.mem_cons_self E p
    obtain ⟨ks, E', l, hk, p', q⟩ := compL_draw xs (fun y m => turn y (List.mem_cons_of_mem _ m)) _ h3
    refine ⟨k :: ks, E', by simp [l], fun j m => ?_, p', ?_⟩
    · rcases List.mem_cons.mp m with m | m
      · rw [m]; exact hq
      · exact hk j m
    · unfold compL
      rw [h1]
      show (match el E1 with | some (d, E3) => (match compL own g dYes el xs (wipeE E3 own) with | some (ds, E4) => some (d :: ds, E4) | none => none) | none => none) = _
      rw [h2]
      show (match compL own g dYes el xs (wipeE E3 own) with | some (ds, E4) => some (nD k :: ds, E4) | none => none) = _
      rw [q]
      rfl
theorem iRange_var {i m : Nat} {E : Ev} (h : E[i]? = some (some (.int (m : Nat)))) (hm : m ≤ 1000) : iRange (eCons (eVar i) eNil) E = some ((List.range m).map nD, E) := by
  unfold iRange
  rw [eCons_of (eVar_fz h rfl) (rfl : eNil E = some ([], E))]
  show (if big62 ((m : Nat) : Int) = true then some (rangeD 0 ((m : Nat) : Int).toNat, E) else none) = _
  rw [if_pos (big62_iff.mpr ⟨by omega, by omega⟩)]
  unfold rangeD
  congr 2
  refine List.map_congr_left fun k _ => ?_
  show D.int (0 + (k : Int)) = .int k
  rw [Int.zero_add]
theorem opLen_lst (o : Bool) (xs : List D) : opLen [.lst o xs] = some (.int xs.length) := rfl
theorem range7 {b S : D} {R : List Rw} {c4 c5 c6 c8 : Option D} {m : Nat} (hm : m ≤ 3) : iRange (eCons (eVar 7) eNil) (rwE b S R c4 c5 c6 (some (.int (m : Nat))) c8) = some ((List.range m).map nD, rwE b S R c4 c5 c6 (some (.int (m : Nat))) c8) := by
  have e : (rwE b S R c4 c5 c6 (some (.int (m : Nat))) c8)[7]? = some (some (.int (m : Nat))) := rfl
  have h : m ≤ 1000 := by omega
  exact iRange_var e h
theorem eComp_do {own : List Nat} {fi : Ev → Option (List D × Ev)} {g : D → Ev → Option Ev} {tt : Ev → Option (Bool × Ev)} {el : Ev → Option (D × Ev)} {E E1 E2 : Ev} {xs ds : List D} (h : fi E = some (xs, E1)) (ho : ownFz E1 own = true) (hc : compL own g tt el xs (wipeE E1 own) = some (ds, E2)) (hl : ds.length ≤ sizeLine) :
    eComp own fi g tt el E = some (.lst true ds, backE E1 E2 own) := by
  unfold eComp
  rw [h]
  show (if ownFz E1 own = true then (match compL own g tt el xs (wipeE E1 own) with | some (ds, E2) => (if ds.length ≤ sizeLine then some (D.lst true ds, backE E1 E2 own) else none) | none => none) else none) = _
  rw [if_pos ho, hc]
  show (if ds.length ≤ sizeLine then some (D.lst true ds, backE E1 E2 own) else none) = _
  rw [if_pos hl]
theorem drawKs {cs : List Int} {b S : D} {R : List Rw} {c4 c5 c6 c8 : Option D} {m : Nat} (hb : Bag cs b) (h0 : R ≠ []) (h1 : R.length ≤ 1000) (hm : m ≤ 3) :
    ∃ (ks : List Nat) (b' : D), Bag cs b' ∧ ks.length = m ∧ (∀ k ∈ ks, k < R.length) ∧
      eComp [10] (iRange (eCons (eVar 7) eNil)) (gdName 10) dYes (eCall g__law_take (xSlot 0 (xVal (n1L opLen (qCons (qVar 3) qNil)) xNil))) (rwE b S R c4 c5 c6 (some (.int (m : Nat))) c8)
        = some (.lst true (ks.map nD), rwE b' S R c4 c5 c6 (some (.int (m : Nat))) c8) := by
  have hpos : 0 < R.length := List.length_pos_iff.mpr h0
  obtain ⟨ks, E', l, hk, ⟨b', hb', rfl⟩, q⟩ := compL_draw (own := [10]) (g := gdName 10) (el := eCall g__law_take (xSlot 0 (xVal (n1L opLen (qCons (qVar 3) qNil)) xNil))) (Pv := fun E => ∃ b, Bag cs b ∧ E = rwE b S R c4 c5 c6 (some (.int (m : Nat))) c8) (Q := fun k => k < R.length) ((List.range m).map nD)
    (fun x mx E ⟨b, hb, e⟩ => by
      subst e
      obtain ⟨b', v, hb', v0, v1, q⟩ := take_b hb (E := [some b, some S, some (.int 18), some (.lst true (R.map Rw.d)), c4, c5, c6, some (.int (m : Nat)), c8, none, some x]) (i := 0) (f := n1L opLen (qCons (qVar 3) qNil)) (n := R.length) rfl (n1L_of (ds := [.lst true (R.map Rw.d)]) rfl (by rw [opLen_lst, List.length_map])) (by omega) (by omega)
      obtain ⟨j, rfl⟩ : ∃ j : Nat, v = j := ⟨v.toNat, by omega⟩
      exact ⟨_, _, j, rfl, q, by omega, b', hb', rfl⟩) (rwE b S R c4 c5 c6 (some (.int (m : Nat))) c8) ⟨b, hb, rfl⟩
  rw [List.length_map, List.length_range] at l
  refine ⟨ks, b', hb', l, hk, ?_⟩
  have ln : (ks.map nD).length ≤ sizeLine := by rw [List.length_map, l]; exact Nat.le_trans hm (by decide)
  exact eComp_do (E1 := rwE b S R c4 c5 c6 (some (.int (m : Nat))) c8) (E2 := rwE b' S R c4 c5 c6 (some (.int (m : Nat))) c8) (range7 hm) rfl q ln
/-- a row that is an operation -/
theorem lapA {cs : List Int} {b S : D} {R : List Rw} {c4 c6 c7 c8 : Option D} {lk : Lks} (hlk : ∀ j, 3 ≤ j → lk j = false) {ops : List Op} (hs : ops.Sublist four) (ho : ops ≠ []) (hb : Bag cs b) (dr : Dr ops R) (h0 : R ≠ []) (h1 : R.length ≤ 100) :
    ∃ b' r c6' c7' c8', Bag cs b' ∧ Dr ops (R ++ [r]) ∧
      sSeq (sAsg lk [6, 7, 8] (eCall g__law_some (xSlot 0 (xSlot 5 xNil))) (gdTup 3 (gdCons (gdName 6) (gdCons (gdName 7) (gdCons (gdName 8) gdNil))))) (sExpr (eMt 3 mAppend (eCons (eTup (eCons (eOf (qC (.str "op"))) (eCons (eVar 6) (eCons (e1L opTuple (eCons (eComp [10] (iRange (eCons (eVar 7) eNil)) (gdName 10) dYes (eCall g__law_take (xSlot 0 (xVal (n1L opLen (qCons (qVar 3) qNil)) xNil)))) eNil)) eNil)))) eNil)))
        (rwE b S R c4 (some (.lst true (ops.map opD))) c6 c7 c8) = some (.nx (rwE b' S (R ++ [r]) c4 (some (.lst true (ops.map opD))) c6' c7' c8')) := by
  have hlen : ops.length ≤ 4 := hs.length_le
  obtain ⟨b1, d, hb1, hd, q⟩ := some_s hb (E := rwE b S R c4 (some (.lst true (ops.map opD))) c6 c7 c8) (i := 0) (j := 5) (ds := ops.map opD) rfl rfl (by decide) (by simpa using ho) (by rw [List.length_map]; omega) (fun d m => by obtain ⟨p, _, e⟩ := List.mem_map.mp m; rw [← e]; exact fz_opD p)
  obtain ⟨p, hp, rfl⟩ := List.mem_map.mp hd
  have har : p.2.1 ≤ 3 := ((sg_four hs).ar p hp).2.1
  obtain ⟨ks, b2, hb2, l, hk, q2⟩ := drawKs (S := S) (c4 := c4) (c5 := some (.lst true (ops.map opD))) (c6 := some (.str p.1)) (c8 := some (.int p.2.2)) hb1 h0 (by omega : R.length ≤ 1000) har
  have strp := strOk_four (hs.subset hp)
  refine ⟨b2, .op p.1 ks, some (.str p.1), some (.int (p.2.1 : Nat)), some (.int p.2.2), hb2, dr_app dr ⟨by omega, hk⟩ ⟨p, hp, rfl, l⟩ (ly_op strp ks) (fun n e => by cases e), ?_⟩
  have p1 := sAsg_of (lk := lk) (ts := [6, 7, 8]) (g := gdTup 3 (gdCons (gdName 6) (gdCons (gdName 7) (gdCons (gdName 8) gdNil)))) (E2 := rwE b1 S R c4 (some (.lst true (ops.map opD))) (some (.str p.1)) (some (.int (p.2.1 : Nat))) (some (.int p.2.2))) (by simp [hlk]) q rfl
  refine sSeq_nx p1 (sExpr_of (d := .non) (E1 := rwE b2 S (R ++ [.op p.1 ks]) c4 (some (.lst true (ops.map opD))) _ _ _) ?_)
  refine eMt_of (i := 3) (xs0 := R.map Rw.d) (xs := R.map Rw.d) (E := rwE b1 S R c4 (some (.lst true (ops.map opD))) (some (.str p.1)) (some (.int (p.2.1 : Nat))) (some (.int p.2.2))) (E1 := rwE b2 S R c4 (some (.lst true (ops.map opD))) (some (.str p.1)) (some (.int (p.2.1 : Nat))) (some (.int p.2.2))) rfl (eCons_of (eTup_of (eCons_of rfl (eCons_of (eVar_fz rfl rfl) (eCons_of (e1L_of (eCons_of q2 rfl) (opTuple_lst true (fz_nDs ks))) rfl))) (by simp)) rfl) rfl (app_rw (r := .op p.1 ks) (by omega))
/-- a row that is a letter or a number -/
def six : List D := [.str "x", .str "y", .str "r1", .str "", .str "event 0", .str "X z"]
theorem six_str {d : D} (h : d ∈ six) : ∃ s : Str, d = .str s ∧ PyData.strOk s = true := by
  simp only [six, List.mem_cons, List.not_mem_nil, or_false] at h
  rcases h with e | e | e | e | e | e <;> subst e <;> exact ⟨_, rfl, by decide +kernel⟩
theorem lapB {cs : List Int} {b S : D} {R : List Rw} {c4 c5 c6 c7 c8 : Option D} {ops : List Op} (hb : Bag cs b) (dr : Dr ops R) (h1 : R.length ≤ 100) :
    ∃ b' r, Bag cs b' ∧ Dr ops (R ++ [r]) ∧
      sExpr (eMt 3 mAppend (eCons (eCall g__law_some (xSlot 0 (xVal (eLst (eCons (eTup (eCons (eOf (qC (.str "letter"))) (eCons (eCall g__law_some (xSlot 0 (xVal (eLst (eCons (eOf (qC (.str "x"))) (eCons (eOf (qC (.str "y"))) (eCons (eOf (qC (.str "r1"))) (eCons (eOf (qC (.str ""))) (eCons (eOf (qC (.str "event 0"))) (eCons (eOf (qC (.str "X z"))) eNil))))))) xNil))) eNil))) (eCons (eTup (eCons (eOf (qC (.str "num"))) (eCons (e2f opSub (eCall g__law_take (xSlot 0 (xVal (eOf (qC (.int 7))) xNil))) (eOf (qC (.int 3)))) eNil))) eNil))) xNil))) eNil))
        (rwE b S R c4 c5 c6 c7 c8) = some (.nx (rwE b' S (R ++ [r]) c4 c5 c6 c7 c8)) := by
  obtain ⟨b1, d, hb1, hd, q1⟩ := some_b hb hb (E := rwE b S R c4 c5 c6 c7 c8) (E1 := rwE b S R c4 c5 c6 c7 c8) (i := 0) (ds := six) (f := eLst (eCons (eOf (qC (.str "x"))) (eCons (eOf (qC (.str "y"))) (eCons (eOf (qC (.str "r1"))) (eCons (eOf (qC (.str ""))) (eCons (eOf (qC (.str "event 0"))) (eCons (eOf (qC (.str "X z"))) eNil))))))) rfl (eLst_of rfl (by decide)) rfl (by decide) (by decide) (fun d m => by obtain ⟨s, e, _⟩ := six_str m; subst e; rfl)
  obtain ⟨s, rfl, hs⟩ := six_str hd
  have fs : froz (.str s) = .str s := rfl
  rw [fs] at q1
  obtain ⟨b2, v, hb2, v0, v1, q2⟩ := take_b hb1 (E := rwE b1 S R c4 c5 c6 c7 c8) (i := 0) (f := eOf (qC (.int 7))) (n := 7) rfl rfl (by decide) (by decide)
  have lst : eLst (eCons (eTup (eCons (eOf (qC (.str "letter"))) (eCons (eCall g__law_some (xSlot 0 (xVal (eLst (eCons (eOf (qC (.str "x"))) (eCons (eOf (qC (.str "y"))) (eCons (eOf (qC (.str "r1"))) (eCons (eOf (qC (.str ""))) (eCons (eOf (qC (.str "event 0"))) (eCons (eOf (qC (.str "X z"))) eNil))))))) xNil))) eNil))) (eCons (eTup (eCons (eOf (qC (.str "num"))) (eCons (e2f opSub (eCall g__law_take (xSlot 0 (xVal (eOf (qC (.int 7))) xNil))) (eOf (qC (.int 3)))) eNil))) eNil)) (rwE b S R c4 c5 c6 c7 c8)
      = some (.lst true [(Rw.let s).d, (Rw.num (v - 3)).d], rwE b2 S R c4 c5 c6 c7 c8) :=
    eLst_of (eCons_of (eTup_two rfl q1) (eCons_of (eTup_two (E1 := rwE b1 S R c4 c5 c6 c7 c8) rfl (e2f_of (op := opSub) q2 rfl rfl)) rfl)) (by show 2 ≤ 5000; decide)
  obtain ⟨b3, d, hb3, hd3, q3⟩ := some_b hb hb2 (E := rwE b S R c4 c5 c6 c7 c8) (E1 := rwE b2 S R c4 c5 c6 c7 c8) (i := 0) rfl lst rfl (by simp) (by show 2 ≤ 1000; decide) (fun d m => by
    simp only [List.mem_cons, List.not_mem_nil, or_false] at m
    rcases m with e | e <;> subst e <;> rfl)
  have : ∃ r : Rw, froz d = r.d ∧ Dr ops (R ++ [r]) := by
    simp only [List.mem_cons, List.not_mem_nil, or_false] at hd3
    rcases hd3 with e | e
    · exact ⟨.let s, by rw [e]; exact froz_fz _ (Rw.fz _), dr_app dr trivial trivial (ly_let hs) (fun n e => by cases e)⟩
    · exact ⟨.num (v - 3), by rw [e]; exact froz_fz _ (Rw.fz _), dr_app dr trivial trivial (ly_num _) (fun n e => by cases e; omega)⟩
  obtain ⟨r, er, dr'⟩ := this
  rw [er] at q3
  exact ⟨b3, r, hb3, dr', sExpr_of (E1 := rwE b3 S (R ++ [r]) c4 c5 c6 c7 c8) (eMt_of (i := 3) (xs0 := R.map Rw.d) (xs := R.map Rw.d) (E := rwE b S R c4 c5 c6 c7 c8) (E1 := rwE b3 S R c4 c5 c6 c7 c8) rfl (eCons_of q3 rfl) rfl (app_rw (r := r) (by omega)))⟩
/-- a row that came before, once more -/
theorem lapC {cs : List Int} {b S : D} {R : List Rw} {c4 c5 c6 c7 c8 : Option D} {ops : List Op} (hb : Bag cs b) (dr : Dr ops R) (h0 : R ≠ []) (h1 : R.length ≤ 100) :
    ∃ b' R', Bag cs b' ∧ Dr ops R' ∧ R' ≠ [] ∧ R'.length ≤ R.length + 1 ∧
      sIf (tdf (e2f opEq (eCall g__law_take (xSlot 0 (xVal (eOf (qC (.int 6))) xNil))) (eOf (qC (.int 0))))) (sExpr (eMt 3 mAppend (eCons (eCall g__law_some (xSlot 0 (xSlot 3 xNil))) eNil))) sNil
        (rwE b S R c4 c5 c6 c7 c8) = some (.nx (rwE b' S R' c4 c5 c6 c7 c8)) := by
  obtain ⟨b1, v, hb1, v0, v1, q1⟩ := take_b hb (E := rwE b S R c4 c5 c6 c7 c8) (i := 0) (f := eOf (qC (.int 6))) (n := 6) rfl rfl (by decide) (by decide)
  have c : tdf (e2f opEq (eCall g__law_take (xSlot 0 (xVal (eOf (qC (.int 6))) xNil))) (eOf (qC (.int 0)))) (rwE b S R c4 c5 c6 c7 c8) = some (v == 0, rwE b1 S R c4 c5 c6 c7 c8) := tdf_of (e2f_of (op := opEq) q1 rfl (eq_int v 0))
  by_cases hv : (v == 0) = true
  · rw [hv] at c
    obtain ⟨b2, d, hb2, hd, q2⟩ := some_s hb1 (E := rwE b1 S R c4 c5 c6 c7 c8) (i := 0) (j := 3) (ds := R.map Rw.d) rfl rfl (by decide) (by simpa using h0) (by rw [List.length_map]; omega) (fun d m => by obtain ⟨r, _, e⟩ := List.mem_map.mp m; rw [← e]; exact r.fz)
    obtain ⟨r, hr, rfl⟩ := List.mem_map.mp hd
    obtain ⟨i, hi, e⟩ := List.getElem_of_mem hr
    have ok : Okr R.length r := (dr.ok i r (by rw [List.getElem?_eq_getElem hi, e])).mono (by omega)
    obtain ⟨s, l, n⟩ := dr.all r hr
    exact ⟨b2, R ++ [r], hb2, dr_app dr ok s l n, by simp, by simp, sIf_t c (sExpr_of (eMt_of (i := 3) (xs0 := R.map Rw.d) (xs := R.map Rw.d) (E1 := rwE b2 S R c4 c5 c6 c7 c8) rfl (eCons_of q2 rfl) rfl (app_rw (r := r) (by omega))))⟩
  · rw [Bool.eq_false_iff.mpr hv] at c
    exact ⟨b1, R, hb1, dr, h0, by omega, sIf_f c rfl⟩
end K31

namespace K31
open PySem Dm
theorem lotD {b : D} {ops : List Op} {q : D} {R : List Rw} {c4 c5 c6 c7 c8 : Option D} {lk : Lks} (hlk : ∀ j, 3 ≤ j → lk j = false) (hs : ops.Sublist four) (hR : ∀ r ∈ R, Ly r.d) :
    sAsg lk [5] (eIf (tOfQ (tqf (q2f opNe (qVar 3) (qLst qNil)))) (eComp [9] (iSeq (eOf (q2f opIx (qVar 1) (qC (.int 0))))) (gdName 9) dYes (eVar 9)) (eLst eNil)) (gdName 5) (rwE b (sgD ops q) R c4 c5 c6 c7 c8)
      = some (.nx (rwE b (sgD ops q) R c4 (some (.lst true ((if R = [] then [] else ops).map opD))) c6 c7 c8)) := by
  have c : q2f opNe (qVar 3) (qLst qNil) (rwE b (sgD ops q) R c4 c5 c6 c7 c8) = some (.bl (!(R.map Rw.d).isEmpty)) := by
    refine q2f_of (x := .lst true (R.map Rw.d)) (y := .lst true []) rfl rfl (ne_any fun d m => ?_)
    obtain ⟨r, hr, e⟩ := List.mem_map.mp m
    rw [← e]; exact hR r hr
  have hl : [5].all (fun i => !lk i) = true := by simp [hlk]
  have key : eIf (tOfQ (tqf (q2f opNe (qVar 3) (qLst qNil)))) (eComp [9] (iSeq (eOf (q2f opIx (qVar 1) (qC (.int 0))))) (gdName 9) dYes (eVar 9)) (eLst eNil) (rwE b (sgD ops q) R c4 c5 c6 c7 c8) = some (.lst true ((if R = [] then [] else ops).map opD), rwE b (sgD ops q) R c4 c5 c6 c7 c8) := by
    cases R with
    | nil => exact eIf_f (tOfQ_of (tqf_of c)) rfl
    | cons r R =>
      refine eIf_t (tOfQ_of (tqf_of c)) ?_
      rw [if_neg (List.cons_ne_nil r R)]
      have hlen : ops.length ≤ 4 := hs.length_le
      have w : ∀ t ∈ ops, ∃ E1 E3, gdName 9 (opD t) (rwE b (sgD ops q) (r :: R) c4 c5 c6 c7 c8) = some E1 ∧ eVar 9 E1 = some (opD t, E3) ∧ wipeE E3 [9] = rwE b (sgD ops q) (r :: R) c4 c5 c6 c7 c8 := fun t _ => ⟨_, _, rfl, eVar_fz rfl (fz_opD t), rfl⟩
      exact eComp_all (own := [9]) opD opD ops (E1 := rwE b (sgD ops q) (r :: R) c4 c5 c6 c7 c8) (E0 := rwE b (sgD ops q) (r :: R) c4 c5 c6 c7 c8) (iSeq_ops rfl) rfl rfl rfl (Nat.le_trans hlen (by decide)) w
  exact sAsg_of hl key rfl
theorem lap_ok {cs : List Int} {b : D} {ops : List Op} {q : D} {R : List Rw} {c4 c5 c6 c7 c8 : Option D} {lk : Lks} (hlk : ∀ j, 3 ≤ j → lk j = false) (hs : ops.Sublist four) (hb : Bag cs b) (dr : Dr ops R) (h1 : R.length ≤ 90) :
    ∃ b' R' c5' c6' c7' c8', Bag cs b' ∧ Dr ops R' ∧ R' ≠ [] ∧ R'.length ≤ R.length + 2 ∧ l__law_drawn_rows_1 lk (rwE b (sgD ops q) R c4 c5 c6 c7 c8) = some (.nx (rwE b' (sgD ops q) R' c4 c5' c6' c7' c8')) := by
  have p1 := lotD (b := b) (q := q) (c4 := c4) (c5 := c5) (c6 := c6) (c7 := c7) (c8 := c8) hlk hs (R := R) fun r m => (dr.all r m).2.1
  -- step 2
  have p2 : ∃ b' r c6' c7' c8', Bag cs b' ∧ Dr ops (R ++ [r]) ∧ (sIf (dAnd (tOfQ (tqf (q2f opNe (qVar 5) (qLst qNil)))) (tdf (e2f opGt (eCall g__law_take (xSlot 0 (xVal (eOf (qC (.int 3))) xNil))) (eOf (qC (.int 0)))))) (sSeq (sAsg lk [6, 7, 8] (eCall g__law_some (xSlot 0 (xSlot 5 xNil))) (gdTup 3 (gdCons (gdName 6) (gdCons (gdName 7) (gdCons (gdName 8) gdNil)))))
  (sExpr (eMt 3 mAppend (eCons (eTup (eCons (eOf (qC (.str "op"))) (eCons (eVar 6) (eCons (e1L opTuple (eCons (eComp [10] (iRange (eCons (eVar 7) eNil)) (gdName 10) dYes (eCall g__law_take (xSlot 0 (xVal (n1L opLen (qCons (qVar 3) qNil)) xNil)))) eNil)) eNil)))) eNil)))) (sExpr (eMt 3 mAppend (eCons (eCall g__law_some (xSlot 0 (xVal (eLst (eCons (eTup (eCons (eOf (qC (.str "letter"))) (eCons (eCall g__law_some (xSlot 0 (xVal (eLst (eCons (eOf (qC (.str "x"))) (eCons (eOf (qC (.str "y"))) (eCons (eOf (qC (.str "r1"))) (eCons (eOf (qC (.str ""))) (eCons (eOf (qC (.str "event 0"))) (eCons (eOf (qC (.str "X z"))) eNil))))))) xNil))) eNil))) (eCons (eTup (eCons (eOf (qC (.str "num"))) (eCons (e2f opSub (eCall g__law_take (xSlot 0 (xVal (eOf (qC (.int 7))) xNil))) (eOf (qC (.int 3)))) eNil))) eNil))) xNil))) eNil))))
      (rwE b (sgD ops q) R c4 (some (.lst true ((if R = [] then [] else ops).map opD))) c6 c7 c8) = some (.nx (rwE b' (sgD ops q) (R ++ [r]) c4 (some (.lst true ((if R = [] then [] else ops).map opD))) c6' c7' c8')) := by
    have c : ∀ L : List Op, L.Sublist four → tOfQ (tqf (q2f opNe (qVar 5) (qLst qNil))) (rwE b (sgD ops q) R c4 (some (.lst true (L.map opD))) c6 c7 c8) = some (!(L.map opD).isEmpty, rwE b (sgD ops q) R c4 (some (.lst true (L.map opD))) c6 c7 c8) := fun L hL => by
      refine tOfQ_of (tqf_of (q2f_of (x := .lst true (L.map opD)) (y := .lst true []) rfl rfl (ne_any fun d m => ?_)))
      obtain ⟨p, hp, e⟩ := List.mem_map.mp m
      rw [← e]; exact ly_opD (strOk_four (hL.subset hp))
    by_cases h0 : R = []
    · subst h0
      rw [if_pos rfl]
      obtain ⟨b', r, hb', dr', q'⟩ := lapB (S := sgD ops q) (c4 := c4) (c5 := some (.lst true ([] : List D))) (c6 := c6) (c7 := c7) (c8 := c8) hb dr (by simp)
      exact ⟨b', r, c6, c7, c8, hb', dr', sIf_f (dAnd_f (c [] (List.nil_sublist _))) q'⟩
    · rw [if_neg h0]
      by_cases ho : ops = []
      · subst ho
        obtain ⟨b', r, hb', dr', q'⟩ := lapB (S := sgD [] q) (c4 := c4) (c5 := some (.lst true ([] : List D))) (c6 := c6) (c7 := c7) (c8 := c8) hb dr (by omega)
        exact ⟨b', r, c6, c7, c8, hb', dr', sIf_f (dAnd_f (c [] (List.nil_sublist _))) q'⟩
      · obtain ⟨b1, v, hb1, v0, v1, q1⟩ := take_b hb (E := rwE b (sgD ops q) R c4 (some (.lst true (ops.map opD))) c6 c7 c8) (i := 0) (f := eOf (qC (.int 3))) (n := 3) rfl rfl (by decide) (by decide)
        have c1 := c ops hs
        have ne : (!(ops.map opD).isEmpty) = true := by cases ops with | nil => exact absurd rfl ho | cons => rfl
        rw [ne] at c1
        have c2 : tdf (e2f opGt (eCall g__law_take (xSlot 0 (xVal (eOf (qC (.int 3))) xNil))) (eOf (qC (.int 0)))) (rwE b (sgD ops q) R c4 (some (.lst true (ops.map opD))) c6 c7 c8) = some (decide (0 < v), rwE b1 (sgD ops q) R c4 (some (.lst true (ops.map opD))) c6 c7 c8) := tdf_of (e2f_of (op := opGt) q1 rfl rfl)
        by_cases hv : 0 < v
        · rw [decide_eq_true hv] at c2
          obtain ⟨b', r, c6', c7', c8', hb', dr', q'⟩ := lapA (S := sgD ops q) (c4 := c4) (c6 := c6) (c7 := c7) (c8 := c8) hlk hs ho hb1 dr h0 (by omega)
          exact ⟨b', r, c6', c7', c8', hb', dr', sIf_t (dAnd_t c1 c2) q'⟩
        · rw [decide_eq_false hv] at c2
          obtain ⟨b', r, hb', dr', q'⟩ := lapB (S := sgD ops q) (c4 := c4) (c5 := some (.lst true (ops.map opD))) (c6 := c6) (c7 := c7) (c8 := c8) hb1 dr (by omega)
          exact ⟨b', r, c6, c7, c8, hb', dr', sIf_f (dAnd_t c1 c2) q'⟩
  obtain ⟨b1, r, c6', c7', c8', hb1, dr1, p2⟩ := p2
  have l1 : (R ++ [r]).length = R.length + 1 := by simp
  obtain ⟨b2, R2, hb2, dr2, ne2, l2, p3⟩ := lapC (S := sgD ops q) (c4 := c4) (c5 := some (.lst true ((if R = [] then [] else ops).map opD))) (c6 := c6') (c7 := c7') (c8 := c8') hb1 dr1 (by simp) (by omega)
  exact ⟨b2, R2, _, _, _, _, hb2, dr2, ne2, by omega, sSeq_nx p1 (sSeq_nx p2 p3)⟩
theorem laps_ok {cs : List Int} {ops : List Op} {q : D} {lk : Lks} (hlk : ∀ j, 3 ≤ j → lk j = false) (hs : ops.Sublist four) : ∀ (xs : List D) {b : D} {R : List Rw} {c4 c5 c6 c7 c8 : Option D}, Bag cs b → Dr ops R → R.length + 2 * xs.length ≤ 90 →
    ∃ b' R' c4' c5' c6' c7' c8', Bag cs b' ∧ Dr ops R' ∧ (xs ≠ [] ∨ R ≠ [] → R' ≠ []) ∧ R'.length ≤ R.length + 2 * xs.length ∧ forL (gdName 4) (l__law_drawn_rows_1 lk) xs (rwE b (sgD ops q) R c4 c5 c6 c7 c8) = some (.nx (rwE b' (sgD ops q) R' c4' c5' c6' c7' c8'))
  | [], b, R, c4, c5, c6, c7, c8, hb, dr, _ => ⟨b, R, c4, c5, c6, c7, c8, hb, dr, fun h => h.elim (fun e => absurd rfl e) id, by simp, rfl⟩
  | x :: xs, b, R, c4, c5, c6, c7, c8, hb, dr, h => by
    rw [List.length_cons] at h
    obtain ⟨b1, R1, c51, c61, c71, c81, hb1, dr1, ne1, l1, q1⟩ := lap_ok (b := b) (q := q) (c4 := some x) (c5 := c5) (c6 := c6) (c7 := c7) (c8 := c8) hlk hs hb dr (by omega)
    obtain ⟨b2, R2, c42, c52, c62, c72, c82, hb2, dr2, ne2, l2, q2⟩ := laps_ok hlk hs xs (c4 := some x) (c5 := c51) (c6 := c61) (c7 := c71) (c8 := c81) hb1 dr1 (by omega)
    refine ⟨b2, R2, c42, c52, c62, c72, c82, hb2, dr2, fun _ => ne2 (.inr ne1), by rw [List.length_cons]; omega, ?_⟩
    show (match l__law_drawn_rows_1 lk (rwE b (sgD ops q) R (some x) c5 c6 c7 c8) with | some (.nx E2) => forL (gdName 4) (l__law_drawn_rows_1 lk) xs E2 | some (.ct E2) => forL (gdName 4) (l__law_drawn_rows_1 lk) xs E2 | some (.bk E2) => some (.nx E2) | some (.ret d E2) => some (.ret d E2) | none => none) = _
    rw [q1]
    exact q2
theorem take_b2 {cs : List Int} {b S : D} (hb : Bag cs b) (c4 c5 c6 c7 c8 : Option D) :
    ∃ b' v, Bag cs b' ∧ 0 ≤ v ∧ v < 18 ∧ eCall g__law_take (xSlot 0 (xSlot 2 xNil)) (rwE b S [] c4 c5 c6 c7 c8) = some (.int v, rwE b' S [] c4 c5 c6 c7 c8) := by
  obtain ⟨hc, x, y, z, rfl⟩ := hb
  obtain ⟨x', y', z', v, v0, v1, q⟩ := take_ok x y z cs hc (n := 18) (by decide) (by decide)
  refine ⟨_, v, ⟨hc, x', y', z', rfl⟩, v0, v1, ?_⟩
  rw [eCall_of (as := [.inl 0, .inl 2]) (E1 := rwE (bagD x y z cs) S [] c4 c5 c6 c7 c8) (ds := [bagD x y z cs, .int 18]) (E2 := (rwE (bagD x y z cs) S [] c4 c5 c6 c7 c8).set 0 none) (xSlot_of rfl (xSlot_of rfl rfl)) rfl q]
  rfl
theorem drawn_ok {cs : List Int} {b : D} {ops : List Op} {q : D} (hq : isFz q = true) (hs : ops.Sublist four) (hb : Bag cs b) :
    ∃ b' R, Bag cs b' ∧ Dr ops R ∧ R ≠ [] ∧ R.length ≤ 36 ∧ g__law_drawn_rows [b, sgD ops q, .int 18] = some (.tup (R.map Rw.d), [b', sgD ops q, .int 18]) := by
  have hlk : ∀ j, 3 ≤ j → lkOf [b, sgD ops q, .int 18] j = false := fun j hj => by
    unfold lkOf
    rw [List.getElem?_eq_none (by simp only [List.length_cons, List.length_nil]; omega)]
  have z : isFz (sgD ops q) = true := by
    show (isFzL (ops.map opD) && (isFz q && true)) = true
    rw [isFzL_map opD fz_opD, hq]; rfl
  have p1 := sAsg_of (lk := lkOf [b, sgD ops q, .int 18]) (ts := [3]) (g := gdName 3) (f := eLst eNil) (d := .lst true []) (E := [some b, some (sgD ops q), some (.int 18), none, none, none, none, none, none, none, none]) (E2 := rwE b (sgD ops q) [] none none none none none) (by show (!lkOf [b, sgD ops q, .int 18] 3 && true) = true; rw [hlk 3 (by decide)]; rfl) rfl rfl
  obtain ⟨b1, v, hb1, v0, v1, q1⟩ := take_b2 (S := sgD ops q) hb none none none none none
  obtain ⟨k, rfl⟩ : ∃ k : Nat, v = k := ⟨v.toNat, by omega⟩
  have r1 : iRange (eCons (e2f opAdd (eOf (qC (.int 1))) (eCall g__law_take (xSlot 0 (xSlot 2 xNil)))) eNil) (rwE b (sgD ops q) [] none none none none none) = some (rangeD 0 (1 + k), rwE b1 (sgD ops q) [] none none none none none) := by
    unfold iRange
    rw [eCons_of (e2f_of (op := opAdd) (x := .int 1) (d := .int (1 + (k : Int))) rfl q1 rfl) (rfl : eNil _ = some ([], _))]
    show (if big62 (1 + (k : Int)) = true then some (rangeD 0 (1 + (k : Int)).toNat, rwE b1 (sgD ops q) [] none none none none none) else none) = _
    rw [if_pos (big62_iff.mpr ⟨by omega, by omega⟩)]
    have : (1 + (k : Int)).toNat = 1 + k := by omega
    rw [this]
  have len : (rangeD 0 (1 + k)).length = 1 + k := by unfold rangeD; rw [List.length_map, List.length_range]
  have dr0 : Dr ops [] := ⟨fun i r e => by simp at e, fun r m => by cases m⟩
  obtain ⟨b2, R, c4, c5, c6, c7, c8, hb2, dr, ne, l, q2⟩ := laps_ok (q := q) (lk := lkOf [b, sgD ops q, .int 18]) (R := []) (c4 := none) (c5 := none) (c6 := none) (c7 := none) (c8 := none) hlk hs (rangeD 0 (1 + k)) hb1 dr0 (by rw [len]; simp; omega)
  have ne' : rangeD 0 (1 + k) ≠ [] := fun e => by rw [e, List.length_nil] at len; omega
  have p2 := sFor_of (lk := lkOf [b, sgD ops q, .int 18]) (ts := [4]) (by show (!lkOf [b, sgD ops q, .int 18] 4 && true) = true; rw [hlk 4 (by decide)]; rfl) r1 q2
  refine ⟨b2, R, hb2, dr, ne (.inl ne'), by rw [len] at l; simp at l; omega, runD_of (E' := rwE b2 (sgD ops q) R c4 c5 c6 c7 c8) rfl ?_ ?_⟩
  · exact sSeq_nx p1 (sSeq_nx p2 (sRet_of (n1L_of (ds := [.lst true (R.map Rw.d)]) rfl (opTuple_lst true (isFzL_map Rw.d Rw.fz R)))))
  · have nb : isFz b = false := bag_nz hb
    exact outsD_nz nb (outsD_fz z (outsD_fz rfl rfl))
end K31

namespace K31
open PySem Dm
/-! ### a dict of drawn pairs -/
def kvs (ts : List (Str × Int)) : List (Str × D) := ts.map fun t => (t.1, D.int t.2)
def pD (t : Str × Int) : D := .tup [.str t.1, .int t.2]
theorem fz_pD (t : Str × Int) : isFz (pD t) = true := rfl
theorem pairsK_ok : ∀ ts : List (Str × Int), pairsK (ts.map pD) = some (ts.map fun (t : Str × Int) => (D.str t.1, D.int t.2))
  | [] => rfl
  | t :: ts => by
    rw [List.map_cons, List.map_cons]
    show (if (keyK (.str t.1)).isSome = true ∧ isFz (.int t.2) = true then (match pairsK (ts.map pD) with | some l => some ((D.str t.1, D.int t.2) :: l) | none => none) else none) = _
    rw [if_pos ⟨rfl, rfl⟩, pairsK_ok ts]
theorem putAll_ts : ∀ (ts : List (Str × Int)) (as : List Str) (ds : List D), ds.length + ts.length ≤ 1000 →
    putAll (ts.map fun (t : Str × Int) => (D.str t.1, D.int t.2)) (as.map D.str, ds) = some ((putsT (kvs ts) (as, ds)).1.map D.str, (putsT (kvs ts) (as, ds)).2)
  | [], _, _, _ => rfl
  | t :: ts, as, ds, h => by
    rw [List.length_cons] at h
    rw [List.map_cons]
    have hz : ds.length < sizeLine := Nat.lt_of_le_of_lt (by omega : ds.length ≤ 1000) (by decide)
    have le := putT_le as ds t.1 (.int t.2)
    have q := dPut_typed kc_str as ds t.1 (.int t.2) hz
    have q2 : dPut (as.map D.str) ds (.str t.1) (.int t.2) = some ((putT as ds t.1 (.int t.2)).1.map D.str, (putT as ds t.1 (.int t.2)).2) := by
      rw [q]
      unfold putT
      cases ixOf as t.1 <;> rfl
    show (match dPut (as.map D.str) ds (.str t.1) (.int t.2) with | some kd' => putAll (ts.map fun (t : Str × Int) => (D.str t.1, D.int t.2)) kd' | none => none) = _
    rw [q2]
    exact putAll_ts ts _ _ (by omega)
def ltD (ts : List (Str × Int)) : D := dicT D.str true (putsT (kvs ts) ([], [])).1 (putsT (kvs ts) ([], [])).2
theorem opDict_ok {ts : List (Str × Int)} (h : ts.length ≤ 1000) : opDict [.lst true (ts.map pD)] = some (ltD ts) := by
  show (match pairsK (ts.map pD) with | some l => (match putAll l ([], []) with | some kd => some (D.dic true kd.1 kd.2) | none => none) | none => none) = _
  rw [pairsK_ok]
  show (match putAll (ts.map fun (t : Str × Int) => (D.str t.1, D.int t.2)) (([] : List Str).map D.str, []) with | some kd => some (D.dic true kd.1 kd.2) | none => none) = _
  rw [putAll_ts ts [] [] (by simpa using h)]
  rfl
theorem putT_int {as : List Str} {ds : List D} {a : Str} {v : Int} {P : Int → Prop} (p : P v) (h : ∀ d ∈ ds, ∃ v, d = D.int v ∧ P v) : ∀ d ∈ (putT as ds a (.int v)).2, ∃ v, d = D.int v ∧ P v := by
  unfold putT
  cases ixOf as a with
  | some j => exact fun d m => (List.mem_or_eq_of_mem_set m).elim (h d) fun e => ⟨v, e, p⟩
  | none => exact fun d m => (List.mem_append.mp m).elim (h d) fun e => ⟨v, List.mem_singleton.mp e, p⟩
theorem putsT_int {P : Int → Prop} : ∀ (ts : List (Str × Int)) {as : List Str} {ds : List D}, (∀ t ∈ ts, P t.2) → (∀ d ∈ ds, ∃ v, d = D.int v ∧ P v) → ∀ d ∈ (putsT (kvs ts) (as, ds)).2, ∃ v, d = D.int v ∧ P v
  | [], _, _, _, h => h
  | t :: ts, as, ds, p, h => putsT_int ts (fun x m => p x (List.mem_cons_of_mem _ m)) (putT_int (p t List.mem_cons_self) h)
theorem lt_some {ts : List (Str × Int)} {P : Int → Prop} (p : ∀ t ∈ ts, P t.2) {s : Str} (h : s ∈ ts.map (·.1)) : ∃ v, opIx (ltD ts) (.str s) = some (.int v) ∧ P v := by
  have len : (putsT (kvs ts) ([], [])).2.length = (putsT (kvs ts) ([], [])).1.length := putsT_len (kvs ts) (as := []) (ds := []) rfl
  have mem : s ∈ (putsT (kvs ts) ([], [])).1 := (putsT_mem _ s).mpr (.inr (by rw [kvs, List.map_map]; exact h))
  obtain ⟨j, e⟩ := ixOf_mem mem
  have lj := ixOf_lt e
  rw [← len] at lj
  obtain ⟨v, ev, pv⟩ := putsT_int ts (as := []) (ds := []) p (fun d m => by cases m) _ (List.getElem_mem lj)
  refine ⟨v, ?_, pv⟩
  show opIx (dicT D.str true _ _) (D.str s) = _
  rw [opIx_dic kc_str, lookK_at e, List.getElem?_eq_getElem lj, ev]
theorem lt_nodup {ts : List (Str × Int)} (nd : (ts.map (·.1)).Nodup) {s : Str} {v : Int} (m : (s, v) ∈ ts) : opIx (ltD ts) (.str s) = some (.int v) := by
  have e1 : (kvs ts).map (·.1) = ts.map (·.1) := by rw [kvs, List.map_map]; rfl
  have nd' : (([] : List Str) ++ (kvs ts).map (·.1)).Nodup := by rw [List.nil_append, e1]; exact nd
  show opIx (dicT D.str true _ _) (D.str s) = _
  rw [opIx_dic kc_str, putsT_nodup _ nd', List.nil_append, List.nil_append]
  exact lookK_mem (by rw [e1]; exact nd) (List.mem_map.mpr ⟨(s, v), m, rfl⟩)
/-! ### the letters, drawn -/
theorem compL_some {α β : Type} {enc : α → D} {out : β → D} {own : List Nat} {g : D → Ev → Option Ev} {tt : Ev → Option (Bool × Ev)} {el : Ev → Option (D × Ev)} {Pv : Ev → Prop} {Q : α → β → Prop} {sel : α → Bool} : ∀ (ts : List α),
    (∀ t ∈ ts, ∀ E, Pv E → ∃ E1 E2, g (enc t) E = some E1 ∧ tt E1 = some (sel t, E2) ∧ (sel t = false → Pv (wipeE E2 own)) ∧ (sel t = true → ∃ E3 y, el E2 = some (out y, E3) ∧ Q t y ∧ Pv (wipeE E3 own))) → ∀ E, Pv E →
    ∃ (ys : List β) (E' : Ev), ys.length ≤ ts.length ∧ (∀ t ∈ ts, sel t = true → ∃ y ∈ ys, Q t y) ∧ (∀ y ∈ ys, ∃ t, Q t y) ∧ Pv E' ∧ compL own g tt el (ts.map enc) E = some (ys.map out, E')
  | [], _, E, p => ⟨[], E, Nat.le_refl _, fun _ m => (by cases m), fun _ m => (by cases m), p, rfl⟩
  | t :: ts, turn, E, p => by
    obtain ⟨E1, E2, h1, h2, h3, h4⟩ := turn t List.mem_cons_self E p
    have rest := fun E0 p0 => compL_some ts (fun y m => turn y (List.mem_cons_of_mem _ m)) E0 p0
    have sh : compL own g tt el ((t :: ts).map enc) E = (match tt E1 with | some (false, E2) => compL own g tt el (ts.map enc) (wipeE E2 own) | some (true, E2) => (match el E2 with | some (d, E3) => (match compL own g tt el (ts.map enc) (wipeE E3 own) with | some (ds, E4) => some (d :: ds, E4) | none => none) | none => none) | none => none) := by
      show (match g (enc t) E with | some E1 => (match tt E1 with | some (false, E2) => compL own g tt el (ts.map enc) (wipeE E2 own) | some (true, E2) => (match el E2 with | some (d, E3) => (match compL own g tt el (ts.map enc) (wipeE E3 own) with | some (ds, E4) => some (d :: ds, E4) | none => none) | none => none) | none => none) | none => none) = _
      rw [h1]
    rw [sh, h2]
    cases hs : sel t with
    | false =>
      obtain ⟨ys, E', l, a, a2, p', q⟩ := rest _ (h3 hs)
      refine ⟨ys, E', Nat.le_succ_of_le l, fun x m sx => ?_, a2, p', q⟩
      rcases List.mem_cons.mp m with m | m
      · rw [m, hs] at sx; cases sx
      · exact a x m sx
    | true =>
      obtain ⟨E3, y, h5, hq, h6⟩ := h4 hs
      obtain ⟨ys, E', l, a, a2, p', q⟩ := rest _ h6
      refine ⟨y :: ys, E', Nat.succ_le_succ l, fun x m sx => ?_, fun z mz => (List.mem_cons.mp mz).elim (fun e => ⟨t, e ▸ hq⟩) (a2 z), p', ?_⟩
      · rcases List.mem_cons.mp m with m | m
        · exact ⟨y, List.mem_cons_self, m ▸ hq⟩
        · obtain ⟨z, hz, qz⟩ := a x m sx
          exact ⟨z, List.mem_cons_of_mem _ hz, qz⟩
      · show (match el E2 with | some (d, E3) => (match compL own g tt el (ts.map enc) (wipeE E3 own) with | some (ds, E4) => some (d :: ds, E4) | none => none) | none => none) = _
        rw [h5]
        show (match compL own g tt el (ts.map enc) (wipeE E3 own) with | some (ds, E4) => some (out y :: ds, E4) | none => none) = _
        rw [q]
        rfl
def isLet : Rw → Bool
  | .let _ => true
  | _ => false
def lw (s b S G R N : D) (x : Option D) : Ev := [some s, some b, some S, some G, some R, some N, none, none, none, none, none, none, none, none, none, none, x, none, none]
theorem letters_ok {cs : List Int} {b s S G N : D} {rows : List Rw} (hb : Bag cs b) (hl : rows.length ≤ 100) :
    ∃ (ts : List (Str × Int)) (b' : D), Bag cs b' ∧ (∀ x, Rw.let x ∈ rows → x ∈ ts.map (·.1)) ∧ (∀ t ∈ ts, -20 ≤ t.2 ∧ t.2 ≤ 20) ∧
      e1L opDict (eCons (eCompQ [16] 4 (gdName 16) (tOfQ (tqf (q2f opEq (q2f opIx (qVar 16) (qC (.int 0))) (qC (.str "letter"))))) (eTup (eCons (eOf (q2f opIx (qVar 16) (qC (.int 1)))) (eCons (e2f opSub (eCall g__law_take (xSlot 1 (xVal (eOf (qC (.int 40))) xNil))) (eOf (qC (.int 20)))) eNil)))) eNil)
        (lw s b S G (.tup (rows.map Rw.d)) N none) = some (ltD ts, lw s b' S G (.tup (rows.map Rw.d)) N none) := by
  obtain ⟨ts, E', l, a, a2, ⟨b', hb', rfl⟩, q⟩ := compL_some (enc := Rw.d) (out := pD) (own := [16]) (g := gdName 16) (tt := tOfQ (tqf (q2f opEq (q2f opIx (qVar 16) (qC (.int 0))) (qC (.str "letter"))))) (el := eTup (eCons (eOf (q2f opIx (qVar 16) (qC (.int 1)))) (eCons (e2f opSub (eCall g__law_take (xSlot 1 (xVal (eOf (qC (.int 40))) xNil))) (eOf (qC (.int 20)))) eNil))) (Pv := fun E => ∃ b, Bag cs b ∧ E = lw s b S G (.tup (rows.map Rw.d)) N none) (Q := fun r y => r = Rw.let y.1 ∧ -20 ≤ y.2 ∧ y.2 ≤ 20) (sel := isLet) rows
    (fun r mr E ⟨b, hb, e⟩ => by
      subst e
      have c : tOfQ (tqf (q2f opEq (q2f opIx (qVar 16) (qC (.int 0))) (qC (.str "letter")))) (lw s b S G (.tup (rows.map Rw.d)) N (some r.d)) = some (isLet r, lw s b S G (.tup (rows.map Rw.d)) N (some r.d)) := by
        cases r with
        | «let» x => exact tOfQ_of (tqf_of (q2f_of (x := .str "letter") (y := .str "letter") rfl rfl (eq_strT _)))
        | num n => exact tOfQ_of (tqf_of (q2f_of (x := .str "num") (y := .str "letter") rfl rfl (eq_strF (by decide +kernel))))
        | op o ks => exact tOfQ_of (tqf_of (q2f_of (x := .str "op") (y := .str "letter") rfl rfl (eq_strF (by decide +kernel))))
      refine ⟨lw s b S G (.tup (rows.map Rw.d)) N (some r.d), _, rfl, c, fun _ => ⟨b, hb, rfl⟩, fun hs => ?_⟩
      cases r with
      | «let» x =>
        obtain ⟨b', v, hb', v0, v1, q⟩ := take_b hb (E := lw s b S G (.tup (rows.map Rw.d)) N (some (Rw.let x).d)) (i := 1) (f := eOf (qC (.int 40))) (n := 40) rfl rfl (by decide) (by decide)
        exact ⟨lw s b' S G (.tup (rows.map Rw.d)) N (some (Rw.let x).d), (x, v - 20), eTup_two rfl (e2f_of (op := opSub) q rfl rfl), ⟨rfl, by show -20 ≤ v - 20; omega, by show v - 20 ≤ 20; omega⟩, b', hb', rfl⟩
      | num n => cases hs
      | op o ks => cases hs) (lw s b S G (.tup (rows.map Rw.d)) N none) ⟨b, hb, rfl⟩
  have lz : (ts.map pD).length ≤ sizeLine := by rw [List.length_map]; exact Nat.le_trans (Nat.le_trans l hl) (by decide)
  have i1 : iSeq (eVar 4) (lw s b S G (.tup (rows.map Rw.d)) N none) = some (rows.map Rw.d, lw s b S G (.tup (rows.map Rw.d)) N none) := by
    unfold iSeq
    rw [eVar_fz (E := lw s b S G (.tup (rows.map Rw.d)) N none) (d := .tup (rows.map Rw.d)) rfl (rwD rows)]
    exact if_pos (isFzL_map Rw.d Rw.fz rows)
  have c := eComp_do (own := [16]) i1 rfl q lz
  refine ⟨ts, b', hb', fun x m => ?_, fun t mt => (a2 t mt).elim fun _ h => h.2, e1L_of (eCons_of c rfl) (opDict_ok (by omega))⟩
  obtain ⟨y, my, e, _⟩ := a _ m rfl
  cases e
  exact List.mem_map_of_mem my
end K31

namespace K31
open PySem Dm
/-! ### the bag, the graph, likeness -/
def iabs (i : Int) : Int := if i < 0 then -i else i
theorem frozL_is : ∀ ns : List Int, frozL (ns.map .int) = ns.map .int := fun ns => frozL_mapT D.int (fun _ => rfl) ns
theorem bag_ok (ns : List Int) (h : ns.length ≤ 63) : ∃ b, Bag (ns.map iabs) b ∧ g__law_bag [.scr (ns.map .int)] = some (b, [.scr (ns.map .int)]) := by
  have hs : iSeq (nSl (qVar 0) qNo (qPart (qC (.int 63)))) [some (.scr (ns.map .int)), none] = some (ns.map .int, [some (.scr (ns.map .int)), none]) := by
    have hcut : cutG ns none (some 63) = ns := by
      unfold cutG
      rw [HT.sIx_none, show HT.sIx ns.length ns.length (some 63) = min 63 ns.length from HT.sIx_nat ns.length ns.length 63, Nat.min_eq_right h, List.drop_zero, Nat.sub_zero, List.take_length]
    have e : qSl (qVar 0) qNo (qPart (qC (.int 63))) [some (.scr (ns.map .int)), none] = some (.lst true (ns.map .int)) := by
      show (if isFzL (ns.map D.int) = true then some (D.lst true (cutG (ns.map .int) none (some 63))) else none) = _
      rw [if_pos (fz_ints ns), cut_map, hcut]
    unfold iSeq nSl
    rw [e]
    show some (frozL (ns.map .int), _) = _
    rw [frozL_is]
  have q := eComp_all (own := [1]) (g := gdName 1) (el := n1L opAbs (qCons (qVar 1) qNil)) D.int (fun x => .int (iabs x)) ns hs rfl rfl rfl (Nat.le_trans h (by decide)) fun x _ => ⟨[some (.scr (ns.map .int)), some (.int x)], [some (.scr (ns.map .int)), some (.int x)], rfl, rfl, rfl⟩
  have e : ns.map (fun x => D.int (iabs x)) = (ns.map iabs).map .int := by rw [List.map_map]; rfl
  rw [e] at q
  refine ⟨bagD 0 1234567891 0 (ns.map iabs), ⟨by rw [List.length_map]; omega, _, _, _, rfl⟩, runD_same [none] rfl (sRet_of ?_)⟩
  exact eLst_of (E1 := [some (.scr (ns.map .int)), none]) (eCons_of (d := .int 0) (E1 := [some (.scr (ns.map .int)), none]) rfl (eCons_of (d := .int 1234567891) (E1 := [some (.scr (ns.map .int)), none]) rfl (eCons_of (d := .int 0) (E1 := [some (.scr (ns.map .int)), none]) rfl (eCons_of (g := eNil) q rfl)))) (by show 4 ≤ 5000; decide)
theorem graph_ok : g__law_graph [] = some (grD true [], []) := rfl
theorem alike_ok {n w : Nat} {x y : D} (hx : Nice n w x) (hy : Nice n w y) (hn : n ≤ 60) (hw : w ≤ sizeLine) (h : toP x = toP y) : g__law_alike [x, y] = some (.bl true, [x, y]) := by
  refine runD_same [] rfl (sRet_of (eOf_of ?_ rfl))
  have e1 : q2f opEq (q1L opRepr (qCons (qVar 0) qNil)) (q1L opRepr (qCons (qVar 1) qNil)) [some x, some y] = some (.bl true) := by
    refine q2f_of (q1L_of rfl (opRepr_of (hx.repr hn hw))) (q1L_of rfl (opRepr_of (hy.repr hn hw))) ?_
    rw [h]
    show some (D.bl ((toP y).shown == (toP y).shown)) = _
    simp
  have e2 : q2f opEq (qVar 0) (qVar 1) [some x, some y] = some (.bl true) := q2f_of rfl rfl (opEq_same (hx.eq hn) (hy.eq hn) h)
  exact qvAnd_of e1 fun _ => e2
theorem alike_bls (f : List Bool) (hl : f.length ≤ 1000) : g__law_alike [.lst true (f.map .bl), .lst true (f.map .bl)] = some (.bl true, [.lst true (f.map .bl), .lst true (f.map .bl)]) := by
  have n : Nice 1 2000000 (.lst true (f.map D.bl)) := (nice_lstM (f := D.bl) true fun x _ => nice_bl x).mono (Nat.le_refl _) (by
    have := Nat.mul_le_mul_right (5 + 2) hl
    omega)
  exact alike_ok n n (by decide) (by decide) rfl
theorem log_small {i : Int} (h : -2000000 ≤ i ∧ i ≤ 2000000) : i.natAbs.log2 < 1920 := by
  have a : i.natAbs < 2 ^ 21 := by
    have : (2 : Nat) ^ 21 = 2097152 := by decide
    omega
  by_cases z : i.natAbs = 0
  · rw [z]; decide
  · exact Nat.lt_trans ((Nat.log2_lt z).mpr a) (by decide)
theorem alike_ws (f : List Int) (hl : f.length ≤ 100) (hb : ∀ i ∈ f, -2000000 ≤ i ∧ i ≤ 2000000) : g__law_alike [.lst true (f.map .int), .lst true (f.map .int)] = some (.bl true, [.lst true (f.map .int), .lst true (f.map .int)]) := by
  have n : Nice 1 2000000 (.lst true (f.map D.int)) := (nice_lstM (f := D.int) true fun x m => nice_int (log_small (hb x m))).mono (Nat.le_refl _) (by
    have := Nat.mul_le_mul_right (1921 + 2) hl
    omega)
  exact alike_ok n n (by decide) (by decide) rfl
theorem foldl_bd {α : Type} {f : Int → α → Int} (h : ∀ x a, 0 ≤ f x a ∧ f x a < MM) : ∀ (l : List α) (x : Int), 0 ≤ x ∧ x < MM → 0 ≤ l.foldl f x ∧ l.foldl f x < MM
  | [], x, p => p
  | a :: l, x, _ => foldl_bd h l (f x a) (h x a)
theorem Fm_bd (seed : Int) (o : Str) (ps : List Int) : -2000000 ≤ Fm seed o ps ∧ Fm seed o ps ≤ 2000000 := by
  have m : ∀ x : Int, 0 ≤ x.fmod MM ∧ x.fmod MM < MM := fun x => ⟨Int.fmod_nonneg_of_pos _ (by decide), Int.fmod_lt_of_pos _ (by decide)⟩
  have q := foldl_bd (f := pstep) (fun x a => m _) ps _ (foldl_bd (f := hstep) (fun x a => m _) o.cps.toList _ (m seed))
  unfold Fm
  have : MM = 1000003 := rfl
  omega
theorem own_bd {L : D} {ops : List Op} {seed : Int} {g : List Rw} {ws : List Int} (O : Own L ops seed g ws) (hL : ∀ s v, Rw.let s ∈ g → opIx L (.str s) = some (.int v) → -2000000 ≤ v ∧ v ≤ 2000000) (hn : ∀ n, Rw.num n ∈ g → -2000000 ≤ n ∧ n ≤ 2000000) : ∀ k, -2000000 ≤ ws.getD k 0 ∧ ws.getD k 0 ≤ 2000000 := by
  intro k
  by_cases h : k < g.length
  · have q := O.2 k _ (List.getElem?_eq_getElem h)
    have m := List.getElem_mem h
    generalize g[k] = r at q m
    cases r with
    | «let» s => exact hL s _ m q
    | num n =>
      have e : ws.getD k 0 = n := q
      rw [e]; exact hn n m
    | op o ks =>
      rw [q.1]; exact Fm_bd _ _ _
  · rw [List.getD_eq_getElem?_getD, List.getElem?_eq_none (by rw [O.1]; omega)]
    decide
end K31

namespace K31
open PySem Dm
/-! ### the letters' numbers that set all apart -/
def letS : Rw → Str
  | .let s => s
  | _ => Str.empty
def apT (g : List Rw) : List (Str × Int) := ((enumT 0 g).filter fun p => isLet p.2).map fun p => (letS p.2, 1000 + p.1)
theorem enumT_get {α : Type} : ∀ (l : List α) (k : Int) (j : Nat) (x : α), l[j]? = some x → (k + (j : Int), x) ∈ enumT k l
  | [], _, _, _, e => by simp at e
  | y :: l, k, 0, x, e => by
    rw [List.getElem?_cons_zero] at e
    cases e
    unfold enumT
    simp
  | y :: l, k, j + 1, x, e => by
    rw [List.getElem?_cons_succ] at e
    have := enumT_get l (k + 1) j x e
    unfold enumT
    refine List.mem_cons_of_mem _ ?_
    have q : k + ((j + 1 : Nat) : Int) = k + 1 + (j : Int) := by omega
    rw [q]; exact this
theorem enumT_snd {α : Type} : ∀ (k : Int) (l : List α), (enumT k l).map (·.2) = l
  | _, [] => rfl
  | k, x :: l => by
    unfold enumT
    rw [List.map_cons, enumT_snd]
theorem enumT_len {α : Type} (k : Int) (l : List α) : (enumT k l).length = l.length := by
  have := congrArg List.length (enumT_snd k l)
  rwa [List.length_map] at this
theorem ap_nodup {g : List Rw} (nd : g.Nodup) : ((apT g).map (·.1)).Nodup := by
  have e : (apT g).map (·.1) = (g.filter isLet).map letS := by
    have : ∀ (k : Int) (g : List Rw), (((enumT k g).filter fun p => isLet p.2).map fun p => (letS p.2, 1000 + p.1)).map (·.1) = (g.filter isLet).map letS := by
      intro k g
      induction g generalizing k with
      | nil => rfl
      | cons x g ih =>
        unfold enumT
        rw [List.filter_cons, List.filter_cons]
        cases hx : isLet x with
        | true => simp only [hx, if_true, List.map_cons]; rw [ih]
        | false => simp only [hx, Bool.false_eq_true, if_false]; rw [ih]
    exact this 0 g
  rw [e]
  have nf := nd.filter isLet
  refine List.pairwise_map.mpr (nf.imp_of_mem fun {a b} ma mb ne => ?_)
  have la := (List.mem_filter.mp ma).2
  have lb := (List.mem_filter.mp mb).2
  cases a with
  | «let» s =>
    cases b with
    | «let» s' => exact fun h => ne (by show Rw.let s = Rw.let s'; exact congrArg Rw.let h)
    | num n => cases lb
    | op o ks => cases lb
  | num n => cases la
  | op o ks => cases la
theorem ap_get {g : List Rw} (nd : g.Nodup) {j : Nat} {s : Str} (e : g[j]? = some (Rw.let s)) : opIx (ltD (apT g)) (.str s) = some (.int (1000 + (j : Int))) := by
  refine lt_nodup (ap_nodup nd) (List.mem_map.mpr ⟨((j : Int), Rw.let s), List.mem_filter.mpr ⟨?_, rfl⟩, rfl⟩)
  have := enumT_get g 0 j _ e
  rwa [Int.zero_add] at this
theorem apart_ok {g : List Rw} (hg : g.length ≤ 100) {E : Ev} (h3 : E[3]? = some (some (grD false g))) (hw : ∀ a c : Option D, wipeE ((E.set 17 a).set 18 c) [17, 18] = E) (h17 : ∀ a c : D, ((E.set 17 (some a)).set 18 (some c))[17]? = some (some a)) (h18 : ∀ a c : D, ((E.set 17 (some a)).set 18 (some c))[18]? = some (some c)) (ho : ownFz E [17, 18] = true) (hw0 : wipeE E [17, 18] = E) (hb : backE E E [17, 18] = E) :
    e1L opDict (eCons (eComp [17, 18] (iEnum (eCons (eAlt (eOf (q2f opIx (qVar 3) (qC (.int 1)))) (eLn (lnIx 1 (lnVar 3)))) eNil)) (gdTup 2 (gdCons (gdName 17) (gdCons (gdName 18) gdNil))) (tOfQ (tqf (q2f opEq (q2f opIx (qVar 18) (qC (.int 0))) (qC (.str "letter"))))) (eTup (eCons (eOf (q2f opIx (qVar 18) (qC (.int 1)))) (eCons (n2f opAdd (qC (.int 1000)) (qVar 17)) eNil)))) eNil) E
      = some (ltD (apT g), E) := by
  have a1 : eAlt (eOf (q2f opIx (qVar 3) (qC (.int 1)))) (eLn (lnIx 1 (lnVar 3))) E = some (.lst false (g.map Rw.d), E) := by
    refine eAlt_1 (eOf_of (q2f_of (x := grD false g) (y := .int 1) (by unfold qVar; rw [h3]) rfl rfl) ?_)
    simp only [isFz, isFzL_map Rw.d Rw.fz]
    rfl
  have it : iEnum (eCons (eAlt (eOf (q2f opIx (qVar 3) (qC (.int 1)))) (eLn (lnIx 1 (lnVar 3)))) eNil) E = some ((enumT 0 g).map egD, E) := by
    unfold iEnum
    rw [eCons_of a1 (rfl : eNil E = some ([], E))]
    show some (enumD 0 (frozL (g.map Rw.d)), E) = _
    rw [frozL_mapT Rw.d Rw.fz, enumD_map]
    rfl
  have c := eComp_typed (own := [17, 18]) (g := gdTup 2 (gdCons (gdName 17) (gdCons (gdName 18) gdNil))) (tt := tOfQ (tqf (q2f opEq (q2f opIx (qVar 18) (qC (.int 0))) (qC (.str "letter"))))) (el := eTup (eCons (eOf (q2f opIx (qVar 18) (qC (.int 1)))) (eCons (n2f opAdd (qC (.int 1000)) (qVar 17)) eNil))) egD (fun p => isLet p.2) (fun p => pD (letS p.2, 1000 + p.1)) (enumT 0 g) it ho hw0 hb (by rw [enumT_len]; exact Nat.le_trans hg (by decide)) fun p _ => by
    obtain ⟨k, r⟩ := p
    have v17 := h17 (.int k) r.d
    have v18 := h18 (.int k) r.d
    let F := (E.set 17 (some (D.int k))).set 18 (some r.d)
    have q17 : qVar 17 F = some (.int k) := by unfold qVar; rw [v17]
    have q18 : qVar 18 F = some r.d := by unfold qVar; rw [v18]
    refine ⟨F, F, rfl, ?_, fun _ => hw _ _, fun hs => ⟨F, ?_, hw _ _⟩⟩
    · cases r with
      | «let» x => exact tOfQ_of (tqf_of (q2f_of (x := .str "letter") (y := .str "letter") (q2f_of q18 rfl rfl) rfl (eq_strT _)))
      | num n => exact tOfQ_of (tqf_of (q2f_of (x := .str "num") (y := .str "letter") (q2f_of q18 rfl rfl) rfl (eq_strF (by decide +kernel))))
      | op o ks => exact tOfQ_of (tqf_of (q2f_of (x := .str "op") (y := .str "letter") (q2f_of q18 rfl rfl) rfl (eq_strF (by decide +kernel))))
    · cases r with
      | «let» x => exact eTup_two (eOf_of (q2f_of q18 rfl rfl) rfl) (n2f_of (op := opAdd) (x := .int 1000) (y := .int k) rfl q17 rfl)
      | num n => cases hs
      | op o ks => cases hs
  have e : ((enumT 0 g).filter fun p => isLet p.2).map (fun p => pD (letS p.2, 1000 + p.1)) = (apT g).map pD := by
    unfold apT
    rw [List.map_map]
    rfl
  rw [e] at c
  have l : (apT g).length ≤ 1000 := by
    unfold apT
    rw [List.length_map]
    have := List.length_filter_le (fun p : Int × Rw => isLet p.2) (enumT 0 g)
    rw [enumT_len] at this
    omega
  exact e1L_of (eCons_of c rfl) (opDict_ok l)
end K31

namespace K31
open PySem Dm
/-! ### the law's steps -/
theorem ga_fz {i : Nat} {r : List ArgV} {E E' : Ev} {d : D} {ds : List D} (h : E[i]? = some (some d)) (z : isFz d = true) (h2 : gather r E = some (ds, E')) : gather (.inl i :: r) E = some (d :: ds, E') := by
  unfold gather
  rw [h]
  show (if isFz d = true then (match gather r E with | some (ds, E') => some (d :: ds, E') | none => none) else _) = _
  rw [if_pos z, h2]
theorem ga_nz {i : Nat} {r : List ArgV} {E E' : Ev} {d : D} {ds : List D} (h : E[i]? = some (some d)) (z : isFz d = false) (h2 : gather r (E.set i none) = some (ds, E')) : gather (.inl i :: r) E = some (d :: ds, E') := by
  unfold gather
  rw [h]
  show (if isFz d = true then _ else (match gather r (E.set i none) with | some (ds, E') => some (d :: ds, E') | none => none)) = _
  rw [if_neg (by rw [z]; decide), h2]
theorem ga_val {r : List ArgV} {E E' : Ev} {d : D} {ds : List D} (h2 : gather r E = some (ds, E')) : gather (.inr d :: r) E = some (d :: ds, E') := by
  unfold gather
  rw [h2]
theorem eCall_fin {g : Fs} {fx : Ev → Option (List ArgV × Ev)} {E E1 E2 E' : Ev} {as : List ArgV} {ds os : List D} {d : D} (h : fx E = some (as, E1)) (h2 : gather as E1 = some (ds, E2)) (h3 : g ds = some (d, os)) (h4 : putBack as os E2 = E') : eCall g fx E = some (d, E') := by
  rw [eCall_of h h2 h3, h4]
theorem eMake_fin {cn : Str} {g : Fs} {fx : Ev → Option (List ArgV × Ev)} {E E1 E2 E' : Ev} {as : List ArgV} {ds os : List D} {d : D} (h : fx E = some (as, E1)) (h2 : gather as E1 = some (ds, E2)) (h3 : g (.ins true cn [] [] :: ds) = some (.non, d :: os)) (h4 : putBack as os E2 = E') : eMake cn g fx E = some (d, E') := by
  rw [eMake_of h h2 h3, h4]
theorem nb_src {ops : List Op} {dn g : List Rw} {f : List Nat} (N : Nb ops dn g f) {x : Rw} (h : x ∈ g) : ∃ r ∈ dn, x = keyOf ops f r := by
  obtain ⟨j, hj, e⟩ := List.getElem_of_mem h
  obtain ⟨i, hi, ei⟩ := List.getElem_of_mem (N.all j hj)
  have hd : i < dn.length := by rw [← N.len]; exact hi
  have q := N.at' i _ (List.getElem?_eq_getElem hd)
  rw [List.getD_eq_getElem?_getD, List.getElem?_eq_getElem hi, ei] at q
  have q2 : g[j]? = some (keyOf ops f dn[i]) := q
  rw [List.getElem?_eq_getElem hj, e] at q2
  exact ⟨dn[i], List.getElem_mem hd, Option.some.inj q2⟩
theorem src_let {ops : List Op} {dn g : List Rw} {f : List Nat} (N : Nb ops dn g f) {s : Str} (h : Rw.let s ∈ g) : Rw.let s ∈ dn := by
  obtain ⟨r, m, e⟩ := nb_src N h
  cases r with
  | «let» s' => rw [show Rw.let s = Rw.let s' from e]; exact m
  | num n => cases e
  | op o ks => cases e
theorem src_num {ops : List Op} {dn g : List Rw} {f : List Nat} (N : Nb ops dn g f) {n : Int} (h : Rw.num n ∈ g) : Rw.num n ∈ dn := by
  obtain ⟨r, m, e⟩ := nb_src N h
  cases r with
  | num n' => rw [show Rw.num n = Rw.num n' from e]; exact m
  | «let» s => cases e
  | op o ks => cases e
theorem src_op {ops : List Op} {dn g : List Rw} {f : List Nat} (N : Nb ops dn g f) {o : Str} {ps : List Nat} (h : Rw.op o ps ∈ g) : ∃ ks, Rw.op o ks ∈ dn := by
  obtain ⟨r, m, e⟩ := nb_src N h
  cases r with
  | op o' ks => injection e with e1 e2; subst e1; exact ⟨ks, m⟩
  | «let» s => cases e
  | num n => cases e
def le (s b S G R N L se w8 w9 w10 w11 w12 w13 w14 w15 : Option D) : Ev := [s, b, S, G, R, N, L, se, w8, w9, w10, w11, w12, w13, w14, w15, none, none, none]
theorem fz_scr (ns : List Int) : isFz (.scr (ns.map .int)) = true := by
  simp only [isFz, fz_ints]
theorem grD_own (g : List Rw) : isFz (grD true g) = false := by simp only [grD_nz]
section
variable {cs ns : List Int} {b S G R N L : D} {ops : List Op} {q : D} {rows : List Rw}
theorem st_bag (h : ns.length ≤ 63) : ∃ b, Bag (ns.map iabs) b ∧ eCall g__law_bag (xSlot 0 xNil) (le (some (.scr (ns.map .int))) none none none none none none none none none none none none none none none) = some (b, le (some (.scr (ns.map .int))) none none none none none none none none none none none none none none none) := by
  obtain ⟨b, hb, e⟩ := bag_ok ns h
  exact ⟨b, hb, eCall_fin (xSlot_of (d := .scr (ns.map .int)) rfl rfl) (ga_fz rfl (fz_scr ns) rfl) e rfl⟩
theorem st_signs (hb : Bag cs b) (s : Option D) : ∃ ops q b', ops.Sublist four ∧ isFz q = true ∧ Bag cs b' ∧ eCons (eCall g__law_signs (xSlot 1 xNil)) (eCons (eCall g__law_graph xNil) eNil) (le s (some b) none none none none none none none none none none none none none none) = some ([sgD ops q, grD true []], le s (some b') none none none none none none none none none none none none none none) := by
  obtain ⟨ops, q, b', h1, h2, h3, e⟩ := signs_ok hb
  have c1 : eCall g__law_signs (xSlot 1 xNil) (le s (some b) none none none none none none none none none none none none none none) = some (sgD ops q, le s (some b') none none none none none none none none none none none none none none) :=
    eCall_fin (xSlot_of (d := b) rfl rfl) (ga_nz rfl (bag_nz hb) rfl) e rfl
  have c2 : eCall g__law_graph xNil (le s (some b') none none none none none none none none none none none none none none) = some (grD true [], le s (some b') none none none none none none none none none none none none none none) :=
    eCall_fin (as := []) rfl rfl graph_ok rfl
  exact ⟨ops, q, b', h1, h2, h3, eCons_of c1 (eCons_of c2 rfl)⟩
theorem st_rows (hq : isFz q = true) (hs : ops.Sublist four) (hb : Bag cs b) (s G : Option D) : ∃ b' R, Bag cs b' ∧ Dr ops R ∧ R ≠ [] ∧ R.length ≤ 36 ∧
    eCall g__law_drawn_rows (xSlot 1 (xSlot 2 (xVal (eOf (qC (.int 18))) xNil))) (le s (some b) (some (sgD ops q)) G none none none none none none none none none none none none) = some (.tup (R.map Rw.d), le s (some b') (some (sgD ops q)) G none none none none none none none none none none none none) := by
  obtain ⟨b', R, h1, h2, h3, h4, e⟩ := drawn_ok hq hs hb
  exact ⟨b', R, h1, h2, h3, h4, eCall_fin (xSlot_of (d := b) rfl (xSlot_of (d := sgD ops q) rfl (xVal_of (d := .int 18) rfl rfl))) (ga_nz rfl (bag_nz hb) (ga_fz rfl (fz_sgD hq) (ga_val rfl))) e rfl⟩
theorem st_nodes (hl : ops.length ≤ 1000) (hq : isFz q = true) (ok : Okrs rows) (s b : Option D) :
    eCall g__law_nodes (xSlot 3 (xSlot 2 (xSlot 4 xNil))) (le s b (some (sgD ops q)) (some (grD true [])) (some (.tup (rows.map Rw.d))) none none none none none none none none none none none)
      = some (.lst true ((nodesT ops rows [] []).2.map nD), le s b (some (sgD ops q)) (some (grD true (nodesT ops rows [] []).1)) (some (.tup (rows.map Rw.d))) none none none none none none none none none none none) :=
  eCall_fin (xSlot_of (d := grD true []) rfl (xSlot_of (d := sgD ops q) rfl (xSlot_of (d := .tup (rows.map Rw.d)) rfl rfl))) (ga_nz rfl (grD_own []) (ga_fz rfl (fz_sgD hq) (ga_fz rfl (rwD rows) rfl))) (nodes_ok hl hq ok) rfl
theorem pow30 : opPow (.int 10) (.int 30) = some (.int 1000000000000000000000000000000) := by
  show (if 0 ≤ (30 : Int) ∧ (30 : Int) ≤ 1000000 ∧ (10 : Int).natAbs < 2 ^ 64 then some (D.int ((10 : Int) ^ (30 : Int).toNat)) else none) = _
  rw [if_pos (by decide)]
  rfl
def seeds : List Int := [0, 7, -5, 1000002, 1000000000000000000000000000000]
theorem st_seed (hb : Bag cs b) (s S G R N L : Option D) : ∃ b' se, Bag cs b' ∧
    eCall g__law_some (xSlot 1 (xVal (eLst (eCons (eOf (qC (.int 0))) (eCons (eOf (qC (.int 7))) (eCons (eOf (q1f opNeg (qC (.int 5)))) (eCons (eOf (qC (.int 1000002))) (eCons (n2f opPow (qC (.int 10)) (qC (.int 30))) eNil)))))) xNil)) (le s (some b) S G R N L none none none none none none none none none)
      = some (.int se, le s (some b') S G R N L none none none none none none none none none) := by
  let E := le s (some b) S G R N L none none none none none none none none none
  have l : eLst (eCons (eOf (qC (.int 0))) (eCons (eOf (qC (.int 7))) (eCons (eOf (q1f opNeg (qC (.int 5)))) (eCons (eOf (qC (.int 1000002))) (eCons (n2f opPow (qC (.int 10)) (qC (.int 30))) eNil))))) E = some (.lst true (seeds.map .int), E) :=
    eLst_of (eCons_of (d := .int 0) (E1 := E) rfl (eCons_of (d := .int 7) (E1 := E) rfl (eCons_of (d := .int (-5)) (E1 := E) rfl (eCons_of (d := .int 1000002) (E1 := E) rfl (eCons_of (n2f_of rfl rfl pow30) rfl))))) (by show 5 ≤ 5000; decide)
  obtain ⟨b', d, hb', hd, c⟩ := some_b hb hb (E := E) (E1 := E) (i := 1) rfl l rfl (by simp [seeds]) (by show 5 ≤ 1000; decide) (fun d m => by obtain ⟨n, _, e⟩ := List.mem_map.mp m; rw [← e]; rfl)
  obtain ⟨n, _, e⟩ := List.mem_map.mp hd
  subst e
  exact ⟨b', n, hb', c⟩
theorem nz_lt (ts : List (Str × Int)) : isFz (ltD ts) = false := rfl
theorem st_worths1 (hl : ops.length ≤ 1000) (hq : isFz q = true) (ok : Okrs rows) {ws : List Int} {se : Int} (hL : isFz L = false) (tl : Told (wD true (sgD ops q) (fmD se) (swD ops) (.dic true [] [])) L rows ws) (s b G N : Option D) :
    eCall g__law_worths_by (xVal (eMake "World" g_World___init__ (xSlot 2 (xVal (eTup (eCons (eOf (qC (.str "formula"))) (eCons (eVar 7) eNil))) (xVal (eTup eNil) (xVal (eTup eNil) xNil))))) (xSlot 4 (xSlot 6 xNil))) (le s b (some (sgD ops q)) G (some (.tup (rows.map Rw.d))) N (some L) (some (.int se)) none none none none none none none none)
      = some (.lst true (ws.map .int), le s b (some (sgD ops q)) G (some (.tup (rows.map Rw.d))) N (some L) (some (.int se)) none none none none none none none none) := by
  let E := le s b (some (sgD ops q)) G (some (.tup (rows.map Rw.d))) N (some L) (some (.int se)) none none none none none none none none
  have a1 : eTup (eCons (eOf (qC (.str "formula"))) (eCons (eVar 7) eNil)) E = some (fmD se, E) := eTup_two rfl (eVar_fz rfl rfl)
  have t0 : eTup eNil E = some (.tup [], E) := rfl
  have m1 : eMake "World" g_World___init__ (xSlot 2 (xVal (eTup (eCons (eOf (qC (.str "formula"))) (eCons (eVar 7) eNil))) (xVal (eTup eNil) (xVal (eTup eNil) xNil)))) E = some (wD true (sgD ops q) (fmD se) (swD ops) (.dic true [] []), E) :=
    eMake_fin (xSlot_of (d := sgD ops q) rfl (xVal_of a1 (xVal_of t0 (xVal_of t0 rfl)))) (ga_fz rfl (fz_sgD hq) (ga_val (ga_val (ga_val rfl)))) (initF_ok hl hq se) rfl
  exact eCall_fin (xVal_of m1 (xSlot_of (d := .tup (rows.map Rw.d)) rfl (xSlot_of (d := L) rfl rfl))) (ga_val (ga_fz rfl (rwD rows) (ga_nz rfl hL rfl))) (worths_by_ok ok hL tl) rfl
theorem st_worths2 {g : List Rw} (Gk : Gok g) (g60 : g.length ≤ 60) (hl : ops.length ≤ 1000) (hq : isFz q = true) {ws : List Int} {se : Int} (O : Own L ops se g ws) (hL : isFz L = false) {nodes : List Nat} (nl : nodes.length ≤ 200) (n1 : ∀ k ∈ nodes, k < g.length) (n2 : ∀ k, k < g.length → k ∈ nodes) (s b R : Option D) :
    eCall g__law_worths (xSlot 3 (xSlot 2 (xSlot 7 (xSlot 6 (xSlot 5 xNil))))) (le s b (some (sgD ops q)) (some (grD true g)) R (some (.lst true (nodes.map nD))) (some L) (some (.int se)) none none none none none none none none)
      = some (owD ws, le s b (some (sgD ops q)) (some (grD true g)) R (some (.lst true (nodes.map nD))) (some L) (some (.int se)) none none none none none none none none) :=
  eCall_fin (xSlot_of (d := grD true g) rfl (xSlot_of (d := sgD ops q) rfl (xSlot_of (d := .int se) rfl (xSlot_of (d := L) rfl (xSlot_of (d := .lst true (nodes.map nD)) rfl rfl)))))
    (ga_nz rfl (grD_own g) (ga_fz rfl (fz_sgD hq) (ga_fz rfl rfl (ga_nz rfl hL (ga_nz rfl rfl rfl))))) (worths_ok Gk g60 hl hq O hL nl n1 n2) rfl
end
end K31

namespace K31
open PySem Dm
section
variable {cs : List Int} {b S G R N L : D} {ops : List Op} {q : D} {rows : List Rw}
theorem st_alike1 {ws : List Int} {nodes : List Nat} (hw : ∀ k ∈ nodes, k < ws.length) (nl : nodes.length ≤ 100) (hb : ∀ k, -2000000 ≤ ws.getD k 0 ∧ ws.getD k 0 ≤ 2000000) (s b S G R L se : Option D) :
    eCall g__law_alike (xSlot 8 (xVal (eCompQ [17] 5 (gdName 17) dYes (eOf (q2f opIx (qVar 9) (qVar 17)))) xNil)) (le s b S G R (some (.lst true (nodes.map nD))) L se (some (.lst true ((rws (fun k => ws.getD k 0) nodes).map .int))) (some (owD ws)) none none none none none none)
      = some (.bl true, le s b S G R (some (.lst true (nodes.map nD))) L se (some (.lst true ((rws (fun k => ws.getD k 0) nodes).map .int))) (some (owD ws)) none none none none none none) := by
  let E := le s b S G R (some (.lst true (nodes.map nD))) L se (some (.lst true ((rws (fun k => ws.getD k 0) nodes).map .int))) (some (owD ws)) none none none none none none
  let F := fun k => E.set 17 (some (nD k))
  have c : eCompQ [17] 5 (gdName 17) dYes (eOf (q2f opIx (qVar 9) (qVar 17))) E = some (.lst true (nodes.map fun k => D.int (ws.getD k 0)), E) :=
    eCompQ_all (own := [17]) (i := 5) nD (fun k => D.int (ws.getD k 0)) nodes (E := E) (E0 := E) (E' := E) (d0 := .lst true (nodes.map nD)) rfl (.inl rfl) fz_nD rfl rfl rfl rfl (by omega) fun k m =>
      ⟨F k, F k, rfl, eOf_of (q2f_of (x := owD ws) (y := nD k) rfl rfl (ow_get (hw k m))) rfl, rfl⟩
  have e : (nodes.map fun k => D.int (ws.getD k 0)) = (rws (fun k => ws.getD k 0) nodes).map .int := by unfold rws; rw [List.map_map]; rfl
  rw [e] at c
  have al := alike_ws (rws (fun k => ws.getD k 0) nodes) (by unfold rws; rw [List.length_map]; exact nl) (fun i m => by
    obtain ⟨k, _, e⟩ := List.mem_map.mp m
    rw [← e]; exact hb k)
  exact eCall_fin (xSlot_of (d := .lst true ((rws (fun k => ws.getD k 0) nodes).map .int)) rfl (xVal_of c rfl)) (ga_nz rfl rfl (ga_val rfl)) al rfl
theorem st_part {g : List Rw} (Gk : Gok g) (hl : ops.length ≤ 1000) (hq : isFz q = true) (s b R N L se w8 w9 : Option D) :
    ∃ us : List Tr, us.Perm (entT g ops 0 g) ∧ eMake "World" g_World___init__ (xSlot 2 (xVal (eTup (eCons (eOf (qC (.str "table"))) (eCons (eCall g__law_parting_rows (xSlot 3 (xSlot 2 xNil))) eNil))) (xVal (eTup eNil) (xVal (eTup eNil) xNil)))) (le s b (some (sgD ops q)) (some (grD true g)) R N L se w8 w9 none none none none none none)
      = some (wD true (sgD ops q) (tmD us) (swD ops) (tbD us), le s b (some (sgD ops q)) (some (grD false g)) R N L se w8 w9 none none none none none none) := by
  obtain ⟨us, pm, e⟩ := parting_ok Gk hl hq
  have ul : us.length ≤ 1000 := by
    have := entT_len g ops g 0
    have g1 := Gk.1
    rw [pm.length_eq]; omega
  refine ⟨us, pm, ?_⟩
  let E := le s b (some (sgD ops q)) (some (grD true g)) R N L se w8 w9 none none none none none none
  let E1 := le s b (some (sgD ops q)) (some (grD false g)) R N L se w8 w9 none none none none none none
  have c : eCall g__law_parting_rows (xSlot 3 (xSlot 2 xNil)) E = some (.tup (us.map trD), E1) :=
    eCall_fin (xSlot_of (d := grD true g) rfl (xSlot_of (d := sgD ops q) rfl rfl)) (ga_nz rfl (grD_own g) (ga_fz rfl (fz_sgD hq) rfl)) e rfl
  have a1 : eTup (eCons (eOf (qC (.str "table"))) (eCons (eCall g__law_parting_rows (xSlot 3 (xSlot 2 xNil))) eNil)) E = some (tmD us, E1) := eTup_two rfl c
  have t0 : eTup eNil E1 = some (.tup [], E1) := rfl
  exact eMake_fin (xSlot_of (d := sgD ops q) rfl (xVal_of a1 (xVal_of t0 (xVal_of t0 rfl)))) (ga_fz rfl (fz_sgD hq) (ga_val (ga_val (ga_val rfl)))) (initT_ok hl hq ul) rfl
theorem st_apart {g : List Rw} (hg : g.length ≤ 100) (s b S R N L se w8 w9 w10 : Option D) :
    e1L opDict (eCons (eComp [17, 18] (iEnum (eCons (eAlt (eOf (q2f opIx (qVar 3) (qC (.int 1)))) (eLn (lnIx 1 (lnVar 3)))) eNil)) (gdTup 2 (gdCons (gdName 17) (gdCons (gdName 18) gdNil))) (tOfQ (tqf (q2f opEq (q2f opIx (qVar 18) (qC (.int 0))) (qC (.str "letter"))))) (eTup (eCons (eOf (q2f opIx (qVar 18) (qC (.int 1)))) (eCons (n2f opAdd (qC (.int 1000)) (qVar 17)) eNil)))) eNil) (le s b S (some (grD false g)) R N L se w8 w9 w10 none none none none none)
      = some (ltD (apT g), le s b S (some (grD false g)) R N L se w8 w9 w10 none none none none none) :=
  apart_ok hg rfl (fun _ _ => rfl) (fun _ _ => rfl) (fun _ _ => rfl) rfl rfl rfl
theorem st_told (ok : Okrs rows) {ws : List Int} {sg mn sw tb L2 : D} (hL : isFz L2 = false) (tl : Told (wD true sg mn sw tb) L2 rows ws) (s b S G N L se w8 w9 : Option D) :
    eCall g__law_worths_by (xSlot 10 (xSlot 4 (xSlot 11 xNil))) (le s b S G (some (.tup (rows.map Rw.d))) N L se w8 w9 (some (wD true sg mn sw tb)) (some L2) none none none none)
      = some (.lst true (ws.map .int), le s b S G (some (.tup (rows.map Rw.d))) N L se w8 w9 (some (wD true sg mn sw tb)) (some L2) none none none none) :=
  eCall_fin (xSlot_of (d := wD true sg mn sw tb) rfl (xSlot_of (d := .tup (rows.map Rw.d)) rfl (xSlot_of (d := L2) rfl rfl))) (ga_nz rfl rfl (ga_fz rfl (rwD rows) (ga_nz rfl hL rfl))) (worths_by_ok ok hL tl) rfl
theorem rows_take (V : Rows ops rows) (n : Nat) : Rows ops (rows.take n) where
  ok := ⟨by rw [List.length_take]; have := V.ok.1; omega, fun i r e => V.ok.2 i r (by
    have hi := (List.getElem?_eq_some_iff.mp e).1
    rw [List.length_take] at hi
    rwa [List.getElem?_take_of_lt (by omega)] at e)⟩
  sg := fun r m => V.sg r (List.mem_of_mem_take m)
theorem sl_take {E : Ev} {j : Nat} {k : Nat} (h4 : E[4]? = some (some (.tup (rows.map Rw.d)))) (hj : E[j]? = some (some (.int (k : Nat)))) (hk : k < rows.length) :
    nSl (qVar 4) qNo (qPart (q2f opAdd (qVar j) (qC (.int 1)))) E = some (.tup ((rows.take (k + 1)).map Rw.d), E) := by
  have q4 : qVar 4 E = some (.tup (rows.map Rw.d)) := by unfold qVar; rw [h4]
  have qj : qVar j E = some (.int (k : Nat)) := by unfold qVar; rw [hj]
  have p : qPart (q2f opAdd (qVar j) (qC (.int 1))) E = some (some ((k + 1 : Nat) : Int)) := by
    unfold qPart
    rw [q2f_of (op := opAdd) (d := .int (((k + 1 : Nat) : Nat) : Int)) qj (rfl : qC (.int 1) E = some (.int 1)) rfl]
    rfl
  have cut : cutG (rows.map Rw.d) none (some ((k + 1 : Nat) : Int)) = (rows.take (k + 1)).map Rw.d := by
    unfold cutG
    rw [HT.sIx_none, HT.sIx_nat, List.drop_zero, Nat.sub_zero, List.length_map, Nat.min_eq_left (by omega), List.map_take]
  have sl : qSl (qVar 4) qNo (qPart (q2f opAdd (qVar j) (qC (.int 1)))) E = some (.tup ((rows.take (k + 1)).map Rw.d)) :=
    qSl_of (lo := none) q4 rfl p (by
      show (if isFzL (rows.map Rw.d) = true then some (D.tup (cutG (rows.map Rw.d) none (some ((k + 1 : Nat) : Int)))) else none) = _
      rw [if_pos (isFzL_map Rw.d Rw.fz rows), cut])
  unfold nSl
  rw [sl]
theorem bl_mul (x : Bool) : opMul (.lst true [.bl x]) (.int 2) = some (.lst true [.bl x, .bl x]) := by
  show (if -(2 ^ 63) ≤ (2 : Int) ∧ (2 : Int) < 2 ^ 63 ∧ [D.bl x].length * (2 : Int).toNat ≤ sizeLine ∧ isFzL [D.bl x] = true then some (D.lst true (List.replicate (2 : Int).toNat [D.bl x]).flatten) else none) = _
  rw [if_pos ⟨by decide, by decide, by show 1 * 2 ≤ sizeLine; decide, rfl⟩]
  rfl
theorem lap_law {lk : Lks} (hlk : ∀ j, 1 ≤ j → lk j = false) (Sg' : Sg ops) (hq : isFz q = true) (V : Rows ops rows) (ne : rows ≠ []) (hl : rows.length ≤ 36) (sm : Small (nodesT ops rows [] []).1) (hb : Bag cs b) (s G L se w8 w9 w10 w11 w13 w14 w15 : Option D) :
    ∃ b' w14' w15', Bag cs b' ∧ l_law_1 lk (le s (some b) (some (sgD ops q)) G (some (.tup (rows.map Rw.d))) (some (.lst true ((nodesT ops rows [] []).2.map nD))) L se w8 w9 w10 w11 (some (.lst true ((rws (wn (nodesT ops rows [] []).1) (nodesT ops rows [] []).2).map .int))) w13 w14 w15)
      = some (.nx (le s (some b') (some (sgD ops q)) G (some (.tup (rows.map Rw.d))) (some (.lst true ((nodesT ops rows [] []).2.map nD))) L se w8 w9 w10 w11 (some (.lst true ((rws (wn (nodesT ops rows [] []).1) (nodesT ops rows [] []).2).map .int))) w13 w14' w15')) := by
  have NB := nb_rows V
  have SN := fun k m hk hm => same_nodes (k := k) (m := m) V hk hm
  have hpos : 0 < rows.length := List.length_pos_iff.mpr ne
  let T : List Int := rws (wn (nodesT ops rows [] []).1) (nodesT ops rows [] []).2
  let E := fun (b : D) (x y : Option D) => le s (some b) (some (sgD ops q)) G (some (.tup (rows.map Rw.d))) (some (.lst true ((nodesT ops rows [] []).2.map nD))) L se w8 w9 w10 w11 (some (.lst true (T.map .int))) w13 x y
  have ln : ∀ b x y, n1L opLen (qCons (qVar 4) qNil) (E b x y) = some (.int rows.length, E b x y) := fun b x y => n1L_of (ds := [.tup (rows.map Rw.d)]) rfl (by show some (D.int (rows.map Rw.d).length) = _; rw [List.length_map])
  obtain ⟨b1, v, hb1, v0, v1, q1⟩ := take_b hb (E := E b w14 w15) (i := 1) rfl (ln b w14 w15) (by omega) (by omega)
  obtain ⟨b2, u, hb2, u0, u1, q2⟩ := take_b hb1 (E := E b1 w14 w15) (i := 1) rfl (ln b1 w14 w15) (by omega) (by omega)
  obtain ⟨k, rfl⟩ : ∃ k : Nat, v = k := ⟨v.toNat, by omega⟩
  obtain ⟨m, rfl⟩ : ∃ m : Nat, u = m := ⟨u.toNat, by omega⟩
  have hk : k < rows.length := by omega
  have hm : m < rows.length := by omega
  have hlp : (!lk 14 && !lk 15) = true := by rw [hlk 14 (by decide), hlk 15 (by decide)]; rfl
  have p1 : sPar lk 14 15 (eCons (eCall g__law_take (xSlot 1 (xVal (n1L opLen (qCons (qVar 4) qNil)) xNil))) (eCons (eCall g__law_take (xSlot 1 (xVal (n1L opLen (qCons (qVar 4) qNil)) xNil))) eNil)) (E b w14 w15) = some (.nx (E b2 (some (.int (k : Nat))) (some (.int (m : Nat))))) :=
    sPar_of (E1 := E b2 w14 w15) hlp (eCons_of q1 (eCons_of q2 rfl))
  refine ⟨b2, some (.int (k : Nat)), some (.int (m : Nat)), hb2, ?_⟩
  let F := E b2 (some (.int (k : Nat))) (some (.int (m : Nat)))
  let z : Bool := (nodesT ops rows [] []).2.getD k 0 == (nodesT ops rows [] []).2.getD m 0
  have sm1 : eCall g_same (xSlot 2 (xVal (nSl (qVar 4) qNo (qPart (q2f opAdd (qVar 14) (qC (.int 1))))) (xVal (nSl (qVar 4) qNo (qPart (q2f opAdd (qVar 15) (qC (.int 1))))) xNil))) F = some (.bl z, F) := by
    have so := same_ok Sg' hq (rows_take V (k + 1)) (rows_take V (m + 1)) (by intro e; have := congrArg List.length e; rw [List.length_take, List.length_nil] at this; omega) (by intro e; have := congrArg List.length e; rw [List.length_take, List.length_nil] at this; omega)
    rw [SN k m hk hm] at so
    exact eCall_fin (xSlot_of (d := sgD ops q) rfl (xVal_of (sl_take rfl rfl hk) (xVal_of (sl_take rfl rfl hm) rfl))) (ga_fz rfl (fz_sgD hq) (ga_val (ga_val rfl))) so rfl
  have Tl : T.length = rows.length := by show (rws _ _).length = _; unfold rws; rw [List.length_map, NB.len]
  have eqT : (T.getD k 0 == T.getD m 0) = z := by
    have k' : k < (nodesT ops rows [] []).2.length := by rw [NB.len]; exact hk
    have m' : m < (nodesT ops rows [] []).2.length := by rw [NB.len]; exact hm
    show ((rws _ _).getD k 0 == (rws _ _).getD m 0) = z
    rw [rws_getD k', rws_getD m']
    have ka : (nodesT ops rows [] []).2.getD k 0 < (nodesT ops rows [] []).1.length := NB.lt _ (by rw [List.getD_eq_getElem?_getD, List.getElem?_eq_getElem k']; exact List.getElem_mem k')
    have ma : (nodesT ops rows [] []).2.getD m 0 < (nodesT ops rows [] []).1.length := NB.lt _ (by rw [List.getD_eq_getElem?_getD, List.getElem?_eq_getElem m']; exact List.getElem_mem m')
    by_cases h : (nodesT ops rows [] []).2.getD k 0 = (nodesT ops rows [] []).2.getD m 0
    · show _ = ((nodesT ops rows [] []).2.getD k 0 == (nodesT ops rows [] []).2.getD m 0)
      rw [h, beq_self_eq_true, beq_self_eq_true]
    · show _ = ((nodesT ops rows [] []).2.getD k 0 == (nodesT ops rows [] []).2.getD m 0)
      rw [beq_eq_false_iff_ne.mpr h, beq_eq_false_iff_ne.mpr fun e => h (wn_inj NB.nd sm ka ma e)]
  have t2 : eOf (q2f opEq (q2f opIx (qVar 12) (qVar 14)) (q2f opIx (qVar 12) (qVar 15))) F = some (.bl z, F) := by
    refine eOf_of (q2f_of (q2f_of (x := .lst true (T.map .int)) (y := nD k) rfl rfl (ix_int (by omega) true)) (q2f_of (x := .lst true (T.map .int)) (y := nD m) rfl rfl (ix_int (by omega) true)) ?_) rfl
    rw [eq_int, eqT]
  have lst : eLst (eCons (eCall g_same (xSlot 2 (xVal (nSl (qVar 4) qNo (qPart (q2f opAdd (qVar 14) (qC (.int 1))))) (xVal (nSl (qVar 4) qNo (qPart (q2f opAdd (qVar 15) (qC (.int 1))))) xNil)))) (eCons (eOf (q2f opEq (q2f opIx (qVar 12) (qVar 14)) (q2f opIx (qVar 12) (qVar 15)))) eNil)) F = some (.lst true ([z, z].map .bl), F) :=
    eLst_of (eCons_of sm1 (eCons_of t2 rfl)) (by show 2 ≤ 5000; decide)
  have due : n2f opMul (qLst (qCons (q2f opEq (q2f opIx (qVar 5) (qVar 14)) (q2f opIx (qVar 5) (qVar 15))) qNil)) (qC (.int 2)) F = some (.lst true ([z, z].map .bl), F) := by
    have l5 : ∀ j (i : Nat), F[j]? = some (some (.int (i : Nat))) → i < rows.length → q2f opIx (qVar 5) (qVar j) F = some (nD ((nodesT ops rows [] []).2.getD i 0)) := fun j i hj hi => by
      refine q2f_of (x := .lst true ((nodesT ops rows [] []).2.map nD)) (y := .int (i : Nat)) rfl (by unfold qVar; rw [hj]) ?_
      show L2.atI ((nodesT ops rows [] []).2.map nD) ((i : Nat) : Int) = _
      refine L2.atI_nat ?_
      have i' : i < (nodesT ops rows [] []).2.length := by rw [NB.len]; exact hi
      rw [List.getElem?_map, List.getElem?_eq_getElem i', List.getD_eq_getElem?_getD, List.getElem?_eq_getElem i']
      rfl
    have e5 : q2f opEq (q2f opIx (qVar 5) (qVar 14)) (q2f opIx (qVar 5) (qVar 15)) F = some (.bl z) := by
      refine q2f_of (l5 14 k rfl hk) (l5 15 m rfl hm) ?_
      show some (D.bl ((((nodesT ops rows [] []).2.getD k 0 : Nat) : Int) == (((nodesT ops rows [] []).2.getD m 0 : Nat) : Int))) = some (.bl z)
      congr 2
      show _ = ((nodesT ops rows [] []).2.getD k 0 == (nodesT ops rows [] []).2.getD m 0)
      rw [Bool.eq_iff_iff, beq_iff_eq, beq_iff_eq]
      omega
    have ql : qLst (qCons (q2f opEq (q2f opIx (qVar 5) (qVar 14)) (q2f opIx (qVar 5) (qVar 15))) qNil) F = some (.lst true [.bl z]) := by
      unfold qLst
      rw [qCons_of (ds := []) e5 rfl]
      show (if isFzL [D.bl z] = true ∧ [D.bl z].length ≤ sizeLine then some (D.lst true [.bl z]) else none) = _
      rw [if_pos ⟨rfl, by rw [List.length_singleton]; decide⟩]
    exact n2f_of ql rfl (bl_mul z)
  have al : eCall g__law_alike (xVal (eLst (eCons (eCall g_same (xSlot 2 (xVal (nSl (qVar 4) qNo (qPart (q2f opAdd (qVar 14) (qC (.int 1))))) (xVal (nSl (qVar 4) qNo (qPart (q2f opAdd (qVar 15) (qC (.int 1))))) xNil)))) (eCons (eOf (q2f opEq (q2f opIx (qVar 12) (qVar 14)) (q2f opIx (qVar 12) (qVar 15)))) eNil))) (xVal (n2f opMul (qLst (qCons (q2f opEq (q2f opIx (qVar 5) (qVar 14)) (q2f opIx (qVar 5) (qVar 15))) qNil)) (qC (.int 2))) xNil)) F = some (.bl true, F) :=
    eCall_fin (xVal_of lst (xVal_of due rfl)) (ga_val (ga_val rfl)) (alike_bls [z, z] (by show 2 ≤ 1000; decide)) rfl
  exact sSeq_nx p1 (sIf_f (dNot_of (tdf_of al)) rfl)
end
end K31

namespace K31
open PySem Dm
theorem dr_rows {ops : List Op} {R : List Rw} (d : Dr ops R) (h : R.length ≤ 36) : Rows ops R := ⟨⟨by omega, d.ok⟩, fun r m => (d.all r m).1⟩
theorem laps_law {cs : List Int} {ops : List Op} {q : D} {rows : List Rw} {lk : Lks} (hlk : ∀ j, 1 ≤ j → lk j = false) (Sg' : Sg ops) (hq : isFz q = true) (V : Rows ops rows) (ne : rows ≠ []) (hl : rows.length ≤ 36) (sm : Small (nodesT ops rows [] []).1) (s G L se w8 w9 w10 w11 : Option D) :
    ∀ (xs : List D) (b : D) (w13 w14 w15 : Option D), Bag cs b → ∃ b' w13' w14' w15', Bag cs b' ∧
      forL (gdName 13) (l_law_1 lk) xs (le s (some b) (some (sgD ops q)) G (some (.tup (rows.map Rw.d))) (some (.lst true ((nodesT ops rows [] []).2.map nD))) L se w8 w9 w10 w11 (some (.lst true ((rws (wn (nodesT ops rows [] []).1) (nodesT ops rows [] []).2).map .int))) w13 w14 w15)
        = some (.nx (le s (some b') (some (sgD ops q)) G (some (.tup (rows.map Rw.d))) (some (.lst true ((nodesT ops rows [] []).2.map nD))) L se w8 w9 w10 w11 (some (.lst true ((rws (wn (nodesT ops rows [] []).1) (nodesT ops rows [] []).2).map .int))) w13' w14' w15'))
  | [], b, w13, w14, w15, hb => ⟨b, w13, w14, w15, hb, rfl⟩
  | x :: xs, b, w13, w14, w15, hb => by
    obtain ⟨b1, u14, u15, hb1, e⟩ := lap_law hlk Sg' hq V ne hl sm hb s G L se w8 w9 w10 w11 (some x) w14 w15
    obtain ⟨b2, v13, v14, v15, hb2, e2⟩ := laps_law hlk Sg' hq V ne hl sm s G L se w8 w9 w10 w11 xs b1 (some x) u14 u15 hb1
    refine ⟨b2, v13, v14, v15, hb2, ?_⟩
    show (match l_law_1 lk (le s (some b) (some (sgD ops q)) G (some (.tup (rows.map Rw.d))) (some (.lst true ((nodesT ops rows [] []).2.map nD))) L se w8 w9 w10 w11 (some (.lst true ((rws (wn (nodesT ops rows [] []).1) (nodesT ops rows [] []).2).map .int))) (some x) w14 w15) with | some (.nx E2) => forL (gdName 13) (l_law_1 lk) xs E2 | some (.ct E2) => forL (gdName 13) (l_law_1 lk) xs E2 | some (.bk E2) => some (.nx E2) | some (.ret d E2) => some (.ret d E2) | none => none) = _
    rw [e]
    exact e2
theorem law_ok (ns : List Int) (h : ns.length ≤ 63) : g_law [.scr (ns.map D.int)] = some (.bl true, [.scr (ns.map D.int)]) := by
  let s : Option D := some (.scr (ns.map .int))
  let lk := lkOf [D.scr (ns.map D.int)]
  have hlk : ∀ j, 1 ≤ j → lk j = false := fun j hj => by
    show lkOf [D.scr (ns.map D.int)] j = false
    unfold lkOf
    rw [List.getElem?_eq_none (by simp only [List.length_cons, List.length_nil]; omega)]
  have hl1 : ∀ j, 1 ≤ j → [j].all (fun i => !lk i) = true := fun j hj => by simp [hlk j hj]
  obtain ⟨b0, hb0, c1⟩ := st_bag h
  have p1 := sAsg_of (lk := lk) (ts := [1]) (g := gdName 1) (E2 := le s (some b0) none none none none none none none none none none none none none none) (hl1 1 (by decide)) c1 rfl
  obtain ⟨ops, q, b1, sub, hq, hb1, c2⟩ := st_signs hb0 s
  have Sg' := sg_four sub
  have hol : ops.length ≤ 1000 := Sg'.len
  have p2 : sPar lk 2 3 (eCons (eCall g__law_signs (xSlot 1 xNil)) (eCons (eCall g__law_graph xNil) eNil)) (le s (some b0) none none none none none none none none none none none none none none) = some (.nx (le s (some b1) (some (sgD ops q)) (some (grD true [])) none none none none none none none none none none none none)) :=
    sPar_of (by rw [hlk 2 (by decide), hlk 3 (by decide)]; rfl) c2
  obtain ⟨b2, rows, hb2, dr, ne, hl, c3⟩ := st_rows hq sub hb1 s (some (grD true []))
  have V := dr_rows dr hl
  have NB := nb_rows V
  have Gk := gok_rows V
  have p3 := sAsg_of (lk := lk) (ts := [4]) (g := gdName 4) (E2 := le s (some b2) (some (sgD ops q)) (some (grD true [])) (some (.tup (rows.map Rw.d))) none none none none none none none none none none none) (hl1 4 (by decide)) c3 rfl
  have c4 := st_nodes hol hq V.ok s (some b2)
  have SM : Small (nodesT ops rows [] []).1 := fun n m => ((dr.all _ (src_num NB m)).2.2 n rfl).2
  have numB : ∀ n, Rw.num n ∈ (nodesT ops rows [] []).1 → -2000000 ≤ n ∧ n ≤ 2000000 := fun n m => by
    have := (dr.all _ (src_num NB m)).2.2 n rfl
    omega
  have LP := fun (sG : Option D) => laps_law (cs := ns.map iabs) (lk := lk) hlk Sg' hq V ne hl SM s sG
  have TT := fun {L : D} hL {us} pm => toldT Sg' (q := q) V (L := L) SM hL (us := us) pm
  have TF := fun {L tb : D} {seed : Int} {ws : List Int} O => toldF Sg' (q := q) V (L := L) (tb := tb) (seed := seed) (ws := ws) O
  have letIn : ∀ x, Rw.let x ∈ (nodesT ops rows [] []).1 → Rw.let x ∈ rows := fun x m => src_let NB m
  have opIn : ∀ o ps, Rw.op o ps ∈ (nodesT ops rows [] []).1 → Good o := fun o ps m => by
    obtain ⟨ks, m2⟩ := src_op NB m
    obtain ⟨p, hp, e, _⟩ := V.sg _ m2
    rw [← e]; exact (Sg'.ar p hp).2.2.2
  have gl : (nodesT ops rows [] []).1.length ≤ 36 := Nat.le_trans NB.small hl
  have fl : (nodesT ops rows [] []).2.length = rows.length := NB.len
  generalize hA : nodesT ops rows [] [] = A at *
  have p4 := sAsg_of (lk := lk) (ts := [5]) (g := gdName 5) (E2 := le s (some b2) (some (sgD ops q)) (some (grD true A.1)) (some (.tup (rows.map Rw.d))) (some (.lst true (A.2.map nD))) none none none none none none none none none none) (hl1 5 (by decide)) c4 rfl
  obtain ⟨ts, b3, hb3, tsl, tsb, c5⟩ := letters_ok (s := .scr (ns.map .int)) (S := sgD ops q) (G := grD true A.1) (N := .lst true (A.2.map nD)) hb2 (rows := rows) (by omega)
  have p5 := sAsg_of (lk := lk) (ts := [6]) (g := gdName 6) (E2 := le s (some b3) (some (sgD ops q)) (some (grD true A.1)) (some (.tup (rows.map Rw.d))) (some (.lst true (A.2.map nD))) (some (ltD ts)) none none none none none none none none none) (hl1 6 (by decide)) c5 rfl
  obtain ⟨b4, se, hb4, c6⟩ := st_seed hb3 s (some (sgD ops q)) (some (grD true A.1)) (some (.tup (rows.map Rw.d))) (some (.lst true (A.2.map nD))) (some (ltD ts))
  have p6 := sAsg_of (lk := lk) (ts := [7]) (g := gdName 7) (E2 := le s (some b4) (some (sgD ops q)) (some (grD true A.1)) (some (.tup (rows.map Rw.d))) (some (.lst true (A.2.map nD))) (some (ltD ts)) (some (.int se)) none none none none none none none none) (hl1 7 (by decide)) c6 rfl
  obtain ⟨ws, O⟩ := own_exists (L := ltD ts) (ops := ops) (seed := se) Gk (fun x m => by
    obtain ⟨v, hv, _⟩ := lt_some (P := fun v => -20 ≤ v ∧ v ≤ 20) tsb (tsl x (letIn x m))
    exact ⟨v, hv⟩) opIn
  have wb := own_bd O (fun x v m e => by
    obtain ⟨v', hv, hb⟩ := lt_some (P := fun v => -20 ≤ v ∧ v ≤ 20) tsb (tsl x (letIn x m))
    rw [hv] at e
    cases e
    omega) numB
  have c7 := st_worths1 hol hq V.ok (nz_lt ts) (TF (tb := .dic true [] []) O) s (some b4) (some (grD true A.1)) (some (.lst true (A.2.map nD)))
  have c8 := st_worths2 (R := some (.tup (rows.map Rw.d))) (s := s) (b := some b4) Gk (by omega) hol hq O (nz_lt ts) (by omega) NB.lt NB.all
  have p7 := sAsg_of (lk := lk) (ts := [8, 9]) (g := gdTup 2 (gdCons (gdName 8) (gdCons (gdName 9) gdNil))) (E2 := le s (some b4) (some (sgD ops q)) (some (grD true A.1)) (some (.tup (rows.map Rw.d))) (some (.lst true (A.2.map nD))) (some (ltD ts)) (some (.int se)) (some (.lst true ((rws (fun k => ws.getD k 0) A.2).map .int))) (some (owD ws)) none none none none none none) (by simp [hlk]) (eTup_two c7 c8) rfl
  have c9 := st_alike1 (ws := ws) (nodes := A.2) (fun k m => by rw [O.1]; exact NB.lt k m) (by omega) wb s (some b4) (some (sgD ops q)) (some (grD true A.1)) (some (.tup (rows.map Rw.d))) (some (ltD ts)) (some (.int se))
  have p8 := sIf_f (g1 := sRet (eOf (qC (.bl false)))) (g2 := sNil) (dNot_of (tdf_of c9)) rfl
  obtain ⟨us, pm, c10⟩ := st_part Gk hol hq s (some b4) (some (.tup (rows.map Rw.d))) (some (.lst true (A.2.map nD))) (some (ltD ts)) (some (.int se)) (some (.lst true ((rws (fun k => ws.getD k 0) A.2).map .int))) (some (owD ws))
  have p9 := sAsg_of (lk := lk) (ts := [10]) (g := gdName 10) (E2 := le s (some b4) (some (sgD ops q)) (some (grD false A.1)) (some (.tup (rows.map Rw.d))) (some (.lst true (A.2.map nD))) (some (ltD ts)) (some (.int se)) (some (.lst true ((rws (fun k => ws.getD k 0) A.2).map .int))) (some (owD ws)) (some (wD true (sgD ops q) (tmD us) (swD ops) (tbD us))) none none none none none) (hl1 10 (by decide)) c10 rfl
  have c11 := st_apart (g := A.1) (by omega) s (some b4) (some (sgD ops q)) (some (.tup (rows.map Rw.d))) (some (.lst true (A.2.map nD))) (some (ltD ts)) (some (.int se)) (some (.lst true ((rws (fun k => ws.getD k 0) A.2).map .int))) (some (owD ws)) (some (wD true (sgD ops q) (tmD us) (swD ops) (tbD us)))
  have p10 := sAsg_of (lk := lk) (ts := [11]) (g := gdName 11) (E2 := le s (some b4) (some (sgD ops q)) (some (grD false A.1)) (some (.tup (rows.map Rw.d))) (some (.lst true (A.2.map nD))) (some (ltD ts)) (some (.int se)) (some (.lst true ((rws (fun k => ws.getD k 0) A.2).map .int))) (some (owD ws)) (some (wD true (sgD ops q) (tmD us) (swD ops) (tbD us))) (some (ltD (apT A.1))) none none none none) (hl1 11 (by decide)) c11 rfl
  have c12 := st_told V.ok (nz_lt (apT A.1)) (TT (L := ltD (apT A.1)) (fun j x e => ap_get NB.nd e) pm) s (some b4) (some (sgD ops q)) (some (grD false A.1)) (some (.lst true (A.2.map nD))) (some (ltD ts)) (some (.int se)) (some (.lst true ((rws (fun k => ws.getD k 0) A.2).map .int))) (some (owD ws))
  have p11 := sAsg_of (lk := lk) (ts := [12]) (g := gdName 12) (E2 := le s (some b4) (some (sgD ops q)) (some (grD false A.1)) (some (.tup (rows.map Rw.d))) (some (.lst true (A.2.map nD))) (some (ltD ts)) (some (.int se)) (some (.lst true ((rws (fun k => ws.getD k 0) A.2).map .int))) (some (owD ws)) (some (wD true (sgD ops q) (tmD us) (swD ops) (tbD us))) (some (ltD (apT A.1))) (some (.lst true ((rws (wn A.1) A.2).map .int))) none none none) (hl1 12 (by decide)) c12 rfl
  obtain ⟨b5, w13, w14, w15, hb5, c13⟩ := LP (some (grD false A.1)) (some (ltD ts)) (some (.int se)) (some (.lst true ((rws (fun k => ws.getD k 0) A.2).map .int))) (some (owD ws)) (some (wD true (sgD ops q) (tmD us) (swD ops) (tbD us))) (some (ltD (apT A.1))) (rangeD 0 10) b4 none none none hb4
  have p12 := sFor_of (lk := lk) (ts := [13]) (fi := iRange (eCons (eOf (qC (.int 10))) eNil)) (hl1 13 (by decide)) rfl c13
  refine runD_of (E' := le s (some b5) (some (sgD ops q)) (some (grD false A.1)) (some (.tup (rows.map Rw.d))) (some (.lst true (A.2.map nD))) (some (ltD ts)) (some (.int se)) (some (.lst true ((rws (fun k => ws.getD k 0) A.2).map .int))) (some (owD ws)) (some (wD true (sgD ops q) (tmD us) (swD ops) (tbD us))) (some (ltD (apT A.1))) (some (.lst true ((rws (wn A.1) A.2).map .int))) w13 w14 w15) rfl ?_ (outsD_fz (fz_scr ns) rfl)
  exact sSeq_nx p1 (sSeq_nx p2 (sSeq_nx p3 (sSeq_nx p4 (sSeq_nx p5 (sSeq_nx p6 (sSeq_nx p7 (sSeq_nx p8 (sSeq_nx p9 (sSeq_nx p10 (sSeq_nx p11 (sSeq_nx p12 rfl)))))))))))
end K31

section
open PySem PySem.W PyProof.Rows
set_option maxHeartbeats 0 in
theorem PySem.Challenge.cw_nocheaper_k31_whole_one_term_in_every_wo_holds : PySem.Challenge.rw_nocheaper_k31_whole_one_term_in_every_wo.Holds := by
  w_on; o_law; k_head; (case hw => w_witness2)
  k_fill
  refine Dm.walkG (l := PySem.Challenge.rw_nocheaper_k31_whole_one_term_in_every_wo) (n := 63) (k := 6) (x := "script") (g := K31.g_law) rfl (by decide) rfl ⟨rfl, by decide, by decide⟩ (fun w h Y => PySem.W.kIn_of Y) ?F (fun ns h => K31.law_ok ns h)
  case F =>
    intro w mg fa h KX G hmg
    refine' K31.all_mk KX G hmg ?a_World ?pg_World ?hd_World ?po_World ?sa_World ?mk_World ?kc_World ?a_Terms ?pg_Terms ?hd_Terms ?po_Terms ?sa_Terms ?mk_Terms ?kc_Terms ?a0 ?l0 ?c0 ?k0 ?a1 ?l1 ?c1 ?k1 ?a2 ?l2 ?c2 ?k2 ?a3 ?l3 ?c3 ?k3 ?a4 ?l4 ?c4 ?k4 ?a5 ?l5 ?c5 ?k5 ?a6 ?l6 ?c6 ?k6 ?a7 ?l7 ?c7 ?k7 ?a8 ?i8 ?l8 ?c8 ?k8 ?a9 ?i9 ?l9 ?c9 ?k9 ?a10 ?l10 ?c10 ?k10 ?a11 ?i11 ?l11 ?c11 ?k11 ?a12 ?i12 ?l12 ?c12 ?k12 ?a13 ?l13 ?c13 ?k13 ?a14 ?l14 ?c14 ?k14 ?a15 ?l15 ?c15 ?k15 ?a16 ?l16 ?c16 ?k16 ?a17 ?l17 ?c17 ?k17 ?a18 ?l18 ?c18 ?k18 ?a19 ?l19 ?c19 ?k19 ?a20 ?l20 ?c20 ?k20 ?a21 ?l21 ?c21 ?k21 ?a22 ?l22 ?c22 ?k22 ?a23 ?l23 ?c23 ?k23 ?a24 ?l24 ?c24 ?k24 ?a25 ?l25 ?c25 ?k25 ?a26 ?l26 ?c26 ?k26 ?a27 ?l27 ?c27 ?k27 ?a28 ?i28 ?l28 ?c28 ?k28 ?a29 ?i29 ?l29 ?c29 ?k29 ?a30 ?i30 ?l30 ?c30 ?k30 ?a31 ?i31 ?l31 ?c31 ?k31 ?a32 ?i32 ?l32 ?c32 ?k32 ?a33 ?l33 ?c33 ?k33 ?a34 ?l34 ?c34 ?k34 ?a35 ?l35 ?c35 ?k35 ?z_abs ?z_all ?z_bool ?z_dict ?z_enumerate ?z_int ?z_isinstance ?z_len ?z_list ?z_max ?z_range ?z_repr ?z_sorted ?z_str ?z_tuple ?y_MODULUS ?y_SIGNS ?y_HALF ?n_World_signs ?n_World_meaning ?n_World_reads ?n_World_answers ?n_World_swaps ?n_World_table ?n_Terms_its_signs ?n_Terms_its_heads ?n_Terms_its_numbers ?n_Terms_its_heights
    (case a_World => k_is); (case pg_World => k_is); (case hd_World => k_is); (case po_World => k_is); (case sa_World => k_is); (case mk_World => k_is); (case kc_World => k_is); (case a_Terms => k_is); (case pg_Terms => k_is); (case hd_Terms => k_is); (case po_Terms => k_is); (case sa_Terms => k_is); (case mk_Terms => k_is); (case kc_Terms => k_is); (case a0 => k_is); (case l0 => k_is); (case c0 => k_is); (case k0 => k_is); (case a1 => k_is); (case l1 => k_is); (case c1 => k_is); (case k1 => k_is); (case a2 => k_is); (case l2 => k_is); (case c2 => k_is); (case k2 => k_is); (case a3 => k_is); (case l3 => k_is); (case c3 => k_is); (case k3 => k_is); (case a4 => k_is); (case l4 => k_is); (case c4 => k_is); (case k4 => k_is); (case a5 => k_is); (case l5 => k_is); (case c5 => k_is); (case k5 => k_is); (case a6 => k_is); (case l6 => k_is); (case c6 => k_is); (case k6 => k_is); (case a7 => k_is); (case l7 => k_is); (case c7 => k_is); (case k7 => k_is); (case a8 => k_is); (case i8 => k_is); (case l8 => k_is); (case c8 => k_is); (case k8 => k_is); (case a9 => k_is); (case i9 => k_is); (case l9 => k_is); (case c9 => k_is); (case k9 => k_is); (case a10 => k_is); (case l10 => k_is); (case c10 => k_is); (case k10 => k_is); (case a11 => k_is); (case i11 => k_is); (case l11 => k_is); (case c11 => k_is); (case k11 => k_is); (case a12 => k_is); (case i12 => k_is); (case l12 => k_is); (case c12 => k_is); (case k12 => k_is); (case a13 => k_is); (case l13 => k_is); (case c13 => k_is); (case k13 => k_is); (case a14 => k_is); (case l14 => k_is); (case c14 => k_is); (case k14 => k_is); (case a15 => k_is); (case l15 => k_is); (case c15 => k_is); (case k15 => k_is); (case a16 => k_is); (case l16 => k_is); (case c16 => k_is); (case k16 => k_is); (case a17 => k_is); (case l17 => k_is); (case c17 => k_is); (case k17 => k_is); (case a18 => k_is); (case l18 => k_is); (case c18 => k_is); (case k18 => k_is); (case a19 => k_is); (case l19 => k_is); (case c19 => k_is); (case k19 => k_is); (case a20 => k_is); (case l20 => k_is); (case c20 => k_is); (case k20 => k_is); (case a21 => k_is); (case l21 => k_is); (case c21 => k_is); (case k21 => k_is); (case a22 => k_is); (case l22 => k_is); (case c22 => k_is); (case k22 => k_is); (case a23 => k_is); (case l23 => k_is); (case c23 => k_is); (case k23 => k_is); (case a24 => k_is); (case l24 => k_is); (case c24 => k_is); (case k24 => k_is); (case a25 => k_is); (case l25 => k_is); (case c25 => k_is); (case k25 => k_is); (case a26 => k_is); (case l26 => k_is); (case c26 => k_is); (case k26 => k_is); (case a27 => k_is); (case l27 => k_is); (case c27 => k_is); (case k27 => k_is); (case a28 => k_is); (case i28 => k_is); (case l28 => k_is); (case c28 => k_is); (case k28 => k_is); (case a29 => k_is); (case i29 => k_is); (case l29 => k_is); (case c29 => k_is); (case k29 => k_is); (case a30 => k_is); (case i30 => k_is); (case l30 => k_is); (case c30 => k_is); (case k30 => k_is); (case a31 => k_is); (case i31 => k_is); (case l31 => k_is); (case c31 => k_is); (case k31 => k_is); (case a32 => k_is); (case i32 => k_is); (case l32 => k_is); (case c32 => k_is); (case k32 => k_is); (case a33 => k_is); (case l33 => k_is); (case c33 => k_is); (case k33 => k_is); (case a34 => k_is); (case l34 => k_is); (case c34 => k_is); (case k34 => k_is); (case a35 => k_is); (case l35 => k_is); (case c35 => k_is); (case k35 => k_is); (case z_abs => k_is); (case z_all => k_is); (case z_bool => k_is); (case z_dict => k_is); (case z_enumerate => k_is); (case z_int => k_is); (case z_isinstance => k_is); (case z_len => k_is); (case z_list => k_is); (case z_max => k_is); (case z_range => k_is); (case z_repr => k_is); (case z_sorted => k_is); (case z_str => k_is); (case z_tuple => k_is); (case y_MODULUS => k_is); (case y_SIGNS => k_is); (case y_HALF => k_is); (case n_World_signs => k_is); (case n_World_meaning => k_is); (case n_World_reads => k_is); (case n_World_answers => k_is); (case n_World_swaps => k_is); (case n_World_table => k_is); (case n_Terms_its_signs => k_is); (case n_Terms_its_heads => k_is); (case n_Terms_its_numbers => k_is); (case n_Terms_its_heights => k_is)
end
