import PyProof.Rows.All
import Wide.All
import OpenK.AllK
import Wide.FinOn
import HandS.ForMost
import HandS.Walk
import HandS.Nested
import HandS.HeadHook1
import HandS.ForExc
import HandS.CallSlots
import HandS.NoneIn
import HandS.Style
import HandS.TupAny
import HandS.TupMul
import HandS.Wide
import HandS.WideBits
import HandS.Deep
import HandS.IsInst
import HandS.Zip
import KE.GoesMore
import KE.GoesZip
import PyProof.EnumMake
import HandS.Rev
import HandS.Defaults
import HandS.MakeKwOnly
import HandS.SortInts
import HandS.SortRule
import HandS.SetFor
import HandS.Strs
import HandS.CallLocal
import HandS.TupSets
import HandS.TupLen
import HandS.More
import HandS.Conv
import HandS.WordsDict
import KE.KDictDisplayH
import HandS.DictTup
import HandS.DictComp
import HandS.HeadEnd
import PyProof.ReprRoads
import HandS.OwnIter
import PyProof.CollectWalk
import HandS.Dict
import HandS.Small
import PyProof.Rows.IntBool
import KE.DataMinMax
import HandS.ExcInit
import HandS.ExcIs
import HandS.ExcField
import KE.KExcInit
import KE.KTryMore
import HandS.TryMany
import HandS.HeadHook4
import HandS.MakeKw
import HandS.Base
import KE.KStateDown
import Lean
import HandS.Head0
import HandS.Head1
import HandS.Head2
import HandS.HeadHook2
import PySem.Challenge.RW_wellfolk_k56_error_classes
set_option Elab.async false
set_option linter.all false
set_option maxRecDepth 100000
set_option maxHeartbeats 0
namespace WF
open PySem PySem.Spec PyProof.Rows L2
inductive D where
  | un | non | bl (b : Bool) | int (i : Int) | str (x : Str) | vl (v : V)
  | tup (xs : List D) | lst (o : Bool) (xs : List D)
  | dic (o : Bool) (ks : List Key) (xs : List D)
  | dtk (o : Bool) (ks : List (List Key)) (xs : List D)
  | scr (ns : List Int)
  | hld (u : HO)
  | con (u : HO)
  | tab (nm : Nat → Nat → Str)
  | obj (o : Bool) (c : Str) (fs : List Str) (xs : List D)
  | exn (c : Str) (fs : List Str) (xs : List D)
mutual
def D.frz : D → D
  | .tup xs => .tup (D.frzs xs)
  | .exn c fs xs => .exn c fs (D.frzs xs)
  | .lst _ xs => .lst false (D.frzs xs)
  | .dic _ ks xs => .dic false ks (D.frzs xs)
  | .dtk _ ks xs => .dtk false ks (D.frzs xs)
  | .hld _ => .un
  | .tab _ => .un
  | .obj _ c fs xs => .obj false c fs (D.frzs xs)
  | d => d
def D.frzs : List D → List D
  | [] => []
  | x :: xs => x.frz :: D.frzs xs
end
theorem D.frzs_map : ∀ xs : List D, D.frzs xs = xs.map D.frz
  | [] => rfl
  | x :: xs => by simp [D.frzs, D.frzs_map xs]
example : (D.tup [.lst true [.int 3]]).frz = D.tup [.lst false [.int 3]] := rfl
def GSub (G H : Hp) : Prop := ∀ a o, G a = some o → H a = some o
theorem GSub.refl {G : Hp} : GSub G G := fun _ _ h => h
theorem GSub.trans {G H J : Hp} (a : GSub G H) (b : GSub H J) : GSub G J := fun x o h => b x o (a x o h)
theorem sqL_mono {K : PySem.W.Frag} {G G' : Hp} {p : Addr} {xs : List V} (g : GSub G G') (h : SqL K G p xs) : SqL K G' p xs := by
  rcases h with (h | ⟨o, h⟩) | h
  · exact .inl (.inl (g _ _ h))
  · exact .inl (.inr ⟨o, g _ _ h⟩)
  · exact .inr h
def exk (p : Addr) (cls : Value) (dd : Option Addr) : HO := .ext fun h => ∃ (o : Obj) (vs : Array Value), h.get? p = some o ∧ o.cls = cls ∧ o.dict = dd ∧ o.data = .fields vs
def HldOk (u : HO) : Prop := (∀ xs, u ≠ .tup xs) ∧ (∀ ps, u ≠ .tbl ps) ∧ (∀ φ, u ≠ .ext φ) ∧ ∀ fs, u ≠ .xd fs
def TabG (G H : Hp) (P : Addr) (nm : Nat → Nat → Str) : Prop := ∃ ps : Array Value, H P = some (.tbl ps) ∧ TriplesOk ps.toList ∧ ∀ (pos : Pos) (cv : Value), codeAmong pos ps.toList = some cv → ∃ c, cv = .ref c ∧ G c = some (LamX.CodeO c (nm pos.line pos.col))
theorem TabG.mono {G G' H H' : Hp} {P : Addr} {nm : Nat → Nat → Str} (t : TabG G H P nm) (g : GSub G G') (h : ∀ o, H P = some o → H' P = some o) : TabG G' H' P nm := by
  obtain ⟨ps, a, b, c⟩ := t
  exact ⟨ps, h _ a, b, fun pos cv e => let ⟨x, e1, e2⟩ := c pos cv e; ⟨x, e1, g _ _ e2⟩⟩
abbrev Pr := V × D
inductive Reps (K : PySem.W.Frag) (G H : Hp) : List Pr → List Addr → Prop where
  | nil : Reps K G H [] []
  | un {v L fp} : Reps K G H L fp → Reps K G H ((v, .un) :: L) fp
  | non {L fp} : Reps K G H L fp → Reps K G H ((.non, .non) :: L) fp
  | bl {b L fp} : Reps K G H L fp → Reps K G H ((.bl b, .bl b) :: L) fp
  | int {i L fp} : Reps K G H L fp → Reps K G H ((.int i, .int i) :: L) fp
  | str {x L fp} : Reps K G H L fp → Reps K G H ((.str x, .str x) :: L) fp
  | vl {v L fp} : Reps K G H L fp → Reps K G H ((v, .vl v) :: L) fp
  | tup {p C vs ds f L fp} : G p = some (.tup vs) → C.map Prod.fst = vs → C.map Prod.snd = ds → Reps K G H C f → Reps K G H L fp → Reps K G H ((.ref p, .tup ds) :: L) (f ++ fp)
  | exn {p dd c fs kvs C ds L fp} : G p = some (exk p (.ref (He.ga K c)) dd) → (dd = none ∧ kvs = [] ∨ ∃ dx, dd = some dx ∧ G dx = some (.xd kvs)) → kvs.map Prod.fst = fs → C.map Prod.fst = kvs.map Prod.snd → C.map Prod.snd = ds → Reps K G H C [] → Reps K G H L fp → Reps K G H ((.ref p, .exn c fs ds) :: L) fp
  | hld {p u L fp} : HldOk u → H p = some u → Reps K G H L fp → Reps K G H ((.ref p, .hld u) :: L) (p :: fp)
  | con {p u L fp} : (∀ ps, u ≠ .tbl ps) → G p = some u → Reps K G H L fp → Reps K G H ((.ref p, .con u) :: L) fp
  | tab {p nm L fp} : TabG G H p nm → Reps K G H L fp → Reps K G H ((.ref p, .tab nm) :: L) (p :: fp)
  | of {p dx c fs kvs C ds L fp} : G p = some (.ins (He.ga K c) dx kvs) → G dx = some (.own p) → kvs.map Prod.fst = fs → C.map Prod.fst = kvs.map Prod.snd → C.map Prod.snd = ds → Reps K G H C [] → Reps K G H L fp → Reps K G H ((.ref p, .obj false c fs ds) :: L) fp
  | oo {p dx c fs kvs C ds f L fp} : H p = some (.ins (He.ga K c) dx kvs) → H dx = some (.own p) → kvs.map Prod.fst = fs → C.map Prod.fst = kvs.map Prod.snd → C.map Prod.snd = ds → Reps K G H C f → Reps K G H L fp → Reps K G H ((.ref p, .obj true c fs ds) :: L) (p :: dx :: (f ++ fp))
  | scr {p ns L fp} : SqL K G p (ns.map V.int) → Reps K G H L fp → Reps K G H ((.ref p, .scr ns) :: L) fp
  | lf {p C vs ds L fp} : G p = some (.lst vs) → C.map Prod.fst = vs → C.map Prod.snd = ds → Reps K G H C [] → Reps K G H L fp → Reps K G H ((.ref p, .lst false ds) :: L) fp
  | lo {p C vs ds f L fp} : H p = some (.lst vs) → C.map Prod.fst = vs → C.map Prod.snd = ds → Reps K G H C f → Reps K G H L fp → Reps K G H ((.ref p, .lst true ds) :: L) (p :: (f ++ fp))
  | kf {p C ks ds kvs L fp} : G p = some (.dK kvs) → kvs.map Prod.fst = ks → C.map Prod.fst = kvs.map Prod.snd → C.map Prod.snd = ds → Reps K G H C [] → Reps K G H L fp → Reps K G H ((.ref p, .dic false ks ds) :: L) fp
  | ko {p C ks ds kvs f L fp} : H p = some (.dK kvs) → kvs.map Prod.fst = ks → C.map Prod.fst = kvs.map Prod.snd → C.map Prod.snd = ds → Reps K G H C f → Reps K G H L fp → Reps K G H ((.ref p, .dic true ks ds) :: L) (p :: (f ++ fp))
  | tf {p C ks ds kvs L fp} : G p = some (.dT kvs) → kvs.map Prod.fst = ks → C.map Prod.fst = kvs.map Prod.snd → C.map Prod.snd = ds → Reps K G H C [] → Reps K G H L fp → Reps K G H ((.ref p, .dtk false ks ds) :: L) fp
  | to {p C ks ds kvs f L fp} : H p = some (.dT kvs) → kvs.map Prod.fst = ks → C.map Prod.fst = kvs.map Prod.snd → C.map Prod.snd = ds → Reps K G H C f → Reps K G H L fp → Reps K G H ((.ref p, .dtk true ks ds) :: L) (p :: (f ++ fp))
section
variable {K : PySem.W.Frag} {G G' H H' : Hp}
theorem Reps.mono {L : List Pr} {fp : List Addr} (r : Reps K G H L fp) (g : GSub G G') (h : ∀ a o, a ∈ fp → H a = some o → H' a = some o) : Reps K G' H' L fp := by
  induction r with
  | nil => exact .nil
  | un _ ih => exact .un (ih h)
  | non _ ih => exact .non (ih h)
  | bl _ ih => exact .bl (ih h)
  | int _ ih => exact .int (ih h)
  | str _ ih => exact .str (ih h)
  | vl _ ih => exact .vl (ih h)
  | hld q a _ ih => exact .hld q (h _ _ List.mem_cons_self a) (ih fun a o m => h a o (List.mem_cons_of_mem _ m))
  | con q a _ ih => exact .con q (g _ _ a) (ih h)
  | tab a _ ih => exact .tab (a.mono g fun o e => h _ _ List.mem_cons_self e) (ih fun a o m => h a o (List.mem_cons_of_mem _ m))
  | of a a2 e b c _ _ ih1 ih2 => exact .of (g _ _ a) (g _ _ a2) e b c (ih1 fun a o m => nomatch m) (ih2 h)
  | oo a a2 e b c _ _ ih1 ih2 => exact .oo (h _ _ (List.mem_cons_self) a) (h _ _ (List.mem_cons_of_mem _ List.mem_cons_self) a2) e b c (ih1 fun a o m => h a o (List.mem_cons_of_mem _ (List.mem_cons_of_mem _ (List.mem_append_left _ m)))) (ih2 fun a o m => h a o (List.mem_cons_of_mem _ (List.mem_cons_of_mem _ (List.mem_append_right _ m))))
  | scr a _ ih => exact .scr (sqL_mono g a) (ih h)
  | tup a b c _ _ ih1 ih2 => exact .tup (g _ _ a) b c (ih1 fun a o m => h a o (List.mem_append_left _ m)) (ih2 fun a o m => h a o (List.mem_append_right _ m))
  | exn a a2 e b c _ _ ih1 ih2 => exact .exn (g _ _ a) (a2.imp id fun ⟨dx, e1, e2⟩ => ⟨dx, e1, g _ _ e2⟩) e b c (ih1 fun a o m => nomatch m) (ih2 h)
  | lf a b c _ _ ih1 ih2 => exact .lf (g _ _ a) b c (ih1 fun a o m => nomatch m) (ih2 h)
  | lo a b c _ _ ih1 ih2 => exact .lo (h _ _ (List.mem_cons_self) a) b c (ih1 fun a o m => h a o (List.mem_cons_of_mem _ (List.mem_append_left _ m))) (ih2 fun a o m => h a o (List.mem_cons_of_mem _ (List.mem_append_right _ m)))
  | kf a e b c _ _ ih1 ih2 => exact .kf (g _ _ a) e b c (ih1 fun a o m => nomatch m) (ih2 h)
  | ko a e b c _ _ ih1 ih2 => exact .ko (h _ _ (List.mem_cons_self) a) e b c (ih1 fun a o m => h a o (List.mem_cons_of_mem _ (List.mem_append_left _ m))) (ih2 fun a o m => h a o (List.mem_cons_of_mem _ (List.mem_append_right _ m)))
  | tf a e b c _ _ ih1 ih2 => exact .tf (g _ _ a) e b c (ih1 fun a o m => nomatch m) (ih2 h)
  | to a e b c _ _ ih1 ih2 => exact .to (h _ _ (List.mem_cons_self) a) e b c (ih1 fun a o m => h a o (List.mem_cons_of_mem _ (List.mem_append_left _ m))) (ih2 fun a o m => h a o (List.mem_cons_of_mem _ (List.mem_append_right _ m)))
theorem Reps.append {L L' : List Pr} {fp fp' : List Addr} (r : Reps K G H L fp) (r' : Reps K G H L' fp') : Reps K G H (L ++ L') (fp ++ fp') := by
  induction r with
  | nil => exact r'
  | un _ ih => exact .un ih
  | non _ ih => exact .non ih
  | bl _ ih => exact .bl ih
  | int _ ih => exact .int ih
  | str _ ih => exact .str ih
  | vl _ ih => exact .vl ih
  | hld q a _ ih => exact .hld q a ih
  | con q a _ ih => exact .con q a ih
  | tab a _ ih => exact .tab a ih
  | of a a2 e b c r1 _ _ ih2 => exact .of a a2 e b c r1 ih2
  | oo a a2 e b c r1 _ _ ih2 => have q := Reps.oo (G := G) a a2 e b c r1 ih2; rw [← List.append_assoc] at q; exact q
  | scr a _ ih => exact .scr a ih
  | tup a b c r1 _ _ ih2 => rw [List.append_assoc]; exact .tup a b c r1 ih2
  | exn a a2 e b c r1 _ _ ih2 => exact .exn a a2 e b c r1 ih2
  | lf a b c r1 _ _ ih2 => exact .lf a b c r1 ih2
  | lo a b c r1 _ _ ih2 => have q := Reps.lo (G := G) a b c r1 ih2; rw [← List.append_assoc] at q; exact q
  | kf a e b c r1 _ _ ih2 => exact .kf a e b c r1 ih2
  | ko a e b c r1 _ _ ih2 => have q := Reps.ko (G := G) a e b c r1 ih2; rw [← List.append_assoc] at q; exact q
  | tf a e b c r1 _ _ ih2 => exact .tf a e b c r1 ih2
  | to a e b c r1 _ _ ih2 => have q := Reps.to (G := G) a e b c r1 ih2; rw [← List.append_assoc] at q; exact q
theorem Reps.uncons {x : Pr} {L : List Pr} {fp : List Addr} (r : Reps K G H (x :: L) fp) : ∃ f1 f2, fp = f1 ++ f2 ∧ Reps K G H [x] f1 ∧ Reps K G H L f2 := by
  cases r with
  | un r => exact ⟨[], _, rfl, .un .nil, r⟩
  | non r => exact ⟨[], _, rfl, .non .nil, r⟩
  | bl r => exact ⟨[], _, rfl, .bl .nil, r⟩
  | int r => exact ⟨[], _, rfl, .int .nil, r⟩
  | str r => exact ⟨[], _, rfl, .str .nil, r⟩
  | vl r => exact ⟨[], _, rfl, .vl .nil, r⟩
  | hld q a r => exact ⟨[_], _, rfl, .hld q a .nil, r⟩
  | con q a r => exact ⟨[], _, rfl, .con q a .nil, r⟩
  | tab a r => exact ⟨[_], _, rfl, .tab a .nil, r⟩
  | of a a2 e b c r1 r => exact ⟨[], _, rfl, .of a a2 e b c r1 .nil, r⟩
  | oo a a2 e b c r1 r => exact ⟨_ :: _ :: _, _, rfl, by have := Reps.oo (G := G) a a2 e b c r1 (.nil (K := K) (G := G) (H := H)); rwa [List.append_nil] at this, r⟩
  | scr a r => exact ⟨[], _, rfl, .scr a .nil, r⟩
  | tup a b c r1 r => exact ⟨_, _, rfl, by have := Reps.tup a b c r1 (.nil (K := K) (G := G) (H := H)); rwa [List.append_nil] at this, r⟩
  | exn a a2 e b c r1 r => exact ⟨[], _, rfl, .exn a a2 e b c r1 .nil, r⟩
  | lf a b c r1 r => exact ⟨[], _, rfl, .lf a b c r1 .nil, r⟩
  | lo a b c r1 r => exact ⟨_ :: _, _, rfl, by have := Reps.lo (G := G) a b c r1 (.nil (K := K) (G := G) (H := H)); rwa [List.append_nil] at this, r⟩
  | kf a e b c r1 r => exact ⟨[], _, rfl, .kf a e b c r1 .nil, r⟩
  | ko a e b c r1 r => exact ⟨_ :: _, _, rfl, by have := Reps.ko (G := G) a e b c r1 (.nil (K := K) (G := G) (H := H)); rwa [List.append_nil] at this, r⟩
  | tf a e b c r1 r => exact ⟨[], _, rfl, .tf a e b c r1 .nil, r⟩
  | to a e b c r1 r => exact ⟨_ :: _, _, rfl, by have := Reps.to (G := G) a e b c r1 (.nil (K := K) (G := G) (H := H)); rwa [List.append_nil] at this, r⟩
theorem Reps.cons {x : Pr} {L : List Pr} {f1 f2 : List Addr} (r1 : Reps K G H [x] f1) (r2 : Reps K G H L f2) : Reps K G H (x :: L) (f1 ++ f2) := r1.append r2
theorem Reps.unappend : ∀ {L L' : List Pr} {fp : List Addr}, Reps K G H (L ++ L') fp → ∃ f1 f2, fp = f1 ++ f2 ∧ Reps K G H L f1 ∧ Reps K G H L' f2
  | [], L', fp, r => ⟨[], fp, rfl, .nil, r⟩
  | x :: L, L', fp, r => by
    obtain ⟨f1, f2, rfl, r1, r2⟩ := Reps.uncons (L := L ++ L') r
    obtain ⟨f3, f4, rfl, r3, r4⟩ := Reps.unappend r2
    exact ⟨f1 ++ f3, f4, by rw [List.append_assoc], r1.cons r3, r4⟩
theorem Reps.perm {L L' : List Pr} (p : L.Perm L') : ∀ {fp : List Addr}, Reps K G H L fp → ∃ fp', fp.Perm fp' ∧ Reps K G H L' fp' := by
  induction p with
  | nil => intro fp r; exact ⟨fp, .refl _, r⟩
  | cons x _ ih =>
    intro fp r
    obtain ⟨f1, f2, rfl, r1, r2⟩ := r.uncons
    obtain ⟨f3, p3, r3⟩ := ih r2
    exact ⟨f1 ++ f3, p3.append_left f1, r1.cons r3⟩
  | swap x y l =>
    intro fp r
    obtain ⟨f1, f2, rfl, r1, r2⟩ := r.uncons
    obtain ⟨f3, f4, rfl, r3, r4⟩ := r2.uncons
    refine ⟨f3 ++ (f1 ++ f4), ?_, r3.cons (r1.cons r4)⟩
    rw [← List.append_assoc, ← List.append_assoc]
    exact List.Perm.append_right _ List.perm_append_comm
  | trans _ _ ih1 ih2 =>
    intro fp r
    obtain ⟨f1, p1, r1⟩ := ih1 r
    obtain ⟨f2, p2, r2⟩ := ih2 r1
    exact ⟨f2, p1.trans p2, r2⟩
theorem Reps.freeze {L : List Pr} {fp : List Addr} (r : Reps K G H L fp) (g : GSub G G') (h : ∀ a o, a ∈ fp → H a = some o → G' a = some o) : Reps K G' H (L.map fun x => (x.1, x.2.frz)) [] := by
  have mp1 : ∀ {C : List Pr} {vs : List V}, C.map Prod.fst = vs → (C.map fun x : Pr => (x.1, x.2.frz)).map Prod.fst = vs := fun {C vs} e => by
    rw [← e, List.map_map]; rfl
  have mp2 : ∀ {C : List Pr} {ds : List D}, C.map Prod.snd = ds → (C.map fun x : Pr => (x.1, x.2.frz)).map Prod.snd = D.frzs ds := fun {C ds} e => by
    rw [← e, List.map_map, D.frzs_map, List.map_map]; rfl
  induction r with
  | nil => exact .nil
  | un _ ih => exact .un (ih h)
  | non _ ih => exact .non (ih h)
  | bl _ ih => exact .bl (ih h)
  | int _ ih => exact .int (ih h)
  | str _ ih => exact .str (ih h)
  | vl _ ih => exact .vl (ih h)
  | hld q a _ ih => exact .un (ih fun a o m => h a o (List.mem_cons_of_mem _ m))
  | con q a _ ih => exact .con q (g _ _ a) (ih h)
  | tab a _ ih => exact .un (ih fun a o m => h a o (List.mem_cons_of_mem _ m))
  | of a a2 e b c _ _ ih1 ih2 => exact .of (g _ _ a) (g _ _ a2) e (mp1 b) (mp2 c) (ih1 fun a o m => nomatch m) (ih2 h)
  | oo a a2 e b c _ _ ih1 ih2 => exact .of (h _ _ (List.mem_cons_self) a) (h _ _ (List.mem_cons_of_mem _ List.mem_cons_self) a2) e (mp1 b) (mp2 c) (ih1 fun a o m => h a o (List.mem_cons_of_mem _ (List.mem_cons_of_mem _ (List.mem_append_left _ m)))) (ih2 fun a o m => h a o (List.mem_cons_of_mem _ (List.mem_cons_of_mem _ (List.mem_append_right _ m))))
  | scr a _ ih => exact .scr (sqL_mono g a) (ih h)
  | tup a b c _ _ ih1 ih2 => exact Reps.tup (f := []) (g _ _ a) (mp1 b) (mp2 c) (ih1 fun a o m => h a o (List.mem_append_left _ m)) (ih2 fun a o m => h a o (List.mem_append_right _ m))
  | exn a a2 e b c _ _ ih1 ih2 => exact .exn (g _ _ a) (a2.imp id fun ⟨dx, e1, e2⟩ => ⟨dx, e1, g _ _ e2⟩) e (mp1 b) (mp2 c) (ih1 fun a o m => nomatch m) (ih2 h)
  | lf a b c _ _ ih1 ih2 => exact .lf (g _ _ a) (mp1 b) (mp2 c) (ih1 fun a o m => nomatch m) (ih2 h)
  | lo a b c _ _ ih1 ih2 => exact .lf (h _ _ (List.mem_cons_self) a) (mp1 b) (mp2 c) (ih1 fun a o m => h a o (List.mem_cons_of_mem _ (List.mem_append_left _ m))) (ih2 fun a o m => h a o (List.mem_cons_of_mem _ (List.mem_append_right _ m)))
  | kf a e b c _ _ ih1 ih2 => exact .kf (g _ _ a) e (mp1 b) (mp2 c) (ih1 fun a o m => nomatch m) (ih2 h)
  | ko a e b c _ _ ih1 ih2 => exact .kf (h _ _ (List.mem_cons_self) a) e (mp1 b) (mp2 c) (ih1 fun a o m => h a o (List.mem_cons_of_mem _ (List.mem_append_left _ m))) (ih2 fun a o m => h a o (List.mem_cons_of_mem _ (List.mem_append_right _ m)))
  | tf a e b c _ _ ih1 ih2 => exact .tf (g _ _ a) e (mp1 b) (mp2 c) (ih1 fun a o m => nomatch m) (ih2 h)
  | to a e b c _ _ ih1 ih2 => exact .tf (h _ _ (List.mem_cons_self) a) e (mp1 b) (mp2 c) (ih1 fun a o m => h a o (List.mem_cons_of_mem _ (List.mem_append_left _ m))) (ih2 fun a o m => h a o (List.mem_cons_of_mem _ (List.mem_append_right _ m)))
end
def Joint (K : PySem.W.Frag) (H : Hp) (L : List Pr) : Prop :=
  ∃ G fp, GSub G H ∧ Reps K G H L fp ∧ fp.Nodup ∧ ∀ a ∈ fp, G a = none
section
variable {K : PySem.W.Frag} {H H' : Hp} {L L' : List Pr} {x : Pr}
theorem Joint.perm (p : L.Perm L') (j : Joint K H L) : Joint K H L' := by
  obtain ⟨G, fp, g, r, n, z⟩ := j
  obtain ⟨fp', pp, r'⟩ := r.perm p
  exact ⟨G, fp', g, r', pp.nodup_iff.mp n, fun a h => z a (pp.mem_iff.mpr h)⟩
theorem Joint.drop (j : Joint K H (x :: L)) : Joint K H L := by
  obtain ⟨G, fp, g, r, n, z⟩ := j
  obtain ⟨f1, f2, rfl, r1, r2⟩ := r.uncons
  exact ⟨G, f2, g, r2, (List.nodup_append.mp n).2.1, fun a h => z a (List.mem_append_right _ h)⟩
theorem Joint.ext (j : Joint K H L) (e : ∀ a o, H a = some o → H' a = some o) : Joint K H' L := by
  obtain ⟨G, fp, g, r, n, z⟩ := j
  exact ⟨G, fp, g.trans e, r.mono .refl fun a o _ h => e a o h, n, z⟩
theorem Joint.new {p : Addr} {o : HO} (j : Joint K H L) (h : H p = none) : Joint K (upd H p o) L :=
  j.ext fun a u e => by rw [upd_ne (ne_of_none e h)]; exact e
theorem Joint.freeze {v : V} {d : D} (j : Joint K H ((v, d) :: L)) : Joint K H ((v, d.frz) :: (v, d.frz) :: L) := by
  obtain ⟨G, fp, g, r, n, z⟩ := j
  obtain ⟨f1, f2, rfl, r1, r2⟩ := r.uncons
  obtain ⟨n1, n2, n3⟩ := List.nodup_append.mp n
  let G' : Hp := fun a => if a ∈ f1 then H a else G a
  have gg : GSub G G' := fun a o e => by
    show (if a ∈ f1 then H a else G a) = some o
    split
    · exact g a o e
    · exact e
  have gH : GSub G' H := fun a o e => by
    have e : (if a ∈ f1 then H a else G a) = some o := e
    split at e
    · exact e
    · exact g a o e
  have fr : Reps K G' H [(v, d.frz)] [] := r1.freeze gg fun a o m e => by
    show (if a ∈ f1 then H a else G a) = some o
    rw [if_pos m]; exact e
  refine ⟨G', f2, gH, fr.cons (fr.cons (r2.mono gg fun _ _ _ h => h)), n2, fun a m => ?_⟩
  show (if a ∈ f1 then H a else G a) = none
  rw [if_neg (fun q => n3 a q a m rfl)]
  exact z a (List.mem_append_right _ m)
theorem Joint.nil : Joint K H [] := ⟨fun _ => none, [], (fun _ _ e => by cases e), Reps.nil, List.nodup_nil, (fun _ m => by cases m)⟩
theorem Joint.un {v : V} (j : Joint K H L) : Joint K H ((v, .un) :: L) := by
  obtain ⟨G, fp, g, r, n, z⟩ := j
  exact ⟨G, fp, g, .un r, n, z⟩
theorem Joint.dropL : ∀ {L1 : List Pr}, Joint K H (L1 ++ L) → Joint K H L
  | [], j => j
  | _ :: _, j => (Joint.drop j).dropL
end
end WF
namespace WF
open PySem PySem.Spec PyProof.Rows L2
structure Xn where
  C : Str
  fs : List (Str × D)
inductive Out where
  | ok (d : D)
  | ex (x : Xn)
abbrev S0 := List D
abbrev EM := S0 → Option (Out × S0)
def retM (d : D) : EM := fun S => some (.ok d, S)
def optM (o : Option D) : EM := fun S => match o with
  | some d => some (.ok d, S)
  | none => none
def bindM (fa : EM) (g : D → EM) : EM := fun S => match fa S with
  | some (.ok d, S') => g d S'
  | some (.ex x, S') => some (.ex x, S')
  | none => none
structure Cfg where
  K : PySem.W.Frag
  PV : List (Option (Option V))
  rs : List Pr
  W : WX
def slotL (σ : L2.St) (S : S0) : List Pr := (σ.map (·.getD .non)).zip S
structure SJ (c : Cfg) (S : S0) (tm : List Pr) (σ : L2.St) (H : Hp) : Prop where
  len : σ.length = S.length
  set : ∀ (i : Nat) d, S[i]? = some d → d ≠ .un → ∃ v, σ[i]? = some (some v)
  pv : ∀ (i : Nat) o, c.PV[i]? = some (some o) → σ[i]? = some o
  lp : c.PV.length = σ.length
  jt : Joint c.K H (slotL σ S ++ (tm ++ c.rs))
def XJ (c : Cfg) (x : Xn) (S : S0) (cls : Value) (dd : Option Addr) (σ : L2.St) (H : Hp) : Prop :=
  ∃ fv : List Pr, cls = .ref (He.ga c.K x.C) ∧ fv.map Prod.snd = x.fs.map Prod.snd ∧ ((dd = none ∧ fv = []) ∨ ∃ dx, dd = some dx ∧ H dx = some (.xd ((x.fs.map Prod.fst).zip (fv.map Prod.fst)))) ∧ SJ c S fv σ H
def post (c : Cfg) (o : Option (Out × S0)) (tm : List Pr) (σ : L2.St) (Q : VK) : Prop := match o with
  | some (.ok d, S) => ∀ v H, SJ c S ((v, d) :: tm) σ H → Q v H
  | some (.ex x, S) => ∀ cls dd H, XJ c x S cls dd σ H → c.W cls dd σ H
  | none => False
def T (c : Cfg) (f : EM) : TE := fun σ H Q => ∃ S tm, SJ c S tm σ H ∧ post c (f S) tm σ Q
section
variable {c : Cfg} {S : S0} {tm : List Pr} {σ : L2.St} {H H' : Hp} {x : Pr} {X : Cx}
theorem perm_take {A B : List Pr} : (A ++ (x :: B)).Perm (x :: (A ++ B)) := List.perm_middle
theorem perm_sw {A B C : List Pr} : (A ++ (B ++ C)).Perm (B ++ (A ++ C)) := by
  rw [← List.append_assoc, ← List.append_assoc]
  exact List.Perm.append_right _ List.perm_append_comm
theorem SJ.take (j : SJ c S (x :: tm) σ H) : Joint c.K H (x :: (slotL σ S ++ (tm ++ c.rs))) := j.jt.perm perm_take
theorem SJ.put {tm' : List Pr} (j : SJ c S tm' σ H) (k : Joint c.K H' (x :: (slotL σ S ++ (tm ++ c.rs)))) : SJ c S (x :: tm) σ H' := ⟨j.len, j.set, j.pv, j.lp, k.perm perm_take.symm⟩
theorem SJ.with {tm' : List Pr} (j : SJ c S tm' σ H) (k : Joint c.K H' (slotL σ S ++ (tm ++ c.rs))) : SJ c S tm σ H' := ⟨j.len, j.set, j.pv, j.lp, k⟩
theorem SJ.drop (j : SJ c S (x :: tm) σ H) : SJ c S tm σ H := j.with j.take.drop
theorem SJ.dropL : ∀ {ex : List Pr}, SJ c S (ex ++ tm) σ H → SJ c S tm σ H
  | [], j => j
  | _ :: _, j => (SJ.drop j).dropL
theorem SJ.ext (j : SJ c S tm σ H) (e : ∀ a o, H a = some o → H' a = some o) : SJ c S tm σ H' := j.with (j.jt.ext e)
theorem pe_mono {e : Expr} {t t' : TE} (h : PE X e t) (hi : ∀ σ H Q, t' σ H Q → t σ H Q) : PE X e t' := ⟨fun pins s σ H Q I w => h.run pins s σ H Q I (hi σ H Q w)⟩
theorem pt_mono {e : Expr} {t t' : TT} (h : PT X e t) (hi : ∀ σ H Q, t' σ H Q → t σ H Q) : PT X e t' := ⟨fun pins s σ H Q I w => h.run pins s σ H Q I (hi σ H Q w)⟩
theorem ps_mono {e : Stmt} {t t' : TS} (h : PS X e t) (hi : ∀ D σ H, t' D σ H → t D σ H) : PS X e t' := ⟨fun pins s σ H D I w => h.run pins s σ H D I (hi D σ H w)⟩
theorem pss_mono {e : List Stmt} {t t' : TS} (h : PSs X e t) (hi : ∀ D σ H, t' D σ H → t D σ H) : PSs X e t' := ⟨fun pins s σ H D I w => h.run pins s σ H D I (hi D σ H w)⟩
theorem post_bind {fa : EM} {g : D → EM} {tm0 : List Pr} {Q : VK} (j : SJ c S tm σ H) (p : post c (bindM fa g S) tm0 σ Q) :
    T c fa σ H (fun v H1 => ∃ d S', SJ c S' ((v, d) :: tm) σ H1 ∧ post c (g d S') tm0 σ Q) := by
  refine ⟨S, tm, j, ?_⟩
  unfold bindM at p
  cases h : fa S with
  | none => rw [h] at p; exact p.elim
  | some o =>
    obtain ⟨o, S'⟩ := o
    cases o with
    | ok d => rw [h] at p; exact fun v H' j' => ⟨d, S', j', p⟩
    | ex x => rw [h] at p; exact p
theorem post_opt {o : Option D} {Q : VK} (p : post c (optM o S) tm σ Q) : ∃ d, o = some d ∧ ∀ v H, SJ c S ((v, d) :: tm) σ H → Q v H := by
  unfold optM at p
  cases o with
  | none => exact p.elim
  | some d => exact ⟨d, rfl, p⟩
theorem T.mono {f : EM} {Q Q' : VK} (h : T c f σ H Q) (q : ∀ v H, Q v H → Q' v H) : T c f σ H Q' := by
  obtain ⟨S, tm, j, p⟩ := h
  refine ⟨S, tm, j, ?_⟩
  unfold post at p ⊢
  split at p
  · exact fun v H j => q v H (p v H j)
  · exact p
  · exact p
def Op2 (K : PySem.W.Frag) (r : R2) (op : D → D → Option D) : Prop := ∀ H (R : List Pr) v1 v2 d1 d2 d (Q : VK), op d1 d2 = some d → Joint K H ((v2, d2) :: (v1, d1) :: R) → (∀ v H', Joint K H' ((v, d) :: R) → Q v H') → r v1 v2 H Q
def binM (op : D → D → Option D) (fa fb : EM) : EM := bindM fa fun x => bindM fb fun y => optM (op x y)
def unM (op : D → Option D) (fa : EM) : EM := bindM fa fun x => optM (op x)
theorem t_op2 {r : R2} {op : D → D → Option D} {fa fb : EM} {Q : VK} (hs : Op2 c.K r op) (h : T c (binM op fa fb) σ H Q) : tOp r (T c fa) (T c fb) σ H Q := by
  obtain ⟨S, tm, j, p⟩ := h
  refine (post_bind j p).mono fun v1 H1 ⟨d1, S1, j1, p1⟩ => ?_
  refine (post_bind j1 p1).mono fun v2 H2 ⟨d2, S2, j2, p2⟩ => ?_
  obtain ⟨d, e, q⟩ := post_opt p2
  exact hs _ _ _ _ _ _ _ _ e (j2.take.perm ((List.Perm.cons _ perm_take))) fun v H' k => q v H' (j2.put k)
variable {a b e : Expr} {fa fb fe : EM} {pos : Pos}
theorem w_bin {o : Operator} {r : R2} {op : D → D → Option D} (ho : OpR X (binaryOp o) r) (hs : Op2 c.K r op) (ha : PE X a (T c fa)) (hb : PE X b (T c fb)) : PE X (.BinOp a o b pos) (T c (binM op fa fb)) :=
  pe_mono (pe_op ho ha hb) fun _ _ _ h => t_op2 hs h
theorem post_ret {d : D} {v : V} {Q : VK} (j : SJ c S tm σ H) (hr : ∀ R, Joint c.K H R → Joint c.K H ((v, d) :: R)) (p : post c (retM d S) tm σ Q) : Q v H := p v H (j.put (hr _ j.jt))
theorem w_c {v : V} {d : D} (he : PE X e (tC v)) (hr : ∀ H R, Joint c.K H R → Joint c.K H ((v, d) :: R)) : PE X e (T c (retM d)) :=
  pe_mono he fun σ H Q h => let ⟨S, tm, j, p⟩ := h; post_ret j (hr H) p
theorem j_int {i : Int} (H : Hp) (R : List Pr) (j : Joint c.K H R) : Joint c.K H ((.int i, .int i) :: R) := let ⟨G, fp, g, r, n, z⟩ := j; ⟨G, fp, g, .int r, n, z⟩
theorem j_bl {i : Bool} (H : Hp) (R : List Pr) (j : Joint c.K H R) : Joint c.K H ((.bl i, .bl i) :: R) := let ⟨G, fp, g, r, n, z⟩ := j; ⟨G, fp, g, .bl r, n, z⟩
theorem j_non (H : Hp) (R : List Pr) (j : Joint c.K H R) : Joint c.K H ((.non, .non) :: R) := let ⟨G, fp, g, r, n, z⟩ := j; ⟨G, fp, g, .non r, n, z⟩
theorem j_str {i : Str} (H : Hp) (R : List Pr) (j : Joint c.K H R) : Joint c.K H ((.str i, .str i) :: R) := let ⟨G, fp, g, r, n, z⟩ := j; ⟨G, fp, g, .str r, n, z⟩
theorem w_int {i : Int} {k} : PE X (.Constant (.int i) k pos) (T c (retM (.int i))) := w_c pe_int j_int
theorem w_bl {i : Bool} {k} : PE X (.Constant (.bool i) k pos) (T c (retM (.bl i))) := w_c pe_bl j_bl
theorem w_str {i : Str} {k} : PE X (.Constant (.str i) k pos) (T c (retM (.str i))) := w_c pe_str j_str
theorem slot_get : ∀ {σ : L2.St} {S : S0} {i : Nat} {v : V} {d : D}, σ[i]? = some (some v) → S[i]? = some d → σ.length = S.length → ∃ Z, (slotL σ S).Perm ((v, d) :: Z) ∧ (∀ d', (slotL σ (S.set i d')).Perm ((v, d') :: Z)) ∧ ∀ v' d', (slotL (σ.set i (some v')) (S.set i d')).Perm ((v', d') :: Z)
  | o :: σ, e :: S, 0, v, d, h1, h2, _ => by
    simp at h1 h2
    subst h1 h2
    exact ⟨slotL σ S, .refl _, fun _ => .refl _, fun _ _ => .refl _⟩
  | o :: σ, e :: S, i + 1, v, d, h1, h2, hl => by
    obtain ⟨Z, p1, p2, p3⟩ := slot_get (σ := σ) (S := S) (i := i) (by simpa using h1) (by simpa using h2) (by simpa using hl)
    have sw : ∀ {x y : Pr} {A : List Pr}, A.Perm (x :: Z) → (y :: A).Perm (x :: y :: Z) := fun p => (List.Perm.cons _ p).trans (List.Perm.swap _ _ _)
    exact ⟨(o.getD .non, e) :: Z, sw p1, fun d' => sw (p2 d'), fun v' d' => sw (p3 v' d')⟩
  | [], _, _, _, _, h1, _, _ => by simp at h1
  | _ :: _, [], _, _, _, _, h2, _ => by simp at h2
theorem slot_set : ∀ {σ : L2.St} {S : S0} {i : Nat}, i < S.length → σ.length = S.length → ∃ Z v0 d0, (slotL σ S).Perm ((v0, d0) :: Z) ∧ (∀ v' d', (slotL (σ.set i (some v')) (S.set i d')).Perm ((v', d') :: Z))
  | o :: σ, e :: S, 0, _, _ => ⟨slotL σ S, o.getD .non, e, .refl _, fun _ _ => .refl _⟩
  | o :: σ, e :: S, i + 1, hi, hl => by
    obtain ⟨Z, v0, d0, p1, p3⟩ := slot_set (σ := σ) (S := S) (i := i) (by simpa using hi) (by simpa using hl)
    have sw : ∀ {x y : Pr} {A : List Pr}, A.Perm (x :: Z) → (y :: A).Perm (x :: y :: Z) := fun p => (List.Perm.cons _ p).trans (List.Perm.swap _ _ _)
    exact ⟨(o.getD .non, e) :: Z, v0, d0, sw p1, fun v' d' => sw (p3 v' d')⟩
  | [], [], _, h, _ => by simp at h
  | [], _ :: _, _, _, h => by simp at h
  | _ :: _, [], _, h, _ => by simp at h
def isUn : D → Bool
  | .un => true
  | _ => false
theorem isUn_ne {d : D} (h : isUn d = false) : d ≠ .un := fun e => by rw [e] at h; cases h
def varM (i : Nat) : EM := fun S => match S[i]? with
  | some d => if isUn d then none else some (.ok d.frz, S.set i d.frz)
  | none => none
theorem SJ.get {i : Nat} {d : D} (j : SJ c S tm σ H) (h : S[i]? = some d) (hu : isUn d = false) : ∃ v, σ[i]? = some (some v) ∧ ∃ Z, Joint c.K H ((v, d) :: Z) ∧
    ∀ (d' : D) (tm' : List Pr) H', Joint c.K H' ((v, d') :: (tm' ++ Z)) → SJ c (S.set i d') (tm' ++ tm) σ H' := by
  obtain ⟨v, e⟩ := j.set i d h (isUn_ne hu)
  obtain ⟨Z, p1, p2, _⟩ := slot_get e h j.len
  refine ⟨v, e, Z ++ (tm ++ c.rs), j.jt.perm (List.Perm.append_right _ p1), fun d' tm' H' k => ⟨?_, fun n u h' hn => ?_, j.pv, j.lp, ?_⟩⟩
  · rw [List.length_set]; exact j.len
  · by_cases hi : n = i
    · exact ⟨v, by rw [hi]; exact e⟩
    · rw [List.getElem?_set_ne (Ne.symm hi)] at h'
      exact j.set n u h' hn
  · refine k.perm ?_
    have e1 : ((v, d') :: (tm' ++ (Z ++ (tm ++ c.rs)))).Perm (((v, d') :: Z) ++ ((tm' ++ tm) ++ c.rs)) := by
      refine List.Perm.cons _ ?_
      rw [List.append_assoc tm' tm]
      exact perm_sw
    exact e1.trans (List.Perm.append_right _ (p2 d').symm)
theorem w_var {i : Nat} (he : PE X e (tVar i)) : PE X e (T c (varM i)) := by
  refine pe_mono he fun σ H Q h => ?_
  obtain ⟨S, tm, j, p⟩ := h
  unfold varM at p
  split at p
  · rename_i d hd
    split at p
    · exact p.elim
    · rename_i hu
      obtain ⟨v, ev, Z, k, put⟩ := j.get hd (by simpa using hu)
      refine ⟨v, ev, p v H ?_⟩
      have k2 := k.freeze
      exact put d.frz [(v, d.frz)] H k2
  · exact p.elim
end
end WF
namespace WF
open PySem PySem.Spec PyProof.Rows L2
section
variable {K : PySem.W.Frag} {G H H' : Hp} {L R : List Pr} {p : Addr} {vs : List V} {ds : List D}
theorem Reps.has {fp : List Addr} (r : Reps K G H L fp) : ∀ a ∈ fp, ∃ o, H a = some o := by
  induction r with
  | nil => intro a m; cases m
  | un _ ih => exact ih
  | non _ ih => exact ih
  | bl _ ih => exact ih
  | int _ ih => exact ih
  | str _ ih => exact ih
  | vl _ ih => exact ih
  | hld q h _ ih => intro a m; rcases List.mem_cons.mp m with rfl | m; exact ⟨_, h⟩; exact ih a m
  | con _ _ _ ih => exact ih
  | tab h _ ih => intro a m; rcases List.mem_cons.mp m with rfl | m; (obtain ⟨ps, h, _⟩ := h; exact ⟨_, h⟩); exact ih a m
  | of _ _ _ _ _ _ _ ih1 ih2 => exact ih2
  | oo h h2 _ _ _ _ _ ih1 ih2 => intro a m; rcases List.mem_cons.mp m with rfl | m; exact ⟨_, h⟩; rcases List.mem_cons.mp m with rfl | m; exact ⟨_, h2⟩; rcases List.mem_append.mp m with m | m; exact ih1 a m; exact ih2 a m
  | scr _ _ ih => exact ih
  | tup _ _ _ _ _ ih1 ih2 => intro a m; rcases List.mem_append.mp m with m | m; exact ih1 a m; exact ih2 a m
  | exn _ _ _ _ _ _ _ ih1 ih2 => exact ih2
  | lf _ _ _ _ _ ih1 ih2 => exact ih2
  | lo h _ _ _ _ ih1 ih2 => intro a m; rcases List.mem_cons.mp m with rfl | m; exact ⟨_, h⟩; rcases List.mem_append.mp m with m | m; exact ih1 a m; exact ih2 a m
  | kf _ _ _ _ _ _ ih1 ih2 => exact ih2
  | ko h _ _ _ _ _ ih1 ih2 => intro a m; rcases List.mem_cons.mp m with rfl | m; exact ⟨_, h⟩; rcases List.mem_append.mp m with m | m; exact ih1 a m; exact ih2 a m
  | tf _ _ _ _ _ _ ih1 ih2 => exact ih2
  | to h _ _ _ _ _ ih1 ih2 => intro a m; rcases List.mem_cons.mp m with rfl | m; exact ⟨_, h⟩; rcases List.mem_append.mp m with m | m; exact ih1 a m; exact ih2 a m
theorem zip_fst : ∀ {vs : List V} {ds : List D}, vs.length = ds.length → (vs.zip ds).map Prod.fst = vs
  | [], [], _ => rfl
  | v :: vs, d :: ds, h => by rw [List.zip_cons_cons, List.map_cons, zip_fst (by simpa using h)]
  | [], _ :: _, h => by simp at h
  | _ :: _, [], h => by simp at h
theorem zip_snd : ∀ {vs : List V} {ds : List D}, vs.length = ds.length → (vs.zip ds).map Prod.snd = ds
  | [], [], _ => rfl
  | v :: vs, d :: ds, h => by rw [List.zip_cons_cons, List.map_cons, zip_snd (by simpa using h)]
  | [], _ :: _, h => by simp at h
  | _ :: _, [], h => by simp at h
theorem zip_map : ∀ {C : List Pr}, (C.map Prod.fst).zip (C.map Prod.snd) = C
  | [] => rfl
  | x :: C => by rw [List.map_cons, List.map_cons, List.zip_cons_cons, zip_map]
theorem Joint.tup (hl : vs.length = ds.length) (j : Joint K H (vs.zip ds ++ R)) (h : H p = none) : Joint K (upd H p (.tup vs)) ((.ref p, .tup ds) :: R) := by
  obtain ⟨G, fp, g, r, n, z⟩ := j
  obtain ⟨f1, f2, rfl, r1, r2⟩ := r.unappend
  have hp : G p = none := by
    cases q : G p with
    | none => rfl
    | some o => rw [g p o q] at h; cases h
  have gg : GSub G (upd G p (.tup vs)) := fun a o e => by rw [upd_ne (ne_of_none e hp)]; exact e
  have hh : ∀ a o, H a = some o → upd H p (.tup vs) a = some o := fun a o e => by rw [upd_ne (ne_of_none e h)]; exact e
  refine ⟨upd G p (.tup vs), f1 ++ f2, fun a o e => ?_, .tup upd_same (zip_fst hl) (zip_snd hl) (r1.mono gg fun a o _ => hh a o) (r2.mono gg fun a o _ => hh a o), n, fun a m => ?_⟩
  · by_cases ha : a = p
    · subst ha; rw [upd_same] at e ⊢; exact e
    · rw [upd_ne ha] at e ⊢; exact g a o e
  · obtain ⟨o, ho⟩ := r.has a m
    rw [upd_ne (ne_of_none ho h)]
    exact z a m
theorem Joint.lst (hl : vs.length = ds.length) (j : Joint K H (vs.zip ds ++ R)) (h : H p = none) : Joint K (upd H p (.lst vs)) ((.ref p, .lst true ds) :: R) := by
  obtain ⟨G, fp, g, r, n, z⟩ := j
  obtain ⟨f1, f2, rfl, r1, r2⟩ := r.unappend
  have hp : G p = none := by
    cases q : G p with
    | none => rfl
    | some o => rw [g p o q] at h; cases h
  have hh : ∀ a o, H a = some o → upd H p (.lst vs) a = some o := fun a o e => by rw [upd_ne (ne_of_none e h)]; exact e
  refine ⟨G, p :: (f1 ++ f2), fun a o e => hh a o (g a o e), .lo upd_same (zip_fst hl) (zip_snd hl) (r1.mono .refl fun a o _ => hh a o) (r2.mono .refl fun a o _ => hh a o), List.nodup_cons.mpr ⟨fun m => ?_, n⟩, fun a m => ?_⟩
  · obtain ⟨o, ho⟩ := r.has p m
    rw [h] at ho; cases ho
  · rcases List.mem_cons.mp m with rfl | m
    · exact hp
    · exact z a m
theorem Joint.untup (j : Joint K H ((.ref p, .tup ds) :: R)) : ∃ vs, H p = some (.tup vs) ∧ vs.length = ds.length ∧ Joint K H (vs.zip ds ++ R) := by
  obtain ⟨G, fp, g, r, n, z⟩ := j
  cases r with
  | @tup p C vs ds f L fp a b e r1 r2 =>
    subst b e
    refine ⟨_, g _ _ a, by simp, G, _, g, ?_, n, z⟩
    rw [zip_map]
    exact r1.append r2
theorem Joint.unlst {o : Bool} (j : Joint K H ((.ref p, .lst o ds) :: R)) : ∃ vs, H p = some (.lst vs) ∧ vs.length = ds.length ∧ Joint K H (vs.zip ds ++ R) := by
  obtain ⟨G, fp, g, r, n, z⟩ := j
  cases r with
  | @lf p C vs ds L fp a b e r1 r2 =>
    subst b e
    refine ⟨_, g _ _ a, by simp, G, _, g, ?_, n, z⟩
    rw [zip_map]
    exact r1.append r2
  | @lo p C vs ds f L fp a b e r1 r2 =>
    subst b e
    refine ⟨_, a, by simp, G, _, g, ?_, (List.nodup_cons.mp n).2, fun a m => z a (List.mem_cons_of_mem _ m)⟩
    rw [zip_map]
    exact r1.append r2
theorem Joint.is_int {v : V} {i : Int} (j : Joint K H ((v, .int i) :: R)) : v = .int i := by
  obtain ⟨G, fp, g, r, n, z⟩ := j
  cases r; rfl
theorem Joint.is_bl {v : V} {i : Bool} (j : Joint K H ((v, .bl i) :: R)) : v = .bl i := by
  obtain ⟨G, fp, g, r, n, z⟩ := j
  cases r; rfl
theorem Joint.is_str {v : V} {i : Str} (j : Joint K H ((v, .str i) :: R)) : v = .str i := by
  obtain ⟨G, fp, g, r, n, z⟩ := j
  cases r; rfl
theorem Joint.is_non {v : V} (j : Joint K H ((v, .non) :: R)) : v = .non := by
  obtain ⟨G, fp, g, r, n, z⟩ := j
  cases r; rfl
theorem Joint.is_tup {v : V} (j : Joint K H ((v, .tup ds) :: R)) : ∃ p, v = .ref p := by
  obtain ⟨G, fp, g, r, n, z⟩ := j
  cases r; exact ⟨_, rfl⟩
theorem Joint.is_lst {v : V} {o : Bool} (j : Joint K H ((v, .lst o ds) :: R)) : ∃ p, v = .ref p := by
  obtain ⟨G, fp, g, r, n, z⟩ := j
  cases r <;> exact ⟨_, rfl⟩
end
def argsM : List EM → (List D → EM) → EM
  | [], g => g []
  | f :: fs, g => bindM f fun d => argsM fs fun ds => g (d :: ds)
def tArgs (c : Cfg) : List EM → TA
  | [] => tNil
  | f :: fs => tCons (T c f) (tArgs c fs)
section
variable {c : Cfg} {X : Cx}
theorem tArgs_mono : ∀ {fs : List EM} {σ : L2.St} {H : Hp} {Q Q' : List V → Hp → Prop}, tArgs c fs σ H Q → (∀ vs H, Q vs H → Q' vs H) → tArgs c fs σ H Q'
  | [], _, _, _, _, h, q => q _ _ h
  | f :: fs, _, _, _, _, h, q => T.mono h fun _ _ h2 => tArgs_mono h2 fun vs H h3 => q _ H h3
theorem SJ.perm {S : S0} {tm tm' : List Pr} {σ : L2.St} {H : Hp} (p : tm.Perm tm') (j : SJ c S tm σ H) : SJ c S tm' σ H := j.with (j.jt.perm (List.Perm.append_left _ (List.Perm.append_right _ p)))
theorem post_args : ∀ (fs : List EM) {g : List D → EM} {S : S0} {tm tm0 : List Pr} {σ : L2.St} {H : Hp} {Q : VK}, SJ c S tm σ H → post c (argsM fs g S) tm0 σ Q →
    tArgs c fs σ H (fun vs H1 => ∃ ds S', vs.length = ds.length ∧ ds.length = fs.length ∧ SJ c S' (vs.zip ds ++ tm) σ H1 ∧ post c (g ds S') tm0 σ Q)
  | [], _, S, _, _, _, _, _, j, p => ⟨[], S, rfl, rfl, j, p⟩
  | f :: fs, g, S, tm, tm0, σ, H, Q, j, p => by
    refine (post_bind (fa := f) j p).mono fun v H1 ⟨d, S1, j1, p1⟩ => ?_
    refine tArgs_mono (post_args fs j1 p1) fun vs H2 ⟨ds, S2, e1, e2, j2, p2⟩ => ?_
    exact ⟨d :: ds, S2, by simp [e1], by simp [e2], j2.perm perm_take, p2⟩
theorem wa_nil : PA X [] (tArgs c []) := pa_nil
theorem wa_cons {e : Expr} {es : List Expr} {f : EM} {fs : List EM} (h : PE X e (T c f)) (hr : PA X es (tArgs c fs)) (hs : starEach (e :: es) X.env = (false, eval e X.env) :: starEach es X.env := by rfl) : PA X (e :: es) (tArgs c (f :: fs)) := pa_cons h hr hs
def CallS (K : PySem.W.Frag) (r : List V → Hp → VK → Prop) (op : List D → Option D) : Prop := ∀ H (R : List Pr) vs ds d (Q : VK), vs.length = ds.length → op ds = some d → Joint K H (vs.zip ds ++ R) → (∀ v H', Joint K H' ((v, d) :: R) → Q v H') → r vs H Q
def cbM (op : List D → Option D) (fs : List EM) : EM := argsM fs fun ds => optM (op ds)
theorem t_cb {r : List V → Hp → VK → Prop} {op : List D → Option D} {fs : List EM} {σ : L2.St} {H : Hp} {Q : VK} (hs : CallS c.K r op) (h : T c (cbM op fs) σ H Q) : tCB r (tArgs c fs) σ H Q := by
  obtain ⟨S, tm, j, p⟩ := h
  refine tArgs_mono (post_args fs j p) fun vs H1 ⟨ds, S1, e1, e2, j1, p1⟩ => ?_
  obtain ⟨d, e, q⟩ := post_opt p1
  refine hs H1 (slotL σ S1 ++ (tm ++ c.rs)) vs ds d Q e1 e (j1.jt.perm ?_) fun v H' k => q v H' (j1.put k)
  rw [List.append_assoc]
  exact perm_sw
variable {x : Str} {id ty : String} {e : Expr} {es : List Expr} {fs : List EM} {r : List V → Hp → VK → Prop} {op : List D → Option D} {p pos : Pos}
theorem w_callB (hc : CallR X (.builtin id) r) (hs : CallS c.K r op) (hg : Gl X x) (hm : X.mg x = none) (hv : bootBuiltins x = some (.builtin id)) (ha : PA X (e :: es) (tArgs c fs)) (hn : x ≠ "__name__" := by decide) (hdb : (x == ("__debug__" : Str)) = false := by decide)
    (he : starEach (e :: es) X.env = (false, eval e X.env) :: starEach es X.env := by rfl) (hpl : (backTo pos (starEach es X.env)).any (·.1) = false := by rfl) : PE X (.Call (.Name x p) (e :: es) [] pos) (T c (cbM op fs)) :=
  pe_mono (pe_callB hc hg hm hv ha hn hdb he hpl) fun _ _ _ h => t_cb hs h
theorem w_callTy (hc : CallR X (.type ty) r) (hs : CallS c.K r op) (hg : Gl X x) (hm : X.mg x = none) (hv : bootBuiltins x = some (.type ty)) (ha : PA X (e :: es) (tArgs c fs)) (hn : x ≠ "__name__" := by decide) (hdb : (x == ("__debug__" : Str)) = false := by decide)
    (he : starEach (e :: es) X.env = (false, eval e X.env) :: starEach es X.env := by rfl) (hpl : (backTo pos (starEach es X.env)).any (·.1) = false := by rfl) : PE X (.Call (.Name x p) (e :: es) [] pos) (T c (cbM op fs)) :=
  pe_mono (pe_callTy hc hg hm hv ha hn hdb he hpl) fun _ _ _ h => t_cb hs h
def tupM (fs : List EM) : EM := argsM fs fun ds => retM (.tup ds)
def lstM (fs : List EM) : EM := argsM fs fun ds => retM (.lst true ds)
theorem w_tup {k} (ha : PA X es (tArgs c fs)) (hl : fs.length ≤ 1000 := by decide) : PE X (.Tuple es k pos) (T c (tupM fs)) := pe_mono (pe_tup ha) fun σ H Q h => by
  obtain ⟨S, tm, j, p⟩ := h
  refine tArgs_mono (post_args fs j p) fun vs H1 ⟨ds, S1, e1, e2, j1, p1⟩ => ⟨Nat.le_trans (by omega : vs.length ≤ 1000) (by decide), fun q hq => p1 _ _ (j1.put (Joint.tup e1 (j1.jt.perm ?_) hq))⟩
  rw [List.append_assoc]
  exact perm_sw
theorem w_lst (ha : PA X es (tArgs c fs)) (hl : fs.length ≤ 1000 := by decide) : PE X (.List es pos) (T c (lstM fs)) := pe_mono (pe_lst ha) fun σ H Q h => by
  obtain ⟨S, tm, j, p⟩ := h
  refine tArgs_mono (post_args fs j p) fun vs H1 ⟨ds, S1, e1, e2, j1, p1⟩ => ⟨Nat.le_trans (by omega : vs.length ≤ 1000) (by decide), fun q hq => p1 _ _ (j1.put (Joint.lst e1 (j1.jt.perm ?_) hq))⟩
  rw [List.append_assoc]
  exact perm_sw
end
inductive Fl where
  | nx | rt (d : D) | bk | ct | ex (x : Xn)
abbrev SM := S0 → Option (Fl × S0)
def postS (c : Cfg) (o : Option (Fl × S0)) (tm : List Pr) (E : Ends) : Prop := match o with
  | some (.nx, S) => ∀ σ H, SJ c S tm σ H → E.nx σ H
  | some (.rt d, S) => ∀ v σ H, SJ c S ((v, d) :: tm) σ H → E.rt v H
  | some (.bk, S) => ∀ σ H, SJ c S tm σ H → E.bk σ H
  | some (.ct, S) => ∀ σ H, SJ c S tm σ H → E.ct σ H
  | some (.ex x, S) => ∀ cls dd σ H, XJ c x S cls dd σ H → c.W cls dd σ H
  | none => False
def U (c : Cfg) (f : SM) : TS := fun E σ H => ∃ S tm, SJ c S tm σ H ∧ postS c (f S) tm E
def seqM (f g : SM) : SM := fun S => match f S with
  | some (.nx, S') => g S'
  | o => o
def skipM : SM := fun S => some (.nx, S)
def failM : SM := fun _ => none
def raiseM (x f : Str) (fe : EM) : SM := fun S => match fe S with
  | some (.ok d, S') => some (.ex ⟨x, [(f, d)]⟩, S')
  | some (.ex y, S') => some (.ex y, S')
  | none => none
def raise0M (x : Str) : SM := fun S => some (.ex ⟨x, []⟩, S)
def bindS (fa : EM) (g : D → SM) : SM := fun S => match fa S with
  | some (.ok d, S') => g d S'
  | some (.ex x, S') => some (.ex x, S')
  | none => none
section
variable {c : Cfg} {X : Cx} {S : S0} {tm tm0 : List Pr} {σ : L2.St} {H : Hp} {E : Ends} {fa fe : EM} {f g : SM} {st : Stmt} {sts : List Stmt} {e : Expr} {pos : Pos}
theorem post_bindS {g : D → SM} (j : SJ c S tm σ H) (p : postS c (bindS fa g S) tm0 E) : T c fa σ H (fun v H1 => ∃ d S', SJ c S' ((v, d) :: tm) σ H1 ∧ postS c (g d S') tm0 E) := by
  refine ⟨S, tm, j, ?_⟩
  unfold bindS at p
  cases h : fa S with
  | none => rw [h] at p; exact p.elim
  | some o =>
    obtain ⟨o, S'⟩ := o
    cases o with
    | ok d => rw [h] at p; exact fun v H' j' => ⟨d, S', j', p⟩
    | ex x => rw [h] at p; exact fun cls dd H' xj => p cls dd σ H' xj
theorem u_seq (h : U c (seqM f g) E σ H) : tSeq (U c f) (U c g) E σ H := by
  obtain ⟨S, tm, j, p⟩ := h
  refine ⟨S, tm, j, ?_⟩
  unfold seqM at p
  cases h : f S with
  | none => rw [h] at p; exact p.elim
  | some o =>
    obtain ⟨o, S'⟩ := o
    rw [h] at p
    cases o with
    | nx => exact fun σ' H' j' => ⟨S', tm, j', p⟩
    | rt d => exact p
    | bk => exact p
    | ct => exact p
    | ex x => exact p
theorem ws_cons (h1 : PS X st (U c f)) (h2 : PSs X sts (U c g)) : PSs X (st :: sts) (U c (seqM f g)) := pss_mono (pss_cons h1 h2) fun _ _ _ h => u_seq h
theorem ws_one (h1 : PS X st (U c f)) : PSs X [st] (U c f) := pss_one h1
theorem ws_nil : PSs X [] (U c skipM) := pss_mono pss_nil fun E σ H h => let ⟨S, tm, j, p⟩ := h; p σ H j
def retS (fe : EM) : SM := bindS fe fun d S => some (.rt d, S)
theorem w_ret (he : PE X e (T c fe)) : PS X (.Return (some e) pos) (U c (retS fe)) := ps_mono (ps_ret he) fun E σ H h => by
  obtain ⟨S, tm, j, p⟩ := h
  exact (post_bindS j p).mono fun v H1 ⟨d, S', j', p'⟩ => p' v σ H1 j'
def exprS (fe : EM) : SM := bindS fe fun _ S => some (.nx, S)
theorem w_expr (he : PE X e (T c fe)) (hs : swapsWith e none pos.line X.env = pure false := by rfl) : PS X (.Expr e pos) (U c (exprS fe)) := ps_mono (ps_expr he hs) fun E σ H h => by
  obtain ⟨S, tm, j, p⟩ := h
  exact (post_bindS j p).mono fun v H1 ⟨d, S', j', p'⟩ => p' σ H1 j'.drop
abbrev GM := D → S0 → Option S0
def UG (c : Cfg) (g : GM) : TG := fun v σ H Q => ∃ d S tm, SJ c S ((v, d) :: tm) σ H ∧ match g d S with
  | some S' => ∀ σ' H', SJ c S' tm σ' H' → Q σ' H'
  | none => False
abbrev GMs := List D → S0 → Option S0
def UGs (c : Cfg) (g : GMs) : TGs := fun vs σ H Q => ∃ ds S tm, vs.length = ds.length ∧ SJ c S (vs.zip ds ++ tm) σ H ∧ match g ds S with
  | some S' => ∀ σ' H', SJ c S' tm σ' H' → Q σ' H'
  | none => False
theorem pg_mono {t : Expr} {g g' : TG} (h : PG X t g) (hi : ∀ v σ H Q, g' v σ H Q → g v σ H Q) : PG X t g' := by
  constructor
  intro pins s σ H v u Q I r w
  exact h.run pins s σ H v u Q I r (hi v σ H Q w)
theorem pgs_mono {t : List Expr} {g g' : TGs} (h : PGs X t g) (hi : ∀ v σ H Q, g' v σ H Q → g v σ H Q) : PGs X t g' := by
  constructor
  intro pins s σ H v u Q I r w
  exact h.run pins s σ H v u Q I r (hi v σ H Q w)
def gSetM (i : Nat) : GM := fun d S => if i < S.length then some (S.set i d) else none
theorem SJ.setSlot {i : Nat} {v : V} {d : D} (j : SJ c S ((v, d) :: tm) σ H) (hi : i < S.length) (hp : c.PV[i]? = some none) : SJ c (S.set i d) tm (σ.set i (some v)) H := by
  obtain ⟨Z, v0, d0, p1, p2⟩ := slot_set hi j.len
  refine ⟨by rw [List.length_set, List.length_set]; exact j.len, fun n u h hn => ?_, fun n u h => ?_, by rw [List.length_set]; exact j.lp, ?_⟩
  · by_cases hni : n = i
    · subst hni
      exact ⟨v, List.getElem?_set_self (by rw [j.len]; exact hi)⟩
    · rw [List.getElem?_set_ne (Ne.symm hni)] at h ⊢
      exact j.set n u h hn
  · have hni : n ≠ i := fun e => by rw [e, hp] at h; cases h
    rw [List.getElem?_set_ne (Ne.symm hni)]
    exact j.pv n u h
  · have k := j.take.perm (List.Perm.cons _ (List.Perm.append_right _ p1))
    have k2 : Joint c.K H ((v, d) :: (Z ++ (tm ++ c.rs))) := (k.perm (List.Perm.swap _ _ _)).drop
    exact k2.perm (List.Perm.append_right _ (p2 v d).symm)
theorem wg_name {i : Nat} {x : Str} (hN : X.N.Nodup) (hi : X.N[i]? = some x) (hx : Loc X.env.scope x) (hp : c.PV[i]? = some none) (hf : X.fn x = true ∨ X.env.scope.names.lookup x = some .local := by first | exact .inl rfl | exact .inr rfl | assumption) : PG X (.Name x pos) (UG c (gSetM i)) :=
  pg_mono (pg_name hN hi hx hf) fun v σ H Q h => by
    obtain ⟨d, S, tm, j, p⟩ := h
    unfold gSetM at p
    split at p
    · rename_i heq
      split at heq
      · cases heq
        exact p _ _ (j.setSlot (by assumption) hp)
      · cases heq
    · exact p.elim
def gNilM : GMs := fun ds S => match ds with
  | [] => some S
  | _ => none
def gConsM (g : GM) (gs : GMs) : GMs := fun ds S => match ds with
  | d :: r => (g d S).bind fun S' => gs r S'
  | [] => none
theorem wgs_nil : PGs X [] (UGs c gNilM) := pgs_mono pgs_nil fun vs σ H Q h => by
  obtain ⟨ds, S, tm, hl, j, p⟩ := h
  cases ds with
  | nil =>
    cases vs with
    | nil => exact ⟨rfl, p σ H j⟩
    | cons _ _ => simp at hl
  | cons _ _ => exact p.elim
theorem wgs_cons {t : Expr} {ts : List Expr} {g : GM} {gs : GMs} (h1 : PG X t (UG c g)) (h2 : PGs X ts (UGs c gs)) (hs : (assignEach (t :: ts) X.env).map (·.2) = assign t X.env :: (assignEach ts X.env).map (·.2) := by rfl) : PGs X (t :: ts) (UGs c (gConsM g gs)) := pgs_mono (pgs_cons h1 h2 hs) fun vs σ H Q h => by
  obtain ⟨ds, S, tm, hl, j, p⟩ := h
  cases ds with
  | nil => exact p.elim
  | cons d r =>
    cases vs with
    | nil => simp at hl
    | cons v r' =>
      refine ⟨v, r', rfl, d, S, r'.zip r ++ tm, j, ?_⟩
      have p : match (g d S).bind fun S' => gs r S' with | some S' => ∀ σ' H', SJ c S' tm σ' H' → Q σ' H' | none => False := p
      cases hg : g d S with
      | none => rw [hg] at p; exact p.elim
      | some S' =>
        rw [hg] at p
        exact fun σ' H' j' => ⟨r, S', tm, by simpa using hl, j', p⟩
end
end WF
namespace WF
open PySem PySem.Spec PyProof.Rows L2
section
variable {c : Cfg} {X : Cx} {S : S0} {tm tm0 : List Pr} {σ : L2.St} {H : Hp} {E : Ends} {fa fb fc fe : EM} {f g : SM} {st : Stmt} {sts ss2 : List Stmt} {e a b : Expr} {pos : Pos}
def asgM (fe : EM) (g : GM) : SM := bindS fe fun d S => (g d S).map fun S' => (Fl.nx, S')
theorem w_asg {t : Expr} {g : GM} (he : PE X e (T c fe)) (hg : PG X t (UG c g)) (hs : swapsWithSole [t] e pos.line X.env = pure false := by rfl) (hw : swappedStores [t] e X.env = pure none := by rfl) (h1 : List.map (fun x => x.snd) (assignEach [t] X.env) = [assign t X.env] := by rfl) : PS X (.Assign [t] e pos) (U c (asgM fe g)) :=
  ps_mono (ps_asg he hg hs hw h1) fun E σ H h => by
    obtain ⟨S, tm, j, p⟩ := h
    refine (post_bindS j p).mono fun v H1 ⟨d, S', j', p'⟩ => ⟨d, S', tm, j', ?_⟩
    cases hg : g d S' with
    | none => rw [hg] at p'; exact p'
    | some S2 => rw [hg] at p'; exact p'
theorem w_set {i : Nat} {x : Str} {px : Pos} (he : PE X e (T c fe)) (hN : X.N.Nodup) (hi : X.N[i]? = some x) (hx : Loc X.env.scope x) (hp : c.PV[i]? = some none) (hs : swapsWith e (some (.Name x px)) pos.line X.env = pure false := by rfl) (hf : X.fn x = true ∨ X.env.scope.names.lookup x = some .local := by first | exact .inl rfl | exact .inr rfl | assumption) :
    PS X (.Assign [.Name x px] e pos) (U c (asgM fe (gSetM i))) :=
  ps_mono (ps_set hN hi hx he hs hf) fun E σ H h => by
    obtain ⟨S, tm, j, p⟩ := h
    refine (post_bindS j p).mono fun v H1 ⟨d, S', j', p'⟩ => ?_
    unfold gSetM at p'
    by_cases hl : i < S'.length
    · rw [if_pos hl] at p'
      exact p' _ _ (j'.setSlot hl hp)
    · rw [if_neg hl] at p'; exact p'.elim
def gTupM (n : Nat) (gs : GMs) : GM := fun d S => match d with
  | .tup ds => if ds.length = n then gs ds S else none
  | .lst _ ds => if ds.length = n then gs ds S else none
  | _ => none
theorem PG.or {t : Expr} {g g' : TG} (h : PG X t g) (h' : PG X t g') : PG X t (fun v σ H Q => g v σ H Q ∨ g' v σ H Q) :=
  ⟨fun pins s σ H v u Q I r w => w.elim (h.run pins s σ H v u Q I r) (h'.run pins s σ H v u Q I r)⟩
theorem wg_tup {es : List Expr} {k : Nat} {gs : GMs} {n : Nat} (hK : c.K = X.K) (hc : X.calm = true) (h : PGs X es (UGs c gs)) (hn : (assignEach es X.env).length = n := by rfl) (hst : (assignEach es X.env).findIdx? (·.1) = none := by rfl) : PG X (.Tuple es k pos) (UG c (gTupM n gs)) :=
  pg_mono (PG.or (pg_tup hc h hn hst) (pg_unl hc h hn hst)) fun v σ H Q h => by
    obtain ⟨d, S, tm, j, p⟩ := h
    unfold gTupM at p
    split at p
    · rename_i S' heq
      split at heq
      · rename_i ds
        split at heq
        · rename_i hlen
          obtain ⟨q, rfl⟩ := j.take.is_tup
          obtain ⟨vs, sq, hl, k⟩ := j.take.untup
          refine .inl ⟨q, vs, rfl, .inl (.inl sq), hl.trans hlen, ds, S, tm, hl, j.with ?_, ?_⟩
          · rw [List.append_assoc]
            exact k.perm perm_sw
          · rw [heq]; exact p
        · cases heq
      · rename_i o ds
        split at heq
        · rename_i hlen
          obtain ⟨q, rfl⟩ := j.take.is_lst
          obtain ⟨vs, sq, hl, k⟩ := j.take.unlst
          refine .inr ⟨q, vs, rfl, .inl (.inl sq), hl.trans hlen, ds, S, tm, hl, j.with ?_, ?_⟩
          · rw [List.append_assoc]
            exact k.perm perm_sw
          · rw [heq]; exact p
        · cases heq
      · cases heq
    · exact p.elim
def Tt (c : Cfg) (f : EM) : TT := tB (T c f)
theorem wt_val (h : PE X e (T c fe)) (he : ∀ whole, isTrue e X.env whole = (do let v ← whole; standAt e.pos; holding [v] (truthy v)) := by intro _; rfl) : PT X e (Tt c fe) := pt_val h he
def brM (d : D) (f g : EM) : EM := match d with
  | .bl true => f
  | .bl false => g
  | _ => fun _ => none
def brS (d : D) (f g : SM) : SM := match d with
  | .bl true => f
  | .bl false => g
  | _ => fun _ => none
def andM (fa fb : EM) : EM := bindM fa fun d => brM d fb (retM (.bl false))
def orM (fa fb : EM) : EM := bindM fa fun d => brM d (retM (.bl true)) fb
def notM (fa : EM) : EM := bindM fa fun d => brM d (retM (.bl false)) (retM (.bl true))
def ifM (fc fa fb : EM) : EM := bindM fc fun d => brM d fa fb
def ifS (fc : EM) (f g : SM) : SM := bindS fc fun d => brS d f g
theorem br_post {d : D} {v : V} {Q : VK} (j : SJ c S ((v, d) :: tm) σ H) (p : post c (brM d fa fb S) tm0 σ Q) : (v = .bl true ∧ post c (fa S) tm0 σ Q) ∨ (v = .bl false ∧ post c (fb S) tm0 σ Q) := by
  unfold brM at p
  split at p
  · exact .inl ⟨j.take.is_bl, p⟩
  · exact .inr ⟨j.take.is_bl, p⟩
  · exact p.elim
theorem br_postS {d : D} {v : V} (j : SJ c S ((v, d) :: tm) σ H) (p : postS c (brS d f g S) tm0 E) : (v = .bl true ∧ postS c (f S) tm0 E) ∨ (v = .bl false ∧ postS c (g S) tm0 E) := by
  unfold brS at p
  split at p
  · exact .inl ⟨j.take.is_bl, p⟩
  · exact .inr ⟨j.take.is_bl, p⟩
  · exact p.elim
theorem t_or {Q : Bool → Hp → Prop} (h : Tt c (orM fa fb) σ H Q) : tOr (Tt c fa) (Tt c fb) σ H Q := by
  obtain ⟨S, tm, j, p⟩ := h
  refine (post_bind j p).mono fun v H1 ⟨d, S1, j1, p1⟩ => ?_
  rcases br_post j1 p1 with ⟨rfl, p2⟩ | ⟨rfl, p2⟩
  · obtain ⟨b, e, q⟩ := post_ret j1.drop (j_bl H1) p2
    cases e
    exact ⟨true, rfl, q⟩
  · exact ⟨false, rfl, S1, tm, j1.drop, p2⟩
theorem pw_mono {t t' : TT} (h : PW X e t) (hi : ∀ σ H Q, t' σ H Q → t σ H Q) : PW X e t' := ⟨fun w pins s σ H Q I q => h.run w pins s σ H Q I (hi σ H Q q)⟩
variable {rest : List Expr}
theorem ww_or1 (ha : PT X a (Tt c fa)) : PW X (.BoolOp .Or [a] pos) (Tt c fa) := pw_or1 ha
theorem ww_or (ha : PT X a (Tt c fa)) (hb : PW X (.BoolOp .Or (b :: rest) pos) (Tt c fb)) : PW X (.BoolOp .Or (a :: b :: rest) pos) (Tt c (orM fa fb)) := pw_mono (pw_or ha hb) fun _ _ _ h => t_or h
theorem wt_w (h : PW X e (Tt c fe)) : PT X e (Tt c fe) := h.pt
theorem wt_not (ha : PT X a (Tt c fa)) : PT X (.UnaryOp .Not a pos) (Tt c (notM fa)) := pt_mono (pt_not ha) fun σ H Q h => by
  obtain ⟨S, tm, j, p⟩ := h
  refine (post_bind j p).mono fun v H1 ⟨d, S1, j1, p1⟩ => ?_
  rcases br_post j1 p1 with ⟨rfl, p2⟩ | ⟨rfl, p2⟩
  · obtain ⟨b, e, q⟩ := post_ret j1.drop (j_bl H1) p2
    cases e
    exact ⟨true, rfl, q⟩
  · obtain ⟨b, e, q⟩ := post_ret j1.drop (j_bl H1) p2
    cases e
    exact ⟨false, rfl, q⟩
theorem w_one {op} (h : PE X a (T c fa)) : PE X (.BoolOp op [a] pos) (T c fa) := pe_one h
theorem w_and (ha : PE X a (T c fa)) (hb : PE X (.BoolOp .And (b :: rest) pos) (T c fb)) : PE X (.BoolOp .And (a :: b :: rest) pos) (T c (andM fa fb)) := pe_mono (pe_and ha hb) fun σ H Q h => by
  obtain ⟨S, tm, j, p⟩ := h
  refine (post_bind j p).mono fun v H1 ⟨d, S1, j1, p1⟩ => ?_
  rcases br_post j1 p1 with ⟨rfl, p2⟩ | ⟨rfl, p2⟩
  · exact ⟨true, rfl, S1, tm, j1.drop, p2⟩
  · exact ⟨false, rfl, post_ret j1.drop (j_bl H1) p2⟩
theorem w_ifE {ce : Expr} (hc : PT X ce (Tt c fc)) (ha : PE X a (T c fa)) (hb : PE X b (T c fb)) : PE X (.IfExp ce a b pos) (T c (ifM fc fa fb)) := pe_mono (pe_ifExp hc ha hb) fun σ H Q h => by
  obtain ⟨S, tm, j, p⟩ := h
  refine (post_bind j p).mono fun v H1 ⟨d, S1, j1, p1⟩ => ?_
  rcases br_post j1 p1 with ⟨rfl, p2⟩ | ⟨rfl, p2⟩
  · exact ⟨true, rfl, S1, tm, j1.drop, p2⟩
  · exact ⟨false, rfl, S1, tm, j1.drop, p2⟩
theorem w_if {ce : Expr} (hc : PT X ce (Tt c fc)) (ha : PSs X sts (U c f)) (hb : PSs X ss2 (U c g)) : PS X (.If ce sts ss2 pos) (U c (ifS fc f g)) := ps_mono (ps_if hc ha hb) fun E σ H h => by
  obtain ⟨S, tm, j, p⟩ := h
  refine (post_bindS j p).mono fun v H1 ⟨d, S1, j1, p1⟩ => ?_
  rcases br_postS j1 p1 with ⟨rfl, p2⟩ | ⟨rfl, p2⟩
  · exact ⟨true, rfl, S1, tm, j1.drop, p2⟩
  · exact ⟨false, rfl, S1, tm, j1.drop, p2⟩
end
end WF
namespace WF
open PySem PySem.Spec PyProof.Rows L2
abbrev Fn := List D → Option (Out × List D)
def XF (K : PySem.W.Frag) (x : Xn) (L : List Pr) (cls : Value) (dd : Option Addr) (H : Hp) : Prop :=
  ∃ fv : List Pr, cls = .ref (He.ga K x.C) ∧ fv.map Prod.snd = x.fs.map Prod.snd ∧ ((dd = none ∧ fv = []) ∨ ∃ dx, dd = some dx ∧ H dx = some (.xd ((x.fs.map Prod.fst).zip (fv.map Prod.fst)))) ∧ Joint K H (fv ++ L)
def spOf (K : PySem.W.Frag) (n : Nat) (m : Fn) : Sp := fun vs H Q E => vs.length = n ∧ ∃ ds rs, ds.length = n ∧ Joint K H (vs.zip ds ++ rs) ∧ match m ds with
  | some (.ok r, ds') => ds'.length = n ∧ ∀ v H', Joint K H' ((v, r) :: (vs.zip ds' ++ rs)) → Q v H'
  | some (.ex x, ds') => ds'.length = n ∧ ∀ cls dd H', XF K x (vs.zip ds' ++ rs) cls dd H' → E cls dd H'
  | none => False
inductive Ar where
  | v (f : EM)
  | s (i : Nat)
abbrev Av := Sum D Nat
def argsA : List Ar → (List Av → EM) → EM
  | [], g => g []
  | .v f :: r, g => bindM f fun d => argsA r fun ds => g (.inl d :: ds)
  | .s i :: r, g => fun S => match S[i]? with
    | some d => if isUn d then none else argsA r (fun ds => g (.inr i :: ds)) S
    | none => none
def tArgsA (c : Cfg) : List Ar → TA
  | [] => tNil
  | .v f :: r => tCons (T c f) (tArgsA c r)
  | .s i :: r => tCons (tVar i) (tArgsA c r)
inductive AvOk (σ : L2.St) : List Av → List V → List Pr → Prop where
  | nil : AvOk σ [] [] []
  | v {d v as vs L} : AvOk σ as vs L → AvOk σ (.inl d :: as) (v :: vs) ((v, d) :: L)
  | s {i v as vs L} : σ[i]? = some (some v) → AvOk σ as vs L → AvOk σ (.inr i :: as) (v :: vs) L
def takeA : List Av → S0 → Option (List D × S0)
  | [], S => some ([], S)
  | .inl d :: r, S => (takeA r S).map fun x => (d :: x.1, x.2)
  | .inr i :: r, S => match S[i]? with
    | some d => if isUn d then none else (takeA r (S.set i .un)).map fun x => (d :: x.1, x.2)
    | none => none
def putA : List Av → List D → S0 → S0
  | .inl _ :: r, _ :: ds, S => putA r ds S
  | .inr i :: r, d :: ds, S => (putA r ds S).set i d
  | _, _, S => S
def callM (m : Fn) (as : List Ar) : EM := argsA as fun av S => match takeA av S with
  | some (ds, S1) => match m ds with
    | some (o, ds') => if ds'.length = av.length then some (o, putA av ds' S1) else none
    | none => none
  | none => none
section
variable {c : Cfg} {X : Cx}
theorem tArgsA_mono : ∀ {fs : List Ar} {σ : L2.St} {H : Hp} {Q Q' : List V → Hp → Prop}, tArgsA c fs σ H Q → (∀ vs H, Q vs H → Q' vs H) → tArgsA c fs σ H Q'
  | [], _, _, _, _, h, q => q _ _ h
  | .v f :: fs, _, _, _, _, h, q => T.mono h fun _ _ h2 => tArgsA_mono h2 fun vs H h3 => q _ H h3
  | .s i :: fs, _, _, _, _, ⟨v, e, h⟩, q => ⟨v, e, tArgsA_mono h fun vs H h3 => q _ H h3⟩
theorem post_argsA : ∀ (fs : List Ar) {g : List Av → EM} {S : S0} {tm tm0 : List Pr} {σ : L2.St} {H : Hp} {Q : VK}, SJ c S tm σ H → post c (argsA fs g S) tm0 σ Q →
    tArgsA c fs σ H (fun vs H1 => ∃ as S' L, AvOk σ as vs L ∧ as.length = fs.length ∧ SJ c S' (L ++ tm) σ H1 ∧ post c (g as S') tm0 σ Q)
  | [], _, S, _, _, _, _, _, j, p => ⟨[], S, [], .nil, rfl, j, p⟩
  | .v f :: fs, g, S, tm, tm0, σ, H, Q, j, p => by
    refine (post_bind (fa := f) j p).mono fun v H1 ⟨d, S1, j1, p1⟩ => ?_
    refine tArgsA_mono (post_argsA fs j1 p1) fun vs H2 ⟨as, S2, L, a, al, j2, p2⟩ => ?_
    exact ⟨.inl d :: as, S2, _, .v a, by simp [al], j2.perm perm_take, p2⟩
  | .s i :: fs, g, S, tm, tm0, σ, H, Q, j, p => by
    unfold argsA at p
    split at p
    · rename_i d hd
      split at p
      · exact p.elim
      · rename_i hu
        obtain ⟨v, ev⟩ := j.set i d hd (isUn_ne (by simpa using hu))
        refine ⟨v, ev, tArgsA_mono (post_argsA fs j p) fun vs H2 ⟨as, S2, L, a, al, j2, p2⟩ => ?_⟩
        exact ⟨.inr i :: as, S2, L, .s ev a, by simp [al], j2, p2⟩
    · exact p.elim
structure SL (c : Cfg) (S : S0) (σ : L2.St) : Prop where
  len : σ.length = S.length
  set : ∀ (i : Nat) d, S[i]? = some d → d ≠ .un → ∃ v, σ[i]? = some (some v)
  pv : ∀ (i : Nat) o, c.PV[i]? = some (some o) → σ[i]? = some o
  lp : c.PV.length = σ.length
theorem SJ.sl {S : S0} {tm : List Pr} {σ : L2.St} {H : Hp} (j : SJ c S tm σ H) : SL c S σ := ⟨j.len, j.set, j.pv, j.lp⟩
theorem SL.sj {S : S0} {tm : List Pr} {σ : L2.St} {H : Hp} (l : SL c S σ) (j : Joint c.K H (slotL σ S ++ (tm ++ c.rs))) : SJ c S tm σ H := ⟨l.len, l.set, l.pv, l.lp, j⟩
theorem SL.upd {S : S0} {σ : L2.St} {i : Nat} {v : V} {d : D} (l : SL c S σ) (h : σ[i]? = some (some v)) : SL c (S.set i d) σ :=
  ⟨by rw [List.length_set]; exact l.len, fun n u h' hn => by
    by_cases hi : n = i
    · exact ⟨v, by rw [hi]; exact h⟩
    · rw [List.getElem?_set_ne (Ne.symm hi)] at h'
      exact l.set n u h' hn, l.pv, l.lp⟩
theorem take_ok : ∀ {as : List Av} {vs : List V} {L : List Pr} {S S1 : S0} {ds : List D} {σ : L2.St} {H : Hp} {R : List Pr}, AvOk σ as vs L → takeA as S = some (ds, S1) → SL c S σ → Joint c.K H (slotL σ S ++ (L ++ R)) →
    vs.length = ds.length ∧ as.length = ds.length ∧ SL c S1 σ ∧ Joint c.K H (vs.zip ds ++ (slotL σ S1 ++ R)) ∧
    ∀ ds' : List D, ds'.length = ds.length → SL c (putA as ds' S1) σ ∧ ∀ (H' : Hp) (R' : List Pr), Joint c.K H' (vs.zip ds' ++ (slotL σ S1 ++ R')) → Joint c.K H' (slotL σ (putA as ds' S1) ++ R')
  | _, _, _, S, _, _, σ, H, R, .nil, e, l, j => by
    simp only [takeA, Option.some.injEq, Prod.mk.injEq] at e
    obtain ⟨rfl, rfl⟩ := e
    refine ⟨rfl, rfl, l, j, fun ds' hd => ?_⟩
    have : ds' = [] := by cases ds' with | nil => rfl | cons _ _ => simp at hd
    subst this
    exact ⟨l, fun H' R' k => k⟩
  | .inl d :: as, v :: vs, _, S, S1, ds, σ, H, R, .v a, e, l, j => by
    simp only [takeA, Option.map_eq_some_iff] at e
    obtain ⟨⟨ds2, S2⟩, e2, e3⟩ := e
    simp only [Prod.mk.injEq] at e3
    obtain ⟨rfl, rfl⟩ := e3
    rename_i L
    have jj : Joint c.K H (slotL σ S ++ (L ++ ((v, d) :: R))) := j.perm (List.Perm.append_left _ (by
      show ((v, d) :: (L ++ R)).Perm (L ++ ((v, d) :: R))
      exact perm_take.symm))
    obtain ⟨h1, h2, h3, h4, h5⟩ := take_ok a e2 l jj
    refine ⟨by simp [h1], by simp [h2], h3, ?_, fun ds' hd => ?_⟩
    · refine h4.perm ?_
      show (vs.zip ds2 ++ (slotL σ S2 ++ (v, d) :: R)).Perm ((v, d) :: (vs.zip ds2 ++ (slotL σ S2 ++ R)))
      exact (List.Perm.append_left _ perm_take).trans perm_take
    · cases ds' with
      | nil => simp at hd
      | cons d' r =>
        obtain ⟨g1, g2⟩ := h5 r (by simpa using hd)
        exact ⟨g1, fun H' R' k => g2 H' R' (Joint.drop (x := (v, d')) k)⟩
  | .inr i :: as, v :: vs, L, S, S1, ds, σ, H, R, .s ev a, e, l, j => by
    unfold takeA at e
    split at e
    · rename_i d hd
      split at e
      · cases e
      · rename_i hu
        simp only [Option.map_eq_some_iff] at e
        obtain ⟨⟨ds2, S2⟩, e2, e3⟩ := e
        simp only [Prod.mk.injEq] at e3
        obtain ⟨rfl, rfl⟩ := e3
        obtain ⟨Z, p1, p2, _⟩ := slot_get ev hd l.len
        have jj : Joint c.K H (slotL σ (S.set i .un) ++ (L ++ ((v, d) :: R))) := by
          have k1 : Joint c.K H ((v, d) :: (Z ++ (L ++ R))) := j.perm (List.Perm.append_right _ p1)
          have k2 : Joint c.K H ((v, D.un) :: (v, d) :: (Z ++ (L ++ R))) := k1.un
          refine k2.perm ?_
          have q1 : ((v, D.un) :: (v, d) :: (Z ++ (L ++ R))).Perm ((v, D.un) :: (Z ++ (L ++ ((v, d) :: R)))) := List.Perm.cons _ ((perm_take.symm).trans (List.Perm.append_left _ perm_take.symm))
          exact q1.trans (List.Perm.append_right _ (p2 .un).symm)
        obtain ⟨h1, h2, h3, h4, h5⟩ := take_ok a e2 (l.upd ev) jj
        refine ⟨by simp [h1], by simp [h2], h3, ?_, fun ds' hd' => ?_⟩
        · refine h4.perm ?_
          show (vs.zip ds2 ++ (slotL σ S2 ++ (v, d) :: R)).Perm ((v, d) :: (vs.zip ds2 ++ (slotL σ S2 ++ R)))
          exact (List.Perm.append_left _ perm_take).trans perm_take
        · cases ds' with
          | nil => simp at hd'
          | cons d' r =>
            obtain ⟨g1, g2⟩ := h5 r (by simpa using hd')
            refine ⟨g1.upd ev, fun H' R' k => ?_⟩
            have hlt : i < (putA as r S2).length := by
              rw [← g1.len]
              exact (List.getElem?_eq_some_iff.mp ev).1
            obtain ⟨Z', q1, q2, _⟩ := slot_get ev (List.getElem?_eq_getElem hlt) g1.len
            have k1 : Joint c.K H' (slotL σ (putA as r S2) ++ ((v, d') :: R')) := g2 H' ((v, d') :: R') (k.perm ((perm_take.symm).trans (List.Perm.append_left _ perm_take.symm)))
            have k2 := k1.perm (List.Perm.append_right _ q1)
            have k3 : Joint c.K H' (Z' ++ ((v, d') :: R')) := Joint.drop k2
            have k4 : Joint c.K H' ((v, d') :: Z' ++ R') := k3.perm perm_take
            exact k4.perm (List.Perm.append_right _ (q2 d').symm)
    · cases e
theorem av_len : ∀ {as : List Av} {vs : List V} {L : List Pr} {σ : L2.St}, AvOk σ as vs L → as.length = vs.length
  | _, _, _, _, .nil => rfl
  | _, _, _, _, .v a => by simp [av_len a]
  | _, _, _, _, .s _ a => by simp [av_len a]
variable {k : Nat} {f : Addr} {fd : FuncData} {ps : List Str} {n : Nat} {m : Fn} {x : Str} {p pos : Pos} {e : Expr} {es : List Expr} {as : List Ar}
theorem t_call {σ : L2.St} {H : Hp} {Q : VK} (h : T c (callM m as) σ H Q) (hn : as.length = n) : tCallSD (spOf c.K n m) [] (WE c.W) (tArgsA c as) σ H Q := by
  obtain ⟨S, tm, j, p⟩ := h
  refine tArgsA_mono (post_argsA as j p) fun vs H1 ⟨av, S1, L, a, al, j1, p1⟩ => ?_
  split at p1
  · rename_i ds S2 ht
    have jj : Joint c.K H1 (slotL σ S1 ++ (L ++ (tm ++ c.rs))) := by
      have := j1.jt
      rwa [List.append_assoc] at this
    obtain ⟨h1, h2, h3, h4, h5⟩ := take_ok a ht j1.sl jj
    rw [List.append_nil]
    split at p1
    · rename_i o ds' hm
      split at p1
      · rename_i hlen
        obtain ⟨g1, g2⟩ := h5 ds' (by omega)
        have hn' : vs.length = n := by have := av_len a; omega
        refine ⟨hn', ds, _, by omega, h4, ?_⟩
        rw [hm]
        cases o with
        | ok d =>
          refine ⟨by omega, fun v H' k => p1 v H' (g1.sj ?_)⟩
          refine Joint.perm perm_take.symm ?_
          have k2 : Joint c.K H' (vs.zip ds' ++ (slotL σ S2 ++ ((v, d) :: (tm ++ c.rs)))) := k.perm ((perm_take.symm).trans (List.Perm.append_left _ perm_take.symm))
          exact (g2 H' _ k2).perm perm_take
        | ex y =>
          refine ⟨by omega, fun cls dd H' ⟨fv, x1, x2, x3, k⟩ => p1 cls dd H' ⟨fv, x1, x2, x3, g1.sj ?_⟩⟩
          have k2 : Joint c.K H' (vs.zip ds' ++ (slotL σ S2 ++ (fv ++ (tm ++ c.rs)))) := k.perm (perm_sw.trans (List.Perm.append_left _ perm_sw))
          have k3 := g2 H' _ k2
          have k4 : Joint c.K H' (tm ++ (slotL σ (putA av ds' S2) ++ (fv ++ c.rs))) := k3.perm ((List.Perm.append_left _ perm_sw).trans perm_sw)
          exact k4.dropL
      · exact p1.elim
    · exact p1.elim
  · exact p1.elim
theorem wA_nil : PA X [] (tArgsA c []) := pa_nil
theorem wA_v {g : EM} (h : PE X e (T c g)) (hr : PA X es (tArgsA c as)) (hs : starEach (e :: es) X.env = (false, eval e X.env) :: starEach es X.env := by rfl) : PA X (e :: es) (tArgsA c (.v g :: as)) := pa_cons h hr hs
theorem wA_s {i : Nat} (h : PE X e (tVar i)) (hr : PA X es (tArgsA c as)) (hs : starEach (e :: es) X.env = (false, eval e X.env) :: starEach es X.env := by rfl) : PA X (e :: es) (tArgsA c (.s i :: as)) := pa_cons h hr hs
theorem w_call (F : FnOk X.prog X.w X.K X.mg X.base (L2.CX X.prog X.w) k f fd ps (spOf c.K n m)) (hr : Room k X.A) (hg : Gl X x) (hm : X.mg x = some (.ref f)) (hk : PySem.W.keepIn X.K (.ref f) = true) (hb : Binds X.K fd ps []) (tk : Takes X c.W)
    (ha : PA X (e :: es) (tArgsA c as)) (hn : as.length = n := by rfl) (hdb : (x == ("__debug__" : Str)) = false := by decide) (he : starEach (e :: es) X.env = (false, eval e X.env) :: starEach es X.env := by rfl) (hpl : (backTo pos (starEach es X.env)).any (·.1) = false := by rfl) :
    PE X (.Call (.Name x p) (e :: es) [] pos) (T c (callM m as)) := pe_mono (pe_callSD F hr hg hm hk hb .nil (fun σ => passAt tk σ) ha hdb he hpl) fun _ _ _ h => t_call h hn
end
end WF
namespace WF
open PySem PySem.Spec PyProof.Rows L2
def maskM : List Bool → List D → List D
  | b :: bs, d :: ds => (if b then d else .un) :: maskM bs ds
  | _, _ => []
def defM (mask : List Bool) (N : Nat) (body : SM) : Fn := fun ds => match body (ds ++ List.replicate (N - mask.length) .un) with
  | some (.rt d, S) => some (.ok d, maskM mask S)
  | some (.nx, S) => some (.ok .non, maskM mask S)
  | some (.ex x, S) => some (.ex x, maskM mask S)
  | _ => none
def pvOf : List Bool → List V → List (Option (Option V))
  | b :: bs, v :: vs => (if b then some (some v) else none) :: pvOf bs vs
  | _, _ => []
section
variable {K : PySem.W.Frag} {H : Hp} {R : List Pr}
theorem Joint.uns : ∀ {k : Nat} {v : V} {A : List Pr}, Joint K H (A ++ R) → Joint K H ((A ++ List.replicate k (v, .un)) ++ R)
  | 0, v, A, j => by simpa using j
  | k + 1, v, A, j => by
    have q := (Joint.uns (k := k) (v := v) j).un (v := v)
    refine q.perm ?_
    rw [List.replicate_succ, List.append_assoc, List.append_assoc]
    show ((v, D.un) :: (A ++ (List.replicate k (v, D.un) ++ R))).Perm (A ++ ((v, D.un) :: (List.replicate k (v, D.un) ++ R)))
    exact perm_take.symm
theorem slotL_start : ∀ {vs : List V} {ds : List D} {k : Nat}, vs.length = ds.length → slotL (vs.map some ++ List.replicate k none) (ds ++ List.replicate k .un) = vs.zip ds ++ List.replicate k (.non, .un)
  | [], [], k, _ => by simp [slotL]
  | v :: vs, d :: ds, k, h => by
    have ih := slotL_start (vs := vs) (ds := ds) (k := k) (by simpa using h)
    unfold slotL at ih ⊢
    simp only [List.map_cons, List.cons_append, List.zip_cons_cons, Option.getD_some]
    rw [ih]
  | [], _ :: _, _, h => by simp at h
  | _ :: _, [], _, h => by simp at h
theorem maskM_le : ∀ {mask : List Bool} {S : S0}, (maskM mask S).length = mask.length → mask.length ≤ S.length
  | [], S, _ => Nat.zero_le _
  | b :: bs, d :: S, h => by simp [maskM] at h; simpa using maskM_le (mask := bs) (S := S) h
  | b :: bs, [], h => by simp [maskM] at h
theorem mask_ok : ∀ {R : List Pr} {mask : List Bool} {vs : List V} {σ : L2.St} {S : S0}, mask.length = vs.length → σ.length = S.length → vs.length ≤ S.length → (∀ (i : Nat) o, (pvOf mask vs)[i]? = some (some o) → σ[i]? = some o) → Joint K H (slotL σ S ++ R) → Joint K H (vs.zip (maskM mask S) ++ R)
  | R, [], [], σ, S, _, _, _, _, j => j.dropL
  | R, b :: bs, v :: vs, o :: σ, d :: S, h1, h2, h3, h4, j => by
    have ih := fun R (q : Joint K H (slotL σ S ++ R)) => mask_ok (R := R) (mask := bs) (vs := vs) (σ := σ) (S := S) (by simpa using h1) (by simpa using h2) (by simpa using h3) (fun i o h => by simpa using h4 (i + 1) o (by simpa [pvOf] using h)) q
    have j' : Joint K H ((o.getD .non, d) :: (slotL σ S ++ R)) := j
    cases b with
    | true =>
      have e : o = some v := by simpa using h4 0 (some v) rfl
      subst e
      have k := ih ((v, d) :: R) (j'.perm perm_take.symm)
      exact k.perm perm_take
    | false => exact (ih R j'.drop).un
  | _, [], _ :: _, _, _, h, _, _, _, _ => by simp at h
  | _, _ :: _, [], _, _, h, _, _, _, _ => by simp at h
  | _, _ :: _, _ :: _, _, [], _, _, h, _, _ => by simp at h
  | _, _ :: _, _ :: _, [], _ :: _, _, h, _, _, _ => by simp at h
theorem pvOf_get : ∀ {mask : List Bool} {vs : List V} {i : Nat} {o : Option V} {r : L2.St}, (pvOf mask vs)[i]? = some (some o) → (vs.map some ++ r)[i]? = some o
  | b :: bs, v :: vs, 0, o, r, h => by
    cases b with
    | true => simp [pvOf] at h; simp [h]
    | false => simp [pvOf] at h
  | b :: bs, v :: vs, i + 1, o, r, h => by
    have := pvOf_get (mask := bs) (vs := vs) (i := i) (o := o) (r := r) (by simpa [pvOf] using h)
    simpa using this
  | [], vs, i, o, r, h => by cases vs <;> simp [pvOf] at h
  | _ :: _, [], i, o, r, h => by simp [pvOf] at h
end
abbrev cfgOf (K : PySem.W.Frag) (mask : List Bool) (N : Nat) (vs : List V) (rs : List Pr) (E : XK) : Cfg := ⟨K, pvOf mask vs ++ List.replicate (N - mask.length) none, rs, fun cls d _ H => E cls d H⟩
theorem pvOf_len : ∀ {mask : List Bool} {vs : List V}, mask.length = vs.length → (pvOf mask vs).length = mask.length
  | [], [], _ => rfl
  | b :: bs, v :: vs, h => by simp [pvOf, pvOf_len (mask := bs) (vs := vs) (by simpa using h)]
  | [], _ :: _, h => by simp at h
  | _ :: _, [], h => by simp at h
theorem pv_split {mask : List Bool} {vs : List V} {k i : Nat} {o : Option V} (h : (pvOf mask vs ++ List.replicate k none)[i]? = some (some o)) : (pvOf mask vs)[i]? = some (some o) := by
  by_cases hi : i < (pvOf mask vs).length
  · rwa [List.getElem?_append_left hi] at h
  · rw [List.getElem?_append_right (by omega), List.getElem?_replicate] at h
    split at h <;> cases h
section
variable {P : Program} {w : World} {K : PySem.W.Frag} {mg : Str → Option Value} {base : Heap}
end
end WF
namespace WF
open PySem PySem.Spec PyProof.Rows L2
structure Iter (K : PySem.W.Frag) (J : It) (hold : List Pr) (ds : List D) : Prop where
  go : ∀ i H L, i < ds.length → Joint K H (hold ++ L) → J.go i H
  yld : ∀ i H L d x H', ds[i]? = some d → Joint K H (hold ++ L) → J.yld i H x H' → Joint K H' ((x, d) :: (hold ++ L))
  stop : ∀ H L, Joint K H (hold ++ L) → J.stop ds.length H
inductive IOut where
  | ok (ds : List D) (lent : List (Nat × D))
  | ex (x : Xn)
def lentL (σ : L2.St) (lent : List (Nat × D)) : List Pr := lent.map fun x => ((σ.getD x.1 none).getD .non, x.2)
def LentOk (σ : L2.St) (lent : List (Nat × D)) : Prop := ∀ x ∈ lent, ∃ v, σ[x.1]? = some (some v)
abbrev IM := S0 → Option (IOut × S0)
def postI (c : Cfg) (o : Option (IOut × S0)) (tm : List Pr) (σ : L2.St) (R : It → Hp → Prop) : Prop := match o with
  | some (.ok ds lent, S) => LentOk σ lent → ∀ J hold H, Iter c.K J (hold ++ lentL σ lent) ds → SJ c S (hold ++ (lentL σ lent ++ tm)) σ H → R J H
  | some (.ex x, S) => ∀ cls dd H, XJ c x S cls dd σ H → c.W cls dd σ H
  | none => False
def TIm (c : Cfg) (f : IM) : TI := fun σ H R => ∃ S tm, SJ c S tm σ H ∧ postI c (f S) tm σ R
def bindI (fa : EM) (g : D → IM) : IM := fun S => match fa S with
  | some (.ok d, S') => g d S'
  | some (.ex x, S') => some (.ex x, S')
  | none => none
def optI (o : Option (List D)) : IM := fun S => o.map fun ds => (.ok ds [], S)
section
variable {c : Cfg} {X : Cx} {S : S0} {tm tm0 : List Pr} {σ : L2.St} {H : Hp} {E : Ends} {fa fb fe : EM} {fi : IM} {g : GM} {f : SM} {st : Stmt} {sts : List Stmt} {e a b it tg : Expr} {pos : Pos}
theorem pi_mono {t t' : TI} (h : PI X tg it t) (hi : ∀ σ H R, t' σ H R → t σ H R) : PI X tg it t' := ⟨fun pins s σ H R I w => h.run pins s σ H R I (hi σ H R w)⟩
theorem post_bindI {g : D → IM} {R : It → Hp → Prop} (j : SJ c S tm σ H) (p : postI c (bindI fa g S) tm0 σ R) : T c fa σ H (fun v H1 => ∃ d S', SJ c S' ((v, d) :: tm) σ H1 ∧ postI c (g d S') tm0 σ R) := by
  refine ⟨S, tm, j, ?_⟩
  unfold bindI at p
  cases h : fa S with
  | none => rw [h] at p; exact p.elim
  | some o =>
    obtain ⟨o, S'⟩ := o
    cases o with
    | ok d => rw [h] at p; exact fun v H' j' => ⟨d, S', j', p⟩
    | ex x => rw [h] at p; exact p
theorem post_optI {o : Option (List D)} {R : It → Hp → Prop} (p : postI c (optI o S) tm σ R) : ∃ ds, o = some ds ∧ ∀ J hold H, Iter c.K J hold ds → SJ c S (hold ++ tm) σ H → R J H := by
  unfold optI at p
  cases o with
  | none => exact p.elim
  | some d => exact ⟨d, rfl, fun J hold H J1 j => p (fun x m => nomatch m) J hold H (by rw [show lentL σ [] = [] from rfl, List.append_nil]; exact J1) j⟩
def loopM (g : GM) (body : SM) : List D → SM
  | [], S => some (.nx, S)
  | d :: ds, S => match g d S with
    | none => none
    | some S1 => match body S1 with
      | some (.nx, S2) => loopM g body ds S2
      | some (.ct, S2) => loopM g body ds S2
      | some (.bk, S2) => some (.nx, S2)
      | o => o
def forM (fi : IM) (g : GM) (body : SM) : SM := fun S => match fi S with
  | some (.ok ds [], S') => loopM g body ds S'
  | some (.ex x, S') => some (.ex x, S')
  | _ => none
theorem SJ.dropM {A B : List Pr} (j : SJ c S (A ++ (B ++ tm)) σ H) : SJ c S (A ++ tm) σ H := by
  have j' : SJ c S (B ++ (A ++ tm)) σ H := j.perm perm_sw
  exact j'.dropL
theorem w_for (hp : PassesOwn (model X.prog X.w) X.A X.env X.xe) (hc : X.calm = true) (hi : PI X tg it (TIm c fi)) (hg : PG X tg (UG c g)) (hb : PSs X sts (U c f)) (hs : ∀ x, foldedSetIterable it X.env x = pure x := by intro _; rfl) : PS X (.For tg it sts [] pos) (U c (forM fi g f)) :=
  ps_mono (ps_for hp hc hi hg hb hs) fun E σ H h => by
    obtain ⟨S, tm, j, p⟩ := h
    refine ⟨S, tm, j, ?_⟩
    unfold forM at p
    cases hf : fi S with
    | none => rw [hf] at p; exact p.elim
    | some o =>
      obtain ⟨o, S1⟩ := o
      rw [hf] at p
      cases o with
      | ex x => exact fun cls dd H' xj => p cls dd σ H' xj
      | ok ds lent =>
        cases lent with
        | cons _ _ => exact p.elim
        | nil =>
        intro _ J hold H1 J1 j1
        rw [show lentL σ [] = [] from rfl, List.append_nil] at J1
        rw [show lentL σ [] = [] from rfl, List.nil_append] at j1
        refine ⟨fun i m σ H => m = ds.length - i ∧ i ≤ ds.length ∧ ∃ S, SJ c S (hold ++ tm) σ H ∧ postS c (loopM g f (ds.drop i) S) tm E, ⟨_, rfl, Nat.zero_le _, S1, j1, p⟩, ?_⟩
        rintro i m σ2 H2 ⟨rfl, hi, S2, j2, p2⟩
        have jh : Joint c.K H2 (hold ++ (slotL σ2 S2 ++ (tm ++ c.rs))) := j2.jt.perm (by rw [List.append_assoc]; exact perm_sw)
        by_cases hlt : i < ds.length
        · have hd : ds[i]? = some ds[i] := List.getElem?_eq_getElem hlt
          rw [List.drop_eq_getElem_cons hlt] at p2
          refine .inr ⟨J1.go i H2 _ hlt jh, fun σ' H' => ∃ S, SJ c S (hold ++ tm) σ' H' ∧ postS c (loopM g f (ds.drop (i + 1)) S) tm E, fun σ' H' ⟨S3, j3, p3⟩ => ⟨_, (by omega : ds.length - (i + 1) < ds.length - i), rfl, hlt, S3, j3, p3⟩, fun x H3 hy => ?_⟩
          have k := J1.yld i H2 _ _ _ _ hd jh hy
          refine ⟨ds[i], S2, hold ++ tm, j2.put (k.perm (List.Perm.cons _ (by rw [List.append_assoc]; exact perm_sw))), ?_⟩
          unfold loopM at p2
          cases hg : g ds[i] S2 with
          | none => rw [hg] at p2; exact p2.elim
          | some S3 =>
            rw [hg] at p2
            intro σ4 H4 j4
            refine ⟨S3, hold ++ tm, j4, ?_⟩
            simp only at p2
            cases hb : f S3 with
            | none => rw [hb] at p2; exact p2.elim
            | some o =>
              obtain ⟨fl, S5⟩ := o
              rw [hb] at p2
              cases fl with
              | nx => exact fun σ5 H5 j5 => ⟨S5, j5, p2⟩
              | ct => exact fun σ5 H5 j5 => ⟨S5, j5, p2⟩
              | bk => exact fun σ5 H5 j5 => p2 σ5 H5 j5.dropL
              | rt d => exact fun v σ5 H5 j5 => p2 v σ5 H5 (SJ.dropM (A := [(v, d)]) j5)
              | ex x => exact p2
        · have e : i = ds.length := by omega
          subst e
          rw [List.drop_length] at p2
          exact .inl ⟨J1.stop H2 _ jh, p2 σ2 H2 j2.dropL⟩
def itemsD : D → Option (List D)
  | .tup ds => some (D.frzs ds)
  | .lst _ ds => some (D.frzs ds)
  | _ => none
end
section
variable {K : PySem.W.Frag} {H : Hp} {R L : List Pr} {p : Addr} {vs : List V} {ds : List D}
mutual
theorem D.frz_frz : ∀ d : D, d.frz.frz = d.frz
  | .tup xs => by simp only [D.frz, D.frzs_frzs xs]
  | .exn _ _ xs => by simp only [D.frz, D.frzs_frzs xs]
  | .lst _ xs => by simp only [D.frz, D.frzs_frzs xs]
  | .dic _ _ xs => by simp only [D.frz, D.frzs_frzs xs]
  | .dtk _ _ xs => by simp only [D.frz, D.frzs_frzs xs]
  | .un => rfl
  | .non => rfl
  | .bl _ => rfl
  | .int _ => rfl
  | .str _ => rfl
  | .vl _ => rfl
  | .scr _ => rfl
  | .hld _ => rfl
  | .con _ => rfl
  | .tab _ => rfl
  | .obj _ _ _ xs => by simp only [D.frz, D.frzs_frzs xs]
theorem D.frzs_frzs : ∀ ds : List D, D.frzs (D.frzs ds) = D.frzs ds
  | [] => rfl
  | d :: ds => by simp only [D.frzs, D.frz_frz d, D.frzs_frzs ds]
end
theorem Reps.pure {G : Hp} {fp : List Addr} (r : Reps K G H L fp) : (∀ x ∈ L, x.2.frz = x.2) → fp = [] := by
  have ch : ∀ {C : List Pr} {ds : List D}, C.map Prod.snd = ds → D.frzs ds = ds → ∀ x ∈ C, x.2.frz = x.2 := fun {C ds} e h x m => by
    subst e
    rw [D.frzs_map, List.map_map] at h
    exact List.map_inj_left.mp h x m
  induction r with
  | nil => intro _; rfl
  | un _ ih => intro h; exact ih fun x m => h x (List.mem_cons_of_mem _ m)
  | non _ ih => intro h; exact ih fun x m => h x (List.mem_cons_of_mem _ m)
  | bl _ ih => intro h; exact ih fun x m => h x (List.mem_cons_of_mem _ m)
  | int _ ih => intro h; exact ih fun x m => h x (List.mem_cons_of_mem _ m)
  | str _ ih => intro h; exact ih fun x m => h x (List.mem_cons_of_mem _ m)
  | vl _ ih => intro h; exact ih fun x m => h x (List.mem_cons_of_mem _ m)
  | scr _ _ ih => intro h; exact ih fun x m => h x (List.mem_cons_of_mem _ m)
  | hld _ _ _ ih => intro h; have q := h _ List.mem_cons_self; cases q
  | con _ _ _ ih => intro h; exact ih fun x m => h x (List.mem_cons_of_mem _ m)
  | tab _ _ ih => intro h; have q := h _ List.mem_cons_self; cases q
  | of _ _ _ _ _ _ _ ih1 ih2 => intro h; exact ih2 fun x m => h x (List.mem_cons_of_mem _ m)
  | oo _ _ _ _ _ _ _ ih1 ih2 =>
    intro h
    have q := h _ List.mem_cons_self
    simp [D.frz] at q
  | tup a b e r1 r2 ih1 ih2 =>
    intro h
    have q := h _ List.mem_cons_self
    simp only [D.frz, D.tup.injEq] at q
    rw [ih1 (ch e q), ih2 fun x m => h x (List.mem_cons_of_mem _ m)]
    rfl
  | exn _ _ _ _ _ _ _ ih1 ih2 => intro h; exact ih2 fun x m => h x (List.mem_cons_of_mem _ m)
  | lf a b e r1 r2 ih1 ih2 => intro h; exact ih2 fun x m => h x (List.mem_cons_of_mem _ m)
  | lo a b e r1 r2 ih1 ih2 =>
    intro h
    have q := h _ List.mem_cons_self
    simp [D.frz] at q
  | kf a k b e r1 r2 ih1 ih2 => intro h; exact ih2 fun x m => h x (List.mem_cons_of_mem _ m)
  | ko a k b e r1 r2 ih1 ih2 =>
    intro h
    have q := h _ List.mem_cons_self
    simp [D.frz] at q
  | tf a k b e r1 r2 ih1 ih2 => intro h; exact ih2 fun x m => h x (List.mem_cons_of_mem _ m)
  | to a k b e r1 r2 ih1 ih2 =>
    intro h
    have q := h _ List.mem_cons_self
    simp [D.frz] at q
theorem reps_get {G : Hp} : ∀ {C : List Pr} {i : Nat} {x : Pr}, Reps K G H C [] → C[i]? = some x → Reps K G H [x] []
  | [], _, _, _, h => by simp at h
  | y :: C, 0, x, r, h => by
    obtain ⟨f1, f2, e, r1, r2⟩ := r.uncons
    obtain ⟨rfl, rfl⟩ := List.append_eq_nil_iff.mp e.symm
    simp at h; subst h
    exact r1
  | y :: C, i + 1, x, r, h => by
    obtain ⟨f1, f2, e, r1, r2⟩ := r.uncons
    obtain ⟨rfl, rfl⟩ := List.append_eq_nil_iff.mp e.symm
    exact reps_get r2 (by simpa using h)
theorem Joint.itemT (j : Joint K H ((.ref p, .tup ds) :: R)) (hf : D.frzs ds = ds) : ∃ vs, H p = some (.tup vs) ∧ vs.length = ds.length ∧ ∀ (i : Nat) x d, vs[i]? = some x → ds[i]? = some d → Joint K H ((x, d) :: (.ref p, .tup ds) :: R) := by
  obtain ⟨G, fp, g, r, n, z⟩ := j
  have r0 := r
  cases r with
  | @tup p C vs ds f L fp a b e r1 r2 =>
    have hc : f = [] := r1.pure fun x m => by
      subst e
      rw [D.frzs_map, List.map_map] at hf
      exact List.map_inj_left.mp hf x m
    subst hc b e
    refine ⟨_, g _ _ a, by simp, fun i x d h1 h2 => ⟨G, _, g, ?_, n, z⟩⟩
    refine Reps.append (L := [(x, d)]) (fp := []) (reps_get r1 (i := i) ?_) r0
    rw [List.getElem?_map] at h1 h2
    cases q : C[i]? with
    | none => rw [q] at h1; cases h1
    | some y => rw [q] at h1 h2; cases h1; cases h2; rfl
theorem Joint.itemL (j : Joint K H ((.ref p, .lst false ds) :: R)) : ∃ vs, H p = some (.lst vs) ∧ vs.length = ds.length ∧ ∀ (i : Nat) x d, vs[i]? = some x → ds[i]? = some d → Joint K H ((x, d) :: (.ref p, .lst false ds) :: R) := by
  obtain ⟨G, fp, g, r, n, z⟩ := j
  have r0 := r
  cases r with
  | @lf p C vs ds L fp a b e r1 r2 =>
    subst b e
    refine ⟨_, g _ _ a, by simp, fun i x d h1 h2 => ⟨G, _, g, ?_, n, z⟩⟩
    refine Reps.append (L := [(x, d)]) (fp := []) (reps_get r1 (i := i) ?_) r0
    rw [List.getElem?_map] at h1 h2
    cases q : C[i]? with
    | none => rw [q] at h1; cases h1
    | some y => rw [q] at h1 h2; cases h1; cases h2; rfl
theorem iter_list : Iter K (Itl K p) [(.ref p, .lst false ds)] ds where
  go := fun i H L hi j => by
    obtain ⟨vs, hp, hl, q⟩ := Joint.itemL j
    have sq : SqL K H p vs := .inl (.inl hp)
    exact ⟨vs, vs[i]'(by omega), sq, List.getElem?_eq_getElem _⟩
  yld := fun i H L d x H' hd j y => by
    obtain ⟨vs, hp, hl, q⟩ := Joint.itemL j
    have sq : SqL K H p vs := .inl (.inl hp)
    obtain ⟨rfl, y2⟩ := y
    exact q i x d (y2 vs sq) hd
  stop := fun H L j => by
    obtain ⟨vs, hp, hl, q⟩ := Joint.itemL j
    have sq : SqL K H p vs := .inl (.inl hp)
    exact ⟨vs, sq, by omega⟩
theorem iter_tup (hf : D.frzs ds = ds) : Iter K (Itt K p) [(.ref p, .tup ds)] ds where
  go := fun i H L hi j => by
    obtain ⟨vs, hp, hl, q⟩ := Joint.itemT j hf
    have sq : SqT K H p vs := .inl (.inl hp)
    exact ⟨vs, vs[i]'(by omega), sq, List.getElem?_eq_getElem _⟩
  yld := fun i H L d x H' hd j y => by
    obtain ⟨vs, hp, hl, q⟩ := Joint.itemT j hf
    have sq : SqT K H p vs := .inl (.inl hp)
    obtain ⟨rfl, y2⟩ := y
    exact q i x d (y2 vs sq) hd
  stop := fun H L j => by
    obtain ⟨vs, hp, hl, q⟩ := Joint.itemT j hf
    have sq : SqT K H p vs := .inl (.inl hp)
    exact ⟨vs, sq, by omega⟩
end
section
variable {c : Cfg} {X : Cx} {S : S0} {tm tm0 : List Pr} {σ : L2.St} {H : Hp} {fe : EM} {e tg : Expr} {pos : Pos}
theorem PI.or {t t' : TI} (h : PI X tg e t) (h' : PI X tg e t') : PI X tg e (fun σ H R => t σ H R ∨ t' σ H R) := ⟨fun pins s σ H R I w => w.elim (h.run pins s σ H R I) (h'.run pins s σ H R I)⟩
def seqI (fe : EM) : IM := bindI fe fun d => optI (itemsD d)
theorem SJ.frz {v : V} {d : D} (j : SJ c S ((v, d) :: tm) σ H) : SJ c S ((v, d.frz) :: tm) σ H := j.put j.take.freeze.drop
theorem wi_seq (hK : c.K = X.K) (he : PE X e (T c fe)) : PI X tg e (TIm c (seqI fe)) := pi_mono (PI.or (pi_list he) (pi_tup he)) fun σ H R h => by
  obtain ⟨S, tm, j, p⟩ := h
  have q := post_bindI j p
  cases hf : fe S with
  | none => simp only [seqI, bindI, hf] at p; exact p.elim
  | some o =>
    obtain ⟨o, S1⟩ := o
    cases o with
    | ex x => simp only [seqI, bindI, hf] at p; exact .inl ⟨S, tm, j, by rw [hf]; exact p⟩
    | ok d =>
      simp only [seqI, bindI, hf] at p
      obtain ⟨ds, e, p⟩ := post_optI p
      unfold itemsD at e
      split at e
      · rename_i xs
        cases e
        refine .inr ⟨S, tm, j, ?_⟩
        rw [hf]
        intro v H1 j1
        obtain ⟨q, rfl⟩ := j1.take.is_tup
        have j2 := j1.frz
        obtain ⟨vs, sq, _, _⟩ := j2.take.itemT (D.frzs_frzs xs)
        exact ⟨q, rfl, ⟨vs, .inl (.inl sq)⟩, p _ [(.ref q, .tup (D.frzs xs))] H1 (hK ▸ iter_tup (D.frzs_frzs xs)) j2⟩
      · rename_i b xs
        cases e
        refine .inl ⟨S, tm, j, ?_⟩
        rw [hf]
        intro v H1 j1
        obtain ⟨q, rfl⟩ := j1.take.is_lst
        have j2 := j1.frz
        obtain ⟨vs, sq, _, _⟩ := j2.take.itemL
        exact ⟨q, rfl, ⟨vs, .inl (.inl sq)⟩, p _ [(.ref q, .lst false (D.frzs xs))] H1 (hK ▸ iter_list) j2⟩
      · cases e
end
end WF
namespace WF
open PySem PySem.Spec PyProof.Rows L2
def JX (K : PySem.W.Frag) (H : Hp) (p : Addr) (L : List Pr) : Prop :=
  ∃ G fp, GSub G H ∧ Reps K G H L fp ∧ fp.Nodup ∧ (∀ a ∈ fp, G a = none) ∧ G p = none ∧ p ∉ fp
section
variable {K : PySem.W.Frag} {H H' : Hp} {L L' R : List Pr} {x : Pr} {p : Addr} {ds ds' : List D} {vs vs' : List V}
theorem JX.perm (q : L.Perm L') (j : JX K H p L) : JX K H p L' := by
  obtain ⟨G, fp, g, r, n, z, gp, np⟩ := j
  obtain ⟨fp', pp, r'⟩ := r.perm q
  exact ⟨G, fp', g, r', pp.nodup_iff.mp n, fun a h => z a (pp.mem_iff.mpr h), gp, fun m => np (pp.mem_iff.mpr m)⟩
theorem JX.drop (j : JX K H p (x :: L)) : JX K H p L := by
  obtain ⟨G, fp, g, r, n, z, gp, np⟩ := j
  obtain ⟨f1, f2, rfl, r1, r2⟩ := r.uncons
  exact ⟨G, f2, g, r2, (List.nodup_append.mp n).2.1, fun a h => z a (List.mem_append_right _ h), gp, fun m => np (List.mem_append_right _ m)⟩
theorem JX.dropL : ∀ {L1 : List Pr}, JX K H p (L1 ++ L) → JX K H p L
  | [], j => j
  | _ :: _, j => (JX.drop j).dropL
theorem Joint.openL (j : Joint K H ((.ref p, .lst true ds) :: R)) : ∃ vs, H p = some (.lst vs) ∧ vs.length = ds.length ∧ JX K H p (vs.zip ds ++ R) := by
  obtain ⟨G, fp, g, r, n, z⟩ := j
  cases r with
  | @lo p C vs ds f L fp a b e r1 r2 =>
    subst b e
    obtain ⟨n1, n2⟩ := List.nodup_cons.mp n
    refine ⟨_, a, by simp, G, _, g, ?_, n2, fun a m => z a (List.mem_cons_of_mem _ m), z p List.mem_cons_self, n1⟩
    rw [zip_map]
    exact r1.append r2
theorem JX.upd {o : HO} (j : JX K H p L) : JX K (upd H p o) p L := by
  obtain ⟨G, fp, g, r, n, z, gp, np⟩ := j
  have g' : GSub G (L2.upd H p o) := fun a u e => by
    rw [upd_ne (ne_of_none e gp)]
    exact g a u e
  exact ⟨G, fp, g', r.mono .refl fun a u m e => by
    rw [upd_ne (fun q => np (by rw [← q]; exact m))]
    exact e, n, z, gp, np⟩
theorem JX.close (hl : vs'.length = ds'.length) (j : JX K H p (vs'.zip ds' ++ R)) : Joint K (L2.upd H p (.lst vs')) ((.ref p, .lst true ds') :: R) := by
  obtain ⟨G, fp, g, r, n, z, gp, np⟩ := JX.upd (o := .lst vs') j
  obtain ⟨f1, f2, rfl, r1, r2⟩ := r.unappend
  exact ⟨G, p :: (f1 ++ f2), g, .lo upd_same (zip_fst hl) (zip_snd hl) r1 r2, List.nodup_cons.mpr ⟨np, n⟩, fun a m => by
    rcases List.mem_cons.mp m with rfl | m
    · exact gp
    · exact z a m⟩
theorem Joint.app {v : V} {d : D} (j : Joint K H ((.ref p, .lst true ds) :: (v, d) :: R)) : ∃ vs, H p = some (.lst vs) ∧ vs.length = ds.length ∧ Joint K (L2.upd H p (.lst (vs ++ [v]))) ((.ref p, .lst true (ds ++ [d])) :: R) := by
  obtain ⟨vs, h, hl, k⟩ := j.openL
  refine ⟨vs, h, hl, JX.close (by simp [hl]) ?_⟩
  rw [List.zip_append hl, List.append_assoc]
  exact k
end
end WF
namespace WF
open PySem PySem.Spec PyProof.Rows L2
def wipeS (S : S0) : List Nat → S0
  | [] => S
  | v :: vs => (wipeS S vs).set v .un
def backS (A : S0) : S0 → List Nat → S0
  | S, [] => S
  | S, v :: vs => backS A (S.set v (A.getD v .un)) vs
def tstM : Option EM → S0 → Option (Bool × S0)
  | none, S => some (true, S)
  | some f, S => match f S with
    | some (.ok (.bl b), S') => some (b, S')
    | _ => none
def compL (own : List Nat) (g : GM) (ft : Option EM) (fe : EM) : List D → S0 → List D → Option (List D × S0)
  | [], S, acc => some (acc, S)
  | d :: ds, S, acc => match g d S with
    | none => none
    | some S1 => match tstM ft S1 with
      | some (true, S2) => match fe S2 with
        | some (.ok y, S3) => if acc.length < 1000000 then compL own g ft fe ds (wipeS S3 own) (acc ++ [y]) else none
        | _ => none
      | some (false, S2) => compL own g ft fe ds (wipeS S2 own) acc
      | none => none
def restS (lent : List (Nat × D)) (S : S0) : S0 := match lent with
  | [] => S
  | x :: r => restS r (S.set x.1 x.2)
def compM (own : List Nat) (fi : IM) (g : GM) (ft : Option EM) (fe : EM) : EM := fun S => match fi S with
  | some (.ok ds lent, S1) => if own.all (fun k => decide (k < S1.length)) then match compL own g ft fe ds (wipeS S1 own) [] with
      | some (acc, S2) => some (.ok (.lst true acc), restS lent (backS S1 S2 own))
      | none => none
    else none
  | some (.ex x, S1) => some (.ex x, S1)
  | none => none
def Cfg.blk (c : Cfg) (PV : List (Option (Option V))) : Cfg := { c with PV := PV, W := fun _ _ _ _ => False }
def TTs (c : Cfg) : Option EM → TT
  | none => tYes
  | some f => Tt c f
section
variable {K : PySem.W.Frag} {H : Hp} {R : List Pr}
theorem wipeS_len (S : S0) : ∀ vs, (wipeS S vs).length = S.length
  | [] => rfl
  | v :: vs => by unfold wipeS; rw [List.length_set, wipeS_len S vs]
theorem backS_len (A : S0) : ∀ (S : S0) (vs : List Nat), (backS A S vs).length = S.length
  | S, [] => rfl
  | S, v :: vs => by unfold backS; rw [backS_len A, List.length_set]
theorem wipeS_out {S : S0} {i : Nat} : ∀ {vs : List Nat}, i ∉ vs → (wipeS S vs)[i]? = S[i]?
  | [], _ => rfl
  | v :: vs, h => by
    unfold wipeS
    rw [List.getElem?_set_ne (fun e => h (by simp [e]))]
    exact wipeS_out fun m => h (List.mem_cons_of_mem _ m)
theorem wipeS_in {S : S0} {i : Nat} {d : D} : ∀ {vs : List Nat}, i ∈ vs → (wipeS S vs)[i]? = some d → d = .un
  | v :: vs, h, e => by
    unfold wipeS at e
    by_cases hv : v = i
    · subst hv
      by_cases hl : v < (wipeS S vs).length
      · rw [List.getElem?_set_self hl] at e; exact (Option.some.inj e).symm
      · rw [List.getElem?_eq_none (by rw [List.length_set]; omega)] at e; cases e
    · rw [List.getElem?_set_ne hv] at e
      rcases List.mem_cons.mp h with q | q
      · exact (hv q.symm).elim
      · exact wipeS_in q e
theorem backS_out {A : S0} {i : Nat} : ∀ {vs : List Nat} {S : S0}, i ∉ vs → (backS A S vs)[i]? = S[i]?
  | [], _, _ => rfl
  | v :: vs, S, h => by
    unfold backS
    rw [backS_out (fun m => h (List.mem_cons_of_mem _ m)), List.getElem?_set_ne (fun e => h (by simp [e]))]
theorem backS_in {A : S0} {i : Nat} : ∀ {vs : List Nat} {S : S0}, i ∈ vs → i < S.length → (backS A S vs)[i]? = some (A.getD i .un)
  | v :: vs, S, h, hl => by
    unfold backS
    by_cases hm : i ∈ vs
    · exact backS_in hm (by rw [List.length_set]; exact hl)
    · have e : i = v := by
        rcases List.mem_cons.mp h with q | q
        · exact q
        · exact (hm q).elim
      subst e
      rw [backS_out hm, List.getElem?_set_self hl]
def svOf (σ : L2.St) (S : S0) (own : List Nat) : List Pr := own.map fun v => ((σ.getD v none).getD .non, S.getD v .un)
theorem slot_any : ∀ {σ : L2.St} {S : S0} {i : Nat}, i < S.length → σ.length = S.length → ∃ Z, (slotL σ S).Perm (((σ.getD i none).getD .non, S.getD i .un) :: Z) ∧ ∀ o d', (slotL (σ.set i o) (S.set i d')).Perm ((o.getD .non, d') :: Z)
  | o :: σ, e :: S, 0, _, _ => ⟨slotL σ S, .refl _, fun _ _ => .refl _⟩
  | o :: σ, e :: S, i + 1, hi, hl => by
    obtain ⟨Z, p1, p3⟩ := slot_any (σ := σ) (S := S) (i := i) (by simpa using hi) (by simpa using hl)
    have sw : ∀ {x y : Pr} {A : List Pr}, A.Perm (x :: Z) → (y :: A).Perm (x :: y :: Z) := fun p => (List.Perm.cons _ p).trans (List.Perm.swap _ _ _)
    refine ⟨(o.getD .non, e) :: Z, ?_, fun v' d' => sw (p3 v' d')⟩
    have q := sw (y := (o.getD .non, e)) p1
    simpa [slotL, List.getD_cons_succ] using q
  | [], [], _, h, _ => by simp at h
  | [], _ :: _, _, _, h => by simp at h
  | _ :: _, [], _, h, _ => by simp at h
theorem wipe_joint : ∀ {own : List Nat} {σ : L2.St} {S : S0} {R : List Pr}, own.Nodup → (∀ k ∈ own, k < S.length) → σ.length = S.length → Joint K H (slotL σ S ++ R) → Joint K H (slotL (wipe σ own) (wipeS S own) ++ (svOf σ S own ++ R))
  | [], σ, S, R, _, _, _, j => j
  | v :: vs, σ, S, R, hn, hk, hl, j => by
    have ih := wipe_joint (R := R) (List.nodup_cons.mp hn).2 (fun k m => hk k (List.mem_cons_of_mem _ m)) hl j
    have hlen : (wipe σ vs).length = (wipeS S vs).length := by rw [wipe_length, wipeS_len]; exact hl
    obtain ⟨Z, p1, p2⟩ := slot_any (σ := wipe σ vs) (S := wipeS S vs) (i := v) (by rw [wipeS_len]; exact hk v List.mem_cons_self) hlen
    have hv : v ∉ vs := (List.nodup_cons.mp hn).1
    have e1 : (wipe σ vs).getD v none = σ.getD v none := by rw [List.getD_eq_getElem?_getD, List.getD_eq_getElem?_getD, wipe_out hv]
    have e2 : (wipeS S vs).getD v .un = S.getD v .un := by rw [List.getD_eq_getElem?_getD, List.getD_eq_getElem?_getD, wipeS_out hv]
    rw [e1, e2] at p1
    have k1 := ih.perm (List.Perm.append_right _ p1)
    have k2 : Joint K H ((V.non, D.un) :: (Z ++ (svOf σ S (v :: vs) ++ R))) := by
      refine Joint.un ?_
      refine k1.perm ?_
      show (((σ.getD v none).getD .non, S.getD v .un) :: (Z ++ (svOf σ S vs ++ R))).Perm (Z ++ (((σ.getD v none).getD .non, S.getD v .un) :: (svOf σ S vs ++ R)))
      exact perm_take.symm
    exact k2.perm (List.Perm.append_right _ (p2 none .un).symm)
theorem back_joint : ∀ {own : List Nat} {σ : L2.St} {A S : S0} {R : List Pr}, own.Nodup → (∀ k ∈ own, k < S.length) → σ.length = S.length → Joint K H (slotL (wipe σ own) S ++ (svOf σ A own ++ R)) → Joint K H (slotL σ (backS A S own) ++ R)
  | [], σ, A, S, R, _, _, _, j => j
  | v :: vs, σ, A, S, R, hn, hk, hl, j => by
    have hv : v ∉ vs := (List.nodup_cons.mp hn).1
    have hlen : (wipe σ vs).length = S.length := by rw [wipe_length]; exact hl
    obtain ⟨Z, p1, p2⟩ := slot_any (σ := wipe σ vs) (S := S) (i := v) (hk v List.mem_cons_self) hlen
    have e1 : (wipe σ vs)[v]? = σ[v]? := wipe_out hv
    have q1 : (slotL ((wipe σ vs).set v none) S).Perm ((V.non, S.getD v .un) :: Z) := by
      have := p2 none (S.getD v .un)
      rwa [show S.set v (S.getD v .un) = S by
        rw [List.getD_eq_getElem?_getD, List.getElem?_eq_getElem (hk v List.mem_cons_self)]
        exact List.set_getElem_self _] at this
    have q2 : (slotL (wipe σ vs) (S.set v (A.getD v .un))).Perm (((σ.getD v none).getD .non, A.getD v .un) :: Z) := by
      have := p2 (σ.getD v none) (A.getD v .un)
      rwa [show (wipe σ vs).set v (σ.getD v none) = wipe σ vs by
        have hvl : v < (wipe σ vs).length := by rw [hlen]; exact hk v List.mem_cons_self
        have : σ.getD v none = (wipe σ vs)[v] := by
          rw [List.getD_eq_getElem?_getD, ← e1, List.getElem?_eq_getElem hvl]; rfl
        rw [this]
        exact List.set_getElem_self _] at this
    have k1 : Joint K H ((V.non, S.getD v .un) :: (Z ++ (svOf σ A (v :: vs) ++ R))) := j.perm (List.Perm.append_right _ q1)
    have k2 : Joint K H (((σ.getD v none).getD .non, A.getD v .un) :: (Z ++ (svOf σ A vs ++ R))) := k1.drop.perm perm_take
    have k3 := k2.perm (List.Perm.append_right _ q2.symm)
    exact back_joint (own := vs) (A := A) (S := S.set v (A.getD v .un)) (List.nodup_cons.mp hn).2 (fun k m => by rw [List.length_set]; exact hk k (List.mem_cons_of_mem _ m)) (by rw [List.length_set]; exact hl) k3
def pinB (σ : L2.St) : List Nat → List (Option (Option V))
  | [] => σ.map some
  | v :: vs => (pinB σ vs).set v none
theorem pinB_len (σ : L2.St) : ∀ vs, (pinB σ vs).length = σ.length
  | [] => by simp [pinB]
  | v :: vs => by unfold pinB; rw [List.length_set, pinB_len σ vs]
theorem pinB_in {σ : L2.St} {i : Nat} : ∀ {vs : List Nat}, i ∈ vs → i < σ.length → (pinB σ vs)[i]? = some none
  | v :: vs, h, hl => by
    unfold pinB
    by_cases hv : v = i
    · subst hv; exact List.getElem?_set_self (by rw [pinB_len]; exact hl)
    · rw [List.getElem?_set_ne hv]
      rcases List.mem_cons.mp h with q | q
      · exact (hv q.symm).elim
      · exact pinB_in q hl
theorem pinB_out {σ : L2.St} {i : Nat} : ∀ {vs : List Nat}, i ∉ vs → (pinB σ vs)[i]? = σ[i]?.map some
  | [], _ => by simp [pinB]
  | v :: vs, h => by
    unfold pinB
    rw [List.getElem?_set_ne (fun e => h (by simp [e]))]
    exact pinB_out fun m => h (List.mem_cons_of_mem _ m)
theorem wipe_in {σ : L2.St} {i : Nat} : ∀ {vs : List Nat}, i ∈ vs → i < σ.length → (wipe σ vs)[i]? = some none
  | v :: vs, h, hl => by
    unfold wipe
    by_cases hv : v = i
    · subst hv; exact List.getElem?_set_self (by rw [wipe_length]; exact hl)
    · rw [List.getElem?_set_ne hv]
      rcases List.mem_cons.mp h with q | q
      · exact (hv q.symm).elim
      · exact wipe_in q hl
end
section
variable {c : Cfg} {X : Cx} {S : S0} {tm tm0 : List Pr} {σ σ2 : L2.St} {H : Hp} {own : List Nat}
theorem SJ.wipeB {PV : List (Option (Option V))} (j : SJ (c.blk PV) S tm σ2 H) (hn : own.Nodup) (hk : ∀ k ∈ own, k < S.length) (hp : PV = pinB σ own) : wipe σ2 own = wipe σ own ∧ SJ (c.blk PV) (wipeS S own) tm (wipe σ own) H := by
  have hl : σ2.length = σ.length := by
    have := j.lp
    rw [show (c.blk PV).PV = PV from rfl, hp, pinB_len] at this
    exact this.symm
  have ew : wipe σ2 own = wipe σ own := by
    refine List.ext_getElem? fun i => ?_
    by_cases hi : i ∈ own
    · by_cases hlt : i < σ.length
      · rw [wipe_in hi hlt, wipe_in hi (by omega)]
      · rw [List.getElem?_eq_none (by rw [wipe_length]; omega), List.getElem?_eq_none (by rw [wipe_length]; omega)]
    · rw [wipe_out hi, wipe_out hi]
      by_cases hlt : i < σ.length
      · have h := j.pv i (σ[i]) (by
          rw [show (c.blk PV).PV = PV from rfl, hp, pinB_out hi, List.getElem?_eq_getElem hlt]; rfl)
        rw [h, List.getElem?_eq_getElem hlt]
      · rw [List.getElem?_eq_none (by omega), List.getElem?_eq_none (by omega)]
  refine ⟨ew, ?_⟩
  rw [← ew]
  refine ⟨by rw [wipe_length, wipeS_len]; exact j.len, fun i d h hu => ?_, fun i o h => ?_, by rw [wipe_length]; exact j.lp, ?_⟩
  · by_cases hi : i ∈ own
    · exact (hu (wipeS_in hi h)).elim
    · rw [wipeS_out hi] at h
      rw [wipe_out hi]
      exact j.set i d h hu
  · have hi : i ∉ own := fun hi => by
      have h : PV[i]? = some (some o) := h
      by_cases hlt : i < σ.length
      · rw [hp, pinB_in hi hlt] at h; cases h
      · rw [hp, List.getElem?_eq_none (by rw [pinB_len]; omega)] at h; cases h
    rw [wipe_out hi]
    exact j.pv i o h
  · have k := wipe_joint hn hk j.len j.jt
    exact (k.perm perm_sw).dropL
theorem lent_ok : ∀ {L : List (Nat × D)} {SB : S0} {R : List Pr}, LentOk σ L → SL c SB σ → Joint c.K H (slotL σ SB ++ (lentL σ L ++ R)) → SL c (restS L SB) σ ∧ Joint c.K H (slotL σ (restS L SB) ++ R)
  | [], SB, R, _, l, j => ⟨l, j⟩
  | (i, d) :: r, SB, R, lo, l, j => by
    obtain ⟨v, ev⟩ := lo (i, d) List.mem_cons_self
    have hlt : i < SB.length := by rw [← l.len]; exact (List.getElem?_eq_some_iff.mp ev).1
    obtain ⟨Z, p1, p2, _⟩ := slot_get ev (List.getElem?_eq_getElem hlt) l.len
    have ee : (σ.getD i none).getD .non = v := by rw [List.getD_eq_getElem?_getD, ev]; rfl
    have k1 : Joint c.K H (Z ++ (((v, d) :: lentL σ r) ++ R)) := by
      have q := j.perm (List.Perm.append_right _ p1)
      have q2 : Joint c.K H (Z ++ (lentL σ ((i, d) :: r) ++ R)) := Joint.drop q
      rwa [show lentL σ ((i, d) :: r) = (v, d) :: lentL σ r by unfold lentL; rw [List.map_cons, ee]] at q2
    have k2 : Joint c.K H (slotL σ (SB.set i d) ++ (lentL σ r ++ R)) := (k1.perm perm_take).perm (List.Perm.append_right _ (p2 d).symm)
    exact lent_ok (L := r) (SB := SB.set i d) (fun x m => lo x (List.mem_cons_of_mem _ m)) (l.upd ev) k2
theorem lc_read {fi : IM} {g : GM} {ft : Option EM} {fe : EM} {Q : VK} (hn : own.Nodup) (hpv : ∀ k ∈ own, (pinB σ own)[k]? = some none) (h : T c (compM own fi g ft fe) σ H Q) :
    tLc (TIm c fi) (UG (c.blk (pinB σ own)) g) (TTs (c.blk (pinB σ own)) ft) (T (c.blk (pinB σ own)) fe) own σ H Q := by
  obtain ⟨S, tm, j, p⟩ := h
  refine ⟨S, tm, j, ?_⟩
  unfold compM at p
  cases hf : fi S with
  | none => rw [hf] at p; exact p.elim
  | some o =>
    obtain ⟨o, S1⟩ := o
    rw [hf] at p
    cases o with
    | ex x => exact p
    | ok ds lent =>
      simp only at p
      split at p
      · rename_i hall
        have hk : ∀ k ∈ own, k < S1.length := fun k m => by
          have := List.all_eq_true.mp hall k m
          simpa using this
        cases hcl : compL own g ft fe ds (wipeS S1 own) [] with
        | none => rw [hcl] at p; exact p.elim
        | some r =>
          obtain ⟨accF, SF⟩ := r
          rw [hcl] at p
          intro lok J hold0 H1 J1 j1 DA hD
          generalize hhold : hold0 ++ lentL σ lent = hold at J1
          have j1 : SJ c S1 (hold ++ tm) σ H1 := by rw [← hhold, List.append_assoc]; exact j1
          let c' := c.blk (pinB σ own)
          let sv := svOf σ S1 own
          have j0 : SJ c' (wipeS S1 own) ((.ref DA, .lst true []) :: (hold ++ (sv ++ tm))) (wipe σ own) (upd H1 DA (.lst [])) := by
            refine ⟨by rw [wipe_length, wipeS_len]; exact j1.len, fun i d h hu => ?_, fun i o h => ?_, by rw [wipe_length]; exact pinB_len σ own, ?_⟩
            · by_cases hi : i ∈ own
              · exact (hu (wipeS_in hi h)).elim
              · rw [wipeS_out hi] at h
                rw [wipe_out hi]
                exact j1.set i d h hu
            · have hi : i ∉ own := fun hi => by
                have h : (pinB σ own)[i]? = some (some o) := h
                rw [hpv i hi] at h; cases h
              rw [wipe_out hi]
              have h : (pinB σ own)[i]? = some (some o) := h
              rw [pinB_out hi, Option.map_eq_some_iff] at h
              obtain ⟨a, ha, e⟩ := h
              cases e
              exact ha
            · have k := wipe_joint hn hk j1.len j1.jt
              have k2 : Joint c.K H1 (slotL (wipe σ own) (wipeS S1 own) ++ (hold ++ (sv ++ tm) ++ c.rs)) := k.perm (List.Perm.append_left _ (by
                rw [List.append_assoc, List.append_assoc hold, List.append_assoc]
                exact perm_sw))
              have k3 := Joint.lst (vs := []) (ds := []) (R := slotL (wipe σ own) (wipeS S1 own) ++ (hold ++ (sv ++ tm) ++ c.rs)) rfl k2 hD
              exact k3.perm perm_take.symm
          refine ⟨fun i m H => m = ds.length - i ∧ i ≤ ds.length ∧ ∃ S acc, SJ c' S ((.ref DA, .lst true acc) :: (hold ++ (sv ++ tm))) (wipe σ own) H ∧ compL own g ft fe (ds.drop i) S acc = some (accF, SF), ⟨_, rfl, Nat.zero_le _, _, _, j0, hcl⟩, ?_⟩
          rintro i m H2 ⟨rfl, hi2, S2, acc, j2, p2⟩
          have hkS : ∀ {S : S0} {tm : List Pr} {σ2 : L2.St} {H : Hp}, SJ c' S tm σ2 H → ∀ k ∈ own, k < S.length := fun {S tm σ2 H} q k m => by
            have e1 := q.lp
            rw [show c'.PV = pinB σ own from rfl, pinB_len] at e1
            rw [← q.len, ← e1, j1.len]
            exact hk k m
          have jh : Joint c.K H2 (hold ++ (slotL (wipe σ own) S2 ++ ((.ref DA, .lst true acc) :: (sv ++ tm) ++ c.rs))) := j2.jt.perm (by
            show (slotL (wipe σ own) S2 ++ ((V.ref DA, D.lst true acc) :: (hold ++ (sv ++ tm)) ++ c.rs)).Perm _
            have e1 : ((V.ref DA, D.lst true acc) :: (hold ++ (sv ++ tm)) ++ c.rs).Perm (hold ++ ((V.ref DA, D.lst true acc) :: (sv ++ tm) ++ c.rs)) := by
              rw [List.cons_append, List.cons_append, List.append_assoc]
              exact perm_take.symm
            exact (List.Perm.append_left _ e1).trans perm_sw)
          by_cases hlt : i < ds.length
          · have hd : ds[i]? = some ds[i] := List.getElem?_eq_getElem hlt
            rw [List.drop_eq_getElem_cons hlt] at p2
            refine .inr ⟨J1.go i H2 _ hlt jh, fun H' => ∃ S acc, SJ c' S ((.ref DA, .lst true acc) :: (hold ++ (sv ++ tm))) (wipe σ own) H' ∧ compL own g ft fe (ds.drop (i + 1)) S acc = some (accF, SF), fun H' ⟨S3, acc3, j3, p3⟩ => ⟨_, (by omega : ds.length - (i + 1) < ds.length - i), rfl, hlt, S3, acc3, j3, p3⟩, fun x H3 hy => ?_⟩
            have k := J1.yld i H2 _ _ _ _ hd jh hy
            refine ⟨ds[i], S2, (.ref DA, .lst true acc) :: (hold ++ (sv ++ tm)), j2.put (k.perm (List.Perm.cons _ ?_)), ?_⟩
            · refine perm_sw.trans (List.Perm.append_left _ ?_)
              show (hold ++ ((V.ref DA, D.lst true acc) :: ((sv ++ tm) ++ c.rs))).Perm ((V.ref DA, D.lst true acc) :: ((hold ++ (sv ++ tm)) ++ c.rs))
              rw [List.append_assoc hold]
              exact perm_take
            unfold compL at p2
            cases hg : g ds[i] S2 with
            | none => rw [hg] at p2; cases p2
            | some S3 =>
              rw [hg] at p2
              intro σ4 H4 j4
              refine ⟨(j4.wipeB hn (hkS j4) rfl).1, ?_⟩
              simp only at p2
              have after : ∀ {S5 : S0} {H5 : Hp} {acc' : List D}, SJ c' S5 ((.ref DA, .lst true acc') :: (hold ++ (sv ++ tm))) σ4 H5 → compL own g ft fe (ds.drop (i + 1)) (wipeS S5 own) acc' = some (accF, SF) → ∃ S acc, SJ c' S ((.ref DA, .lst true acc) :: (hold ++ (sv ++ tm))) (wipe σ own) H5 ∧ compL own g ft fe (ds.drop (i + 1)) S acc = some (accF, SF) :=
                fun {S5 H5 acc'} q e => ⟨wipeS S5 own, acc', (q.wipeB hn (hkS q) rfl).2, e⟩
              have elem : ∀ {S5 : S0} {H5 : Hp}, SJ c' S5 ((.ref DA, .lst true acc) :: (hold ++ (sv ++ tm))) σ4 H5 → (match fe S5 with
                  | some (.ok y, S6) => if acc.length < 1000000 then compL own g ft fe (ds.drop (i + 1)) (wipeS S6 own) (acc ++ [y]) else none
                  | _ => none) = some (accF, SF) → T c' fe σ4 H5 (fun y H6 => ∃ acc', H6 DA = some (.lst acc') ∧ acc'.length < sizeLine ∧ ∃ S acc, SJ c' S ((.ref DA, .lst true acc) :: (hold ++ (sv ++ tm))) (wipe σ own) (upd H6 DA (.lst (acc' ++ [y]))) ∧ compL own g ft fe (ds.drop (i + 1)) S acc = some (accF, SF)) := fun {S5 H5} q e => by
                refine ⟨S5, _, q, ?_⟩
                cases hfe : fe S5 with
                | none => rw [hfe] at e; cases e
                | some o =>
                  obtain ⟨o, S6⟩ := o
                  rw [hfe] at e
                  cases o with
                  | ex x => cases e
                  | ok y =>
                    simp only at e
                    split at e
                    · rename_i hsz
                      intro vy H6 j6
                      have j6' : Joint c.K H6 ((.ref DA, .lst true acc) :: ((vy, y) :: (slotL σ4 S6 ++ ((hold ++ (sv ++ tm)) ++ c.rs)))) := j6.take.perm ((List.Perm.cons _ perm_take).trans (List.Perm.swap _ _ _))
                      obtain ⟨vs, hD6, hl6, k6⟩ := j6'.app
                      refine ⟨vs, hD6, Nat.lt_trans (by omega : vs.length < 1000000) (by decide), ?_⟩
                      exact after (j6.drop.drop.put k6) e
                    · cases e
              cases hts : tstM ft S3 with
              | none => rw [hts] at p2; cases p2
              | some r =>
                obtain ⟨b, S5⟩ := r
                rw [hts] at p2
                cases ft with
                | none =>
                  simp only [tstM, Option.some.injEq, Prod.mk.injEq] at hts
                  obtain ⟨rfl, rfl⟩ := hts
                  simp only [TTs, tYes, if_true]
                  exact elem j4 p2
                | some f =>
                  simp only [tstM] at hts
                  refine ⟨S3, _, j4, ?_⟩
                  cases hfs : f S3 with
                  | none => rw [hfs] at hts; cases hts
                  | some o =>
                    rw [hfs] at hts
                    split at hts
                    · rename_i b' S5' heq
                      cases heq
                      cases hts
                      intro v H5 j5
                      refine ⟨b, j5.take.is_bl, ?_⟩
                      cases b with
                      | true =>
                        rw [if_pos rfl]
                        exact elem j5.drop p2
                      | false =>
                        rw [if_neg Bool.false_ne_true]
                        exact after j5.drop p2
                    · cases hts
          · have e : i = ds.length := by omega
            subst e
            rw [List.drop_length] at p2
            simp only [compL, Option.some.injEq, Prod.mk.injEq] at p2
            obtain ⟨rfl, rfl⟩ := p2
            refine .inl ⟨J1.stop H2 _ jh, p _ _ ?_⟩
            have hls : S1.length = S2.length := by
              have e1 := j2.lp
              rw [show c'.PV = pinB σ own from rfl, pinB_len] at e1
              rw [← j1.len, e1]
              exact j2.len
            have lst : ∀ {L : List (Nat × D)} {SB : S0} {R : List Pr}, LentOk σ L → SL c SB σ → Joint c.K H2 (slotL σ SB ++ (lentL σ L ++ R)) → SL c (restS L SB) σ ∧ Joint c.K H2 (slotL σ (restS L SB) ++ R) := lent_ok
            have sb : SL c (backS S1 S2 own) σ := by
              refine ⟨by rw [backS_len, ← hls]; exact j1.len, fun i d h hu => ?_, j1.pv, j1.lp⟩
              by_cases hi : i ∈ own
              · rw [backS_in hi (hls ▸ hk i hi)] at h
                rw [List.getD_eq_getElem?_getD, List.getElem?_eq_getElem (hk i hi)] at h
                exact j1.set i _ (List.getElem?_eq_getElem (hk i hi)) (by rw [Option.getD_some] at h; rw [Option.some.inj h]; exact hu)
              · rw [backS_out hi] at h
                obtain ⟨v, hv⟩ := j2.set i d h hu
                rw [wipe_out hi] at hv
                exact ⟨v, hv⟩
            have kb : Joint c.K H2 (slotL σ (backS S1 S2 own) ++ (lentL σ lent ++ ((.ref DA, .lst true acc) :: tm ++ c.rs))) := by
              refine back_joint hn (fun k m => hls ▸ hk k m) (by rw [← hls]; exact j1.len) ?_
              have k1 : Joint c.K H2 (hold ++ (slotL (wipe σ own) S2 ++ (sv ++ ((.ref DA, .lst true acc) :: tm ++ c.rs)))) := jh.perm (List.Perm.append_left _ (List.Perm.append_left _ (by
                show ((V.ref DA, D.lst true acc) :: ((sv ++ tm) ++ c.rs)).Perm (sv ++ ((V.ref DA, D.lst true acc) :: (tm ++ c.rs)))
                rw [List.append_assoc]
                exact perm_take.symm)))
              rw [← hhold, List.append_assoc] at k1
              exact (k1.dropL).perm (perm_sw.trans (List.Perm.append_left _ perm_sw))
            obtain ⟨s1, k2⟩ := lst lok sb kb
            exact s1.sj k2
      · exact p.elim
theorem own_pv {N : List Str} {sc scope : Scope} {ow : List (Str × Nat)} (ok : BlkOk N sc scope ow) (hl : σ.length = N.length) : ∀ k ∈ ow.map (·.2), (pinB σ (ow.map (·.2)))[k]? = some none := fun k m => pinB_in m (by
  obtain ⟨q, hq, rfl⟩ := List.mem_map.mp m
  rw [hl]
  exact (List.getElem?_eq_some_iff.mp (ok.ix q hq)).1)
theorem w_lc {elt tg iter : Expr} {ifs : List Expr} {scope : Scope} {ow : List (Str × Nat)} {pos : Pos} {fi : IM} {g : GM} {ft : Option EM} {fe : EM} (hc : X.calm = true) (hN : X.N.Nodup) (hi : PI X tg iter (TIm c fi)) (ok : BlkOk X.N X.env.scope scope ow) (hn : (ow.map (·.2)).Nodup)
    (hg : ∀ PV, (∀ k ∈ ow.map (·.2), PV[k]? = some none) → ∀ (s : Shared) (H : Hp) (C : Addr) (cl : List (Str × Addr)) (fp : List Addr), PG (X.blk s H scope (compEnvC scope cl C X.env) fp) tg (UG (c.blk PV) g))
    (ht : ∀ PV, (∀ k ∈ ow.map (·.2), PV[k]? = some none) → ∀ (s : Shared) (H : Hp) (C : Addr) (cl : List (Str × Addr)) (fp : List Addr), PTs (X.blk s H scope (compEnvC scope cl C X.env) fp) ifs (TTs (c.blk PV) ft))
    (he : ∀ PV, (∀ k ∈ ow.map (·.2), PV[k]? = some none) → ∀ (s : Shared) (H : Hp) (C : Addr) (cl : List (Str × Addr)) (fp : List Addr), PE (X.blk s H scope (compEnvC scope cl C X.env) fp) elt (T (c.blk PV) fe))
    (hs : ∀ x, foldedSetIterable iter X.env x = pure x := by intro _; rfl) :
    PE X (.ListComp elt [⟨tg, iter, ifs, 0⟩] scope pos) (T c (compM (ow.map (·.2)) fi g ft fe)) := by
  exact ⟨fun pins s σ H Q I h => (pe_lc hc hN hi ok (hg _ (own_pv ok I.len)) (ht _ (own_pv ok I.len)) (he _ (own_pv ok I.len)) hs).run pins s σ H Q I (lc_read hn (own_pv ok I.len) h)⟩
end
end WF
namespace WF
open PySem PySem.Spec PyProof.Rows L2
def Op2R (K : PySem.W.Frag) (r : R2) (op : D → D → Option D) : Prop := ∀ H (R : List Pr) v1 v2 d1 d2 d (Q : VK), op d1 d2 = some d → Joint K H ((v2, d2) :: (v1, d1) :: R) → (∀ v, Joint K H ((v, d) :: (v2, d2) :: (v1, d1) :: R) → Q v H) → r v1 v2 H Q
def CallRO (K : PySem.W.Frag) (r : List V → Hp → VK → Prop) (op : List D → Option D) : Prop := ∀ H (R : List Pr) vs ds d (Q : VK), vs.length = ds.length → op ds = some d → Joint K H (vs.zip ds ++ R) → (∀ v, Joint K H ((v, d) :: (vs.zip ds ++ R)) → Q v H) → r vs H Q
def addD : D → D → Option D
  | .int a, .int b => some (.int (a + b))
  | .lst _ xs, .lst _ ys => if xs.length + ys.length ≤ 1000000 then some (.lst true (xs ++ ys)) else none
  | .tup xs, .tup ys => if xs.length + ys.length ≤ 1000000 then some (.tup (xs ++ ys)) else none
  | .str a, .str b => if a.length + b.length ≤ 1000000 then some (.str (a ++ b)) else none
  | _, _ => none
def rAddA (K : PySem.W.Frag) : R2 := fun x y H Q => rI0 (fun i j => .int (i + j)) x y H Q ∨ rCat x y H Q ∨ rCatA K x y H Q ∨ (∃ i j, x = .str i ∧ y = .str j ∧ i.length + j.length ≤ sizeLine ∧ Q (.str (i ++ j)) H)
theorem op_addA {X : Cx} : OpR X (binaryOp .Add) (rAddA X.K) := op_add.or (op_cat.or (op_catA.or op_add_str))
section
variable {K : PySem.W.Frag}
theorem big_le {n : Nat} (h : n ≤ 1000000) : n ≤ sizeLine := Nat.le_trans h (by decide)
theorem ju_int {H : Hp} {R : List Pr} {i : Int} (j : Joint K H R) : Joint K H ((.int i, .int i) :: R) := let ⟨G, fp, g, r, n, z⟩ := j; ⟨G, fp, g, .int r, n, z⟩
theorem ju_bl {H : Hp} {R : List Pr} {i : Bool} (j : Joint K H R) : Joint K H ((.bl i, .bl i) :: R) := let ⟨G, fp, g, r, n, z⟩ := j; ⟨G, fp, g, .bl r, n, z⟩
theorem ju_str {H : Hp} {R : List Pr} {i : Str} (j : Joint K H R) : Joint K H ((.str i, .str i) :: R) := let ⟨G, fp, g, r, n, z⟩ := j; ⟨G, fp, g, .str r, n, z⟩
theorem ju_non {H : Hp} {R : List Pr} (j : Joint K H R) : Joint K H ((.non, .non) :: R) := let ⟨G, fp, g, r, n, z⟩ := j; ⟨G, fp, g, .non r, n, z⟩
theorem Joint.sw {H : Hp} {R : List Pr} {x y : Pr} (j : Joint K H (x :: y :: R)) : Joint K H (y :: x :: R) := j.perm (List.Perm.swap _ _ _)
theorem zip_app {vs vs' : List V} {ds ds' : List D} {R : List Pr} (h : vs.length = ds.length) : (vs ++ vs').zip (ds ++ ds') ++ R = vs.zip ds ++ (vs'.zip ds' ++ R) := by rw [List.zip_append h, List.append_assoc]
theorem s_add : Op2 K (rAddA K) addD := by
  intro H R v1 v2 d1 d2 d Q e j q
  unfold addD at e
  split at e
  · cases e
    have e2 := j.is_int
    have e1 := j.sw.is_int
    exact .inl ⟨_, _, e1, e2, q _ _ (ju_int j.drop.drop)⟩
  · split at e
    · rename_i hsz
      cases e
      obtain ⟨b, rfl⟩ := j.is_lst
      obtain ⟨a, rfl⟩ := j.sw.is_lst
      obtain ⟨ws, hb, lb, kb⟩ := j.unlst
      have kb2 := kb.perm perm_take
      obtain ⟨us, ha, la, ka⟩ := kb2.unlst
      refine .inr (.inl ⟨a, b, us, ws, rfl, rfl, ha, hb, big_le (by omega), fun p hp => q _ _ (Joint.lst (by simp [la, lb]) ?_ hp)⟩)
      rw [zip_app la]
      exact ka
    · cases e
  · split at e
    · rename_i xs ys hsz
      cases e
      obtain ⟨b, rfl⟩ := j.is_tup
      obtain ⟨a, rfl⟩ := j.sw.is_tup
      obtain ⟨ws, hb, lb, kb⟩ := j.untup
      have kb2 := kb.perm perm_take
      obtain ⟨us, ha, la, ka⟩ := kb2.untup
      refine .inr (.inr (.inl ⟨a, b, us, ws, rfl, rfl, .inl (.inl ha), .inl (.inl hb), big_le (by omega), fun h0 => q _ _ ?_, fun h0 h1 => q _ _ ?_, fun h0 h1 p hp => q _ _ (Joint.tup (by simp [la, lb]) ?_ hp)⟩))
      · have : xs = [] := by cases xs with | nil => rfl | cons _ _ => rw [h0] at la; simp at la
        rw [this, List.nil_append]
        exact j.sw.drop
      · have : ys = [] := by cases ys with | nil => rfl | cons _ _ => rw [h1] at lb; simp at lb
        rw [this, List.append_nil]
        exact j.drop
      · rw [zip_app la]
        exact ka
    · cases e
  · split at e
    · cases e
      have e2 := j.is_str
      have e1 := j.sw.is_str
      exact .inr (.inr (.inr ⟨_, _, e1, e2, big_le (by assumption), q _ _ (ju_str j.drop.drop)⟩))
    · cases e
  · cases e
def intD (C : Int → Int → Bool) (g : Int → Int → D) : D → D → Option D
  | .int a, .int b => if C a b then some (g a b) else none
  | _, _ => none
theorem s_int {C : Int → Int → Bool} {C' : Int → Int → Prop} {g : Int → Int → D} {g' : Int → Int → V} (hC : ∀ a b, C a b = true → C' a b) (hg : ∀ H R a b, Joint K H R → Joint K H ((g' a b, g a b) :: R)) : Op2 K (rI C' g') (intD C g) := by
  intro H R v1 v2 d1 d2 d Q e j q
  unfold intD at e
  split at e
  · split at e
    · cases e
      exact ⟨_, _, j.sw.is_int, j.is_int, hC _ _ (by assumption), q _ _ (hg _ _ _ _ j.drop.drop)⟩
    · cases e
  · cases e
theorem s_int0 {g : Int → Int → D} {g' : Int → Int → V} (hg : ∀ H R a b, Joint K H R → Joint K H ((g' a b, g a b) :: R)) : Op2 K (rI0 g') (intD (fun _ _ => true) g) := by
  intro H R v1 v2 d1 d2 d Q e j q
  unfold intD at e
  split at e
  · simp only [if_true] at e
    cases e
    exact ⟨_, _, j.sw.is_int, j.is_int, q _ _ (hg _ _ _ _ j.drop.drop)⟩
  · cases e
abbrev subD := intD (fun _ _ => true) fun a b => .int (a - b)
theorem s_sub : Op2 K (rI0 fun i j => .int (i - j)) subD := s_int0 fun _ _ _ _ j => ju_int j
theorem r_int0 {g : Int → Int → D} {g' : Int → Int → V} (hg : ∀ H R a b, Joint K H R → Joint K H ((g' a b, g a b) :: R)) : Op2R K (rI0 g') (intD (fun _ _ => true) g) := by
  intro H R v1 v2 d1 d2 d Q e j q
  unfold intD at e
  split at e
  · simp only [if_true] at e
    cases e
    exact ⟨_, _, j.sw.is_int, j.is_int, q _ (hg _ _ _ _ j)⟩
  · cases e
abbrev gtD := intD (fun _ _ => true) fun a b => .bl (decide (b < a))
abbrev geD := intD (fun _ _ => true) fun a b => .bl (decide (b ≤ a))
theorem s_gt : Op2R K (rI0 fun i j => .bl (decide (j < i))) gtD := r_int0 fun _ _ _ _ j => ju_bl j
theorem s_ge : Op2R K (rI0 fun i j => .bl (decide (j ≤ i))) geD := r_int0 fun _ _ _ _ j => ju_bl j
abbrev fdivD := intD (fun _ b => decide (0 < b) && decide (b < 2 ^ 64)) fun a b => .int (a / b)
abbrev modD := intD (fun _ b => decide (0 < b)) fun a b => .int (a % b)
abbrev powD := intD (fun a b => decide (0 ≤ b) && decide (b ≤ 1000) && decide (a.natAbs < 2 ^ 64)) fun a b => .int (a ^ b.toNat)
theorem s_fdiv : Op2 K (rI CDivW fun i j => .int (i / j)) fdivD := s_int (fun a b h => by
  simp only [Bool.and_eq_true, decide_eq_true_eq] at h
  refine wide_div (b := 64) h.1 ?_ (by decide) (by decide)
  have h1 : (b.natAbs : Int) < 2 ^ 64 := by omega
  exact_mod_cast h1) fun _ _ _ _ j => ju_int j
theorem s_mod : Op2 K (rI (fun _ j => 0 < j) fun i j => .int (i % j)) modD := s_int (fun a b h => by simpa using h) fun _ _ _ _ j => ju_int j
theorem s_pow : Op2 K (rI CPow fun i j => .int (i ^ j.toNat)) powD := s_int (fun a b h => by
  simp only [Bool.and_eq_true, decide_eq_true_eq] at h
  exact ⟨h.1.1, by omega, h.2⟩) fun _ _ _ _ j => ju_int j
def negD : D → Option D
  | .int a => some (.int (-a))
  | _ => none
end
end WF
namespace WF
open PySem PySem.Spec PyProof.Rows L2
mutual
def D.py : D → Option PyData
  | .non => some .none
  | .bl b => some (.bool b)
  | .int i => some (.int i)
  | .str x => some (.str x)
  | .tup xs => (D.pys xs).map .tuple
  | .lst _ xs => (D.pys xs).map .list
  | _ => none
def D.pys : List D → Option (List PyData)
  | [] => some []
  | x :: xs => match x.py, D.pys xs with
    | some a, some b => some (a :: b)
    | _, _ => none
end
section
variable {K : PySem.W.Frag} {G H : Hp} {L R : List Pr}
theorem pys_cons {x : D} {xs : List D} {y : List PyData} (h : D.pys (x :: xs) = some y) : ∃ a b, x.py = some a ∧ D.pys xs = some b ∧ y = a :: b := by
  simp only [D.pys] at h
  split at h
  · cases h; exact ⟨_, _, by assumption, by assumption, rfl⟩
  · cases h
theorem Reps.dp {fp : List Addr} (r : Reps K G H L fp) (g : GSub G H) : ∀ {ys : List PyData}, D.pys (L.map Prod.snd) = some ys → DpAll K H (L.map Prod.fst) ys := by
  induction r with
  | nil => intro ys h; cases h; exact .nil
  | un _ ih => intro ys h; obtain ⟨a, b, h1, h2, rfl⟩ := pys_cons h; cases h1
  | non _ ih => intro ys h; obtain ⟨a, b, h1, h2, rfl⟩ := pys_cons h; cases h1; exact .cons .non (ih h2)
  | bl _ ih => intro ys h; obtain ⟨a, b, h1, h2, rfl⟩ := pys_cons h; cases h1; exact .cons (.bl _) (ih h2)
  | int _ ih => intro ys h; obtain ⟨a, b, h1, h2, rfl⟩ := pys_cons h; cases h1; exact .cons (.int _) (ih h2)
  | str _ ih => intro ys h; obtain ⟨a, b, h1, h2, rfl⟩ := pys_cons h; cases h1; exact .cons (.str _) (ih h2)
  | vl _ ih => intro ys h; obtain ⟨a, b, h1, h2, rfl⟩ := pys_cons h; cases h1
  | scr _ _ ih => intro ys h; obtain ⟨a, b, h1, h2, rfl⟩ := pys_cons h; cases h1
  | hld _ _ _ ih => intro ys h; obtain ⟨a, b, h1, h2, rfl⟩ := pys_cons h; cases h1
  | con _ _ _ ih => intro ys h; obtain ⟨a, b, h1, h2, rfl⟩ := pys_cons h; cases h1
  | tab _ _ ih => intro ys h; obtain ⟨a, b, h1, h2, rfl⟩ := pys_cons h; cases h1
  | of _ _ _ _ _ _ _ ih1 ih2 => intro ys h; obtain ⟨a, b, h1, h2, rfl⟩ := pys_cons h; cases h1
  | oo _ _ _ _ _ _ _ ih1 ih2 => intro ys h; obtain ⟨a, b, h1, h2, rfl⟩ := pys_cons h; cases h1
  | exn _ _ _ _ _ _ _ ih1 ih2 => intro ys h; obtain ⟨a, b, h1, h2, rfl⟩ := pys_cons h; cases h1
  | tup a b e r1 r2 ih1 ih2 =>
    intro ys h
    obtain ⟨y, z, h1, h2, rfl⟩ := pys_cons h
    simp only [D.py, Option.map_eq_some_iff] at h1
    obtain ⟨w, h3, rfl⟩ := h1
    subst b e
    exact .cons (.tup (.inl (.inl (g _ _ a))) (ih1 h3)) (ih2 h2)
  | lf a b e r1 r2 ih1 ih2 =>
    intro ys h
    obtain ⟨y, z, h1, h2, rfl⟩ := pys_cons h
    simp only [D.py, Option.map_eq_some_iff] at h1
    obtain ⟨w, h3, rfl⟩ := h1
    subst b e
    exact .cons (.lst (.inl (.inl (g _ _ a))) (ih1 h3)) (ih2 h2)
  | lo a b e r1 r2 ih1 ih2 =>
    intro ys h
    obtain ⟨y, z, h1, h2, rfl⟩ := pys_cons h
    simp only [D.py, Option.map_eq_some_iff] at h1
    obtain ⟨w, h3, rfl⟩ := h1
    subst b e
    exact .cons (.lst (.inl (.inl a)) (ih1 h3)) (ih2 h2)
  | kf => intro ys h; obtain ⟨a, b, h1, h2, rfl⟩ := pys_cons h; cases h1
  | ko => intro ys h; obtain ⟨a, b, h1, h2, rfl⟩ := pys_cons h; cases h1
  | tf => intro ys h; obtain ⟨a, b, h1, h2, rfl⟩ := pys_cons h; cases h1
  | to => intro ys h; obtain ⟨a, b, h1, h2, rfl⟩ := pys_cons h; cases h1
theorem Joint.dp {v : V} {d : D} {y : PyData} (j : Joint K H ((v, d) :: R)) (h : d.py = some y) : Dp K H v y := by
  obtain ⟨G, fp, g, r, n, z⟩ := j
  obtain ⟨f1, f2, rfl, r1, r2⟩ := r.uncons
  have q := r1.dp g (ys := [y]) (by simp [D.pys, h])
  cases q with
  | cons a _ => exact a
def eqD (neg : Bool) (a b : D) : Option D := match a.py, b.py with
  | some x, some y => if SeqAt.shaped x && SeqAt.shaped y then some (.bl (if neg then !PyData.eqv x y else PyData.eqv x y)) else none
  | _, _ => none
theorem s_eq : Op2R K (rEqD K) (eqD false) := by
  intro H R v1 v2 d1 d2 d Q e j q
  unfold eqD at e
  split at e
  · split at e
    · rename_i x y h1 h2 hs
      simp only [Bool.and_eq_true] at hs
      cases e
      exact ⟨x, y, j.sw.dp h1, j.dp h2, hs.1, hs.2, q _ (ju_bl j)⟩
    · cases e
  · cases e
theorem s_ne : Op2R K (rNeD K) (eqD true) := by
  intro H R v1 v2 d1 d2 d Q e j q
  unfold eqD at e
  split at e
  · split at e
    · rename_i x y h1 h2 hs
      simp only [Bool.and_eq_true] at hs
      cases e
      exact ⟨x, y, j.sw.dp h1, j.dp h2, hs.1, hs.2, q _ (ju_bl j)⟩
    · cases e
  · cases e
def isNonD : D → Option Bool
  | .un => none
  | .vl _ => none
  | .non => some true
  | _ => some false
def isD (neg : Bool) (a b : D) : Option D := match b with
  | .non => (isNonD a).map fun k => .bl (if neg then !k else k)
  | _ => none
def intsD : List D → Option (List Int)
  | [] => some []
  | .int i :: r => (intsD r).map (i :: ·)
  | _ :: _ => none
theorem intsD_map : ∀ {ds : List D} {ns : List Int}, intsD ds = some ns → ds = ns.map .int
  | [], _, h => by cases h; rfl
  | d :: r, ns, h => by
    unfold intsD at h
    split at h
    · rename_i heq; cases heq
    · rename_i heq
      cases heq
      simp only [Option.map_eq_some_iff] at h
      obtain ⟨a, h1, rfl⟩ := h
      rw [intsD_map h1]; rfl
    · cases h
theorem Joint.ints : ∀ {ns : List Int} {vs : List V}, vs.length = ns.length → Joint K H (vs.zip (ns.map D.int) ++ R) → vs = ns.map V.int
  | [], [], _, _ => rfl
  | n :: ns, v :: vs, h, j => by
    have e : v = .int n := Joint.is_int (R := vs.zip (ns.map D.int) ++ R) j
    rw [e, Joint.ints (ns := ns) (vs := vs) (by simpa using h) (Joint.drop (x := (v, D.int n)) j)]
    rfl
  | [], _ :: _, h, _ => by simp at h
  | _ :: _, [], h, _ => by simp at h
theorem Joint.tupInts {p : Addr} {ds : List D} {ns : List Int} (j : Joint K H ((.ref p, .tup ds) :: R)) (h : intsD ds = some ns) : SqT K H p (ns.map V.int) := by
  obtain ⟨vs, hp, hl, k⟩ := j.untup
  rw [intsD_map h] at hl k
  rw [← Joint.ints (by simpa using hl) k]
  exact .inl (.inl hp)
def ltD : D → D → Option D
  | .int a, .int b => some (.bl (decide (a < b)))
  | .tup xs, .tup ys => match intsD xs, intsD ys with
    | some a, some b => some (.bl (HT.lexLt a b))
    | _, _ => none
  | _, _ => none
def rLtA (K : PySem.W.Frag) : R2 := fun x y H Q => rI0 (fun i j => .bl (decide (i < j))) x y H Q ∨ rLtT K x y H Q
theorem op_ltA {X : Cx} (hu : X.A.units < cLine) : OpR X (compareOp .Lt) (rLtA X.K) := op_lt.or (op_ltT hu)
theorem s_lt : Op2R K (rLtA K) ltD := by
  intro H R v1 v2 d1 d2 d Q e j q
  unfold ltD at e
  split at e
  · cases e
    exact .inl ⟨_, _, j.sw.is_int, j.is_int, q _ (ju_bl j)⟩
  · split at e
    · rename_i a b h1 h2
      cases e
      obtain ⟨p2, rfl⟩ := j.is_tup
      obtain ⟨p1, rfl⟩ := j.sw.is_tup
      exact .inr ⟨p1, p2, a, b, rfl, rfl, j.sw.tupInts h1, j.tupInts h2, q _ (ju_bl j)⟩
    · cases e
  · cases e
theorem Reps.dups {C : List Pr} (r : Reps K G H C []) : ∀ k : Nat, Reps K G H (List.replicate k C).flatten []
  | 0 => .nil
  | k + 1 => by
    rw [List.replicate_succ, List.flatten_cons]
    exact Reps.append r (Reps.dups r k)
theorem Joint.dups {C : List Pr} (j : Joint K H (C ++ R)) (h : ∀ x ∈ C, x.2.frz = x.2) (k : Nat) : Joint K H ((List.replicate k C).flatten ++ R) := by
  obtain ⟨G, fp, g, r, n, z⟩ := j
  obtain ⟨f1, f2, rfl, r1, r2⟩ := r.unappend
  have e := r1.pure h
  subst e
  exact ⟨G, [] ++ f2, g, (r1.dups k).append r2, n, z⟩
theorem zip_rep {vs : List V} {ds : List D} (h : vs.length = ds.length) : ∀ k : Nat, (List.replicate k vs).flatten.zip (List.replicate k ds).flatten = (List.replicate k (vs.zip ds)).flatten
  | 0 => rfl
  | k + 1 => by
    rw [List.replicate_succ, List.replicate_succ, List.replicate_succ, List.flatten_cons, List.flatten_cons, List.flatten_cons, List.zip_append h, zip_rep h k]
theorem len_rep {α : Type} (xs : List α) : ∀ k : Nat, (List.replicate k xs).flatten.length = k * xs.length
  | 0 => by simp
  | k + 1 => by rw [List.replicate_succ, List.flatten_cons, List.length_append, len_rep xs k, Nat.succ_mul, Nat.add_comm]
theorem frz_all {ds : List D} {vs : List V} : ∀ x ∈ vs.zip (D.frzs ds), x.2.frz = x.2 := fun x m => by
  have := (List.of_mem_zip m).2
  rw [D.frzs_map] at this
  obtain ⟨y, _, e⟩ := List.mem_map.mp this
  rw [← e, D.frz_frz]
def mulD : D → D → Option D
  | .int a, .int b => if a.natAbs < 2 ^ 64 || b.natAbs < 2 ^ 64 then some (.int (a * b)) else none
  | .lst _ xs, .int k => if k < 2 ^ 20 ∧ -(2 ^ 20) < k ∧ xs.length * k.toNat ≤ 1000000 then some (.lst true (List.replicate k.toNat (D.frzs xs)).flatten) else none
  | .tup xs, .int k => if xs ≠ [] ∧ 2 ≤ k ∧ k ≤ 1000 ∧ xs.length ≤ 1000 then some (.tup (List.replicate k.toNat (D.frzs xs)).flatten) else none
  | _, _ => none
def rMulA (K : PySem.W.Frag) : R2 := fun x y H Q => rI CMul (fun i j => .int (i * j)) x y H Q ∨ rRep x y H Q ∨ rRepT K x y H Q
theorem op_mulA {X : Cx} : OpR X (binaryOp .Mult) (rMulA X.K) := op_mul.or (op_rep.or op_repT)
theorem s_mul : Op2 K (rMulA K) mulD := by
  intro H R v1 v2 d1 d2 d Q e j q
  unfold mulD at e
  split at e
  · split at e
    · rename_i a b hc
      cases e
      refine .inl ⟨_, _, j.sw.is_int, j.is_int, ?_, q _ _ (ju_int j.drop.drop)⟩
      simp only [Bool.or_eq_true, decide_eq_true_eq] at hc
      rcases hc with h | h
      · exact .inl (by omega)
      · exact .inr (by omega)
    · cases e
  · split at e
    · rename_i o xs k hc
      obtain ⟨h1, h2, h3⟩ := hc
      cases e
      have ek := j.is_int
      obtain ⟨p, rfl⟩ := j.sw.is_lst
      have j1 := j.drop.freeze.drop
      obtain ⟨vs, hp, hl, kk⟩ := j1.unlst
      have hl' : vs.length = xs.length := by rw [hl, D.frzs_map, List.length_map]
      refine .inr (.inl ⟨p, k, vs, rfl, ek, hp, by omega, by omega, big_le (by rw [hl']; exact h3), fun l hl2 => q _ _ (Joint.lst ?_ ?_ hl2)⟩)
      · rw [len_rep, len_rep, hl]
      · rw [zip_rep hl]
        exact kk.dups frz_all _
    · cases e
  · split at e
    · rename_i xs k hc
      obtain ⟨h0, h1, h2, h3⟩ := hc
      cases e
      have ek := j.is_int
      obtain ⟨p, rfl⟩ := j.sw.is_tup
      have j1 := j.drop.freeze.drop
      obtain ⟨vs, hp, hl, kk⟩ := j1.untup
      have hl' : vs.length = xs.length := by rw [hl, D.frzs_map, List.length_map]
      refine .inr (.inr ⟨p, k, vs, rfl, ek, .inl (.inl hp), fun z => h0 ?_, h1, h2, by omega, fun l hl2 => q _ _ (Joint.tup ?_ ?_ hl2)⟩)
      · rw [z] at hl'; cases xs with | nil => rfl | cons _ _ => simp at hl'
      · rw [len_rep, len_rep, hl]
      · rw [zip_rep hl]
        exact kk.dups frz_all _
    · cases e
  · cases e
end
end WF
namespace WF
open PySem PySem.Spec PyProof.Rows L2
section
variable {K : PySem.W.Frag} {H : Hp} {R : List Pr}
def absD : List D → Option D
  | [.int i] => some (.int (if i < 0 then -i else i))
  | _ => none
theorem one_of {vs : List V} {d : D} (h : vs.length = [d].length) : ∃ v, vs = [v] := by
  match vs, h with
  | [v], _ => exact ⟨v, rfl⟩
theorem two_of {vs : List V} {d e : D} (h : vs.length = [d, e].length) : ∃ v w, vs = [v, w] := by
  match vs, h with
  | [v, w], _ => exact ⟨v, w, rfl⟩
theorem c_abs : CallRO K (fun xs H Q => ∃ i, xs = [.int i] ∧ Q (.int (if i < 0 then -i else i)) H) absD := by
  intro H R vs ds d Q hl e j q
  unfold absD at e
  split at e
  · cases e
    obtain ⟨v, rfl⟩ := one_of hl
    have h1 : v = .int _ := Joint.is_int (R := R) j
    exact ⟨_, by rw [h1], q _ (ju_int j)⟩
  · cases e
def maxD2 : List D → Option D
  | [.int i, .int j] => some (.int (if j > i then j else i))
  | _ => none
def minD2 : List D → Option D
  | [.int i, .int j] => some (.int (if j < i then j else i))
  | _ => none
def intD1 : List D → Option D
  | [.int i] => some (.int i)
  | [.bl b] => some (.int (if b then 1 else 0))
  | _ => none
theorem c_int : CallRO K (fun xs H Q => (∃ i, xs = [.int i] ∧ Q (.int i) H) ∨ ∃ k, xs = [.bl k] ∧ Q (.int (if k then 1 else 0)) H) intD1 := by
  intro H R vs ds d Q hl e j q
  unfold intD1 at e
  split at e
  · cases e
    obtain ⟨v, rfl⟩ := one_of hl
    have j' : Joint K H ((v, _) :: R) := j
    exact .inl ⟨_, by rw [j'.is_int], q _ (ju_int j)⟩
  · cases e
    obtain ⟨v, rfl⟩ := one_of hl
    have j' : Joint K H ((v, _) :: R) := j
    exact .inr ⟨_, by rw [j'.is_bl], q _ (ju_int j)⟩
  · cases e
def lenD : List D → Option D
  | [.lst _ xs] => some (.int xs.length)
  | [.tup xs] => some (.int xs.length)
  | [.scr xs] => some (.int xs.length)
  | _ => none
theorem Joint.is_scr {v : V} {ns : List Int} (j : Joint K H ((v, .scr ns) :: R)) : ∃ p, v = .ref p ∧ SqL K H p (ns.map V.int) := by
  obtain ⟨G, fp, g, r, n, z⟩ := j
  cases r with
  | scr a _ => exact ⟨_, rfl, sqL_mono g a⟩
theorem c_len : CallRO K (fun xs H Q => ∃ p ys, xs = [.ref p] ∧ (SqL K H p ys ∨ SqT K H p ys) ∧ Q (.int ys.length) H) lenD := by
  intro H R vs ds d Q hl e j q
  unfold lenD at e
  split at e
  · cases e
    obtain ⟨v, rfl⟩ := one_of hl
    have j' : Joint K H ((v, _) :: R) := j
    obtain ⟨p, rfl⟩ := j'.is_lst
    obtain ⟨us, hp, hlen, _⟩ := j'.unlst
    exact ⟨p, us, rfl, .inl (.inl (.inl hp)), q _ (by rw [hlen]; exact ju_int j)⟩
  · cases e
    obtain ⟨v, rfl⟩ := one_of hl
    have j' : Joint K H ((v, _) :: R) := j
    obtain ⟨p, rfl⟩ := j'.is_tup
    obtain ⟨us, hp, hlen, _⟩ := j'.untup
    exact ⟨p, us, rfl, .inr (.inl (.inl hp)), q _ (by rw [hlen]; exact ju_int j)⟩
  · cases e
    obtain ⟨v, rfl⟩ := one_of hl
    have j' : Joint K H ((v, _) :: R) := j
    obtain ⟨p, rfl, sq⟩ := j'.is_scr
    exact ⟨p, _, rfl, .inl sq, q _ (by rw [List.length_map]; exact ju_int j)⟩
  · cases e
def sumD : List D → Option D
  | [.lst _ xs] => (intsD xs).map fun ns => .int ns.sum
  | _ => none
def boolsD : List D → Option (List Bool)
  | [] => some []
  | .bl i :: r => (boolsD r).map (i :: ·)
  | _ :: _ => none
def allD : List D → Option D
  | [.lst _ xs] => (boolsD xs).map fun ns => .bl (ns.all id)
  | _ => none
def anyD : List D → Option D
  | [.lst _ xs] => (boolsD xs).map fun ns => .bl (ns.any id)
  | _ => none
def divmodD : List D → Option D
  | [.int a, .int b] => if 0 < b ∧ b < 2 ^ 64 then some (.tup [.int (a / b), .int (a % b)]) else none
  | _ => none
theorem c_divmod : CallS K (fun xs H Q => ∃ i j, xs = [.int i, .int j] ∧ CDivP i j ∧ ∀ p, H p = none → Q (.ref p) (upd H p (.tup [.int (i / j), .int (i % j)]))) divmodD := by
  intro H R vs ds d Q hl e j q
  unfold divmodD at e
  split at e
  · split at e
    · rename_i a b hc
      cases e
      obtain ⟨v, w, rfl⟩ := two_of hl
      have j' : Joint K H ((v, _) :: (w, _) :: R) := j
      refine ⟨a, b, by rw [j'.is_int, j'.sw.is_int], ⟨hc.1, PyProof.noPylong_of_log2 (wide_div (i := a) (b := 64) hc.1 ?_ (by decide) (by decide)).2⟩, fun p hp => q _ _ (Joint.tup (vs := [.int (a / b), .int (a % b)]) (ds := [.int (a / b), .int (a % b)]) rfl (ju_int (ju_int j'.drop.drop)) hp)⟩
      have h1 : (b.natAbs : Int) < 2 ^ 64 := by omega
      exact_mod_cast h1
    · cases e
  · cases e
def tupleD : List D → Option D
  | [.lst _ xs] => some (.tup xs)
  | [.tup xs] => some (.tup xs)
  | _ => none
def listD : List D → Option D
  | [.lst _ xs] => some (.lst true xs)
  | [.tup xs] => some (.lst true xs)
  | _ => none
theorem c_list : CallS K (fun xs H Q => ∃ p ys, xs = [.ref p] ∧ (SqL K H p ys ∨ SqT K H p ys) ∧ ∀ l, H l = none → Q (.ref l) (upd H l (.lst ys))) listD := by
  intro H R vs ds d Q hl e j q
  unfold listD at e
  split at e
  · cases e
    obtain ⟨v, rfl⟩ := one_of hl
    have j' : Joint K H ((v, _) :: R) := j
    obtain ⟨p, rfl⟩ := j'.is_lst
    obtain ⟨us, hp, hlen, k⟩ := j'.unlst
    exact ⟨p, us, rfl, .inl (.inl (.inl hp)), fun l hl => q _ _ (Joint.lst hlen k hl)⟩
  · cases e
    obtain ⟨v, rfl⟩ := one_of hl
    have j' : Joint K H ((v, _) :: R) := j
    obtain ⟨p, rfl⟩ := j'.is_tup
    obtain ⟨us, hp, hlen, k⟩ := j'.untup
    exact ⟨p, us, rfl, .inr (.inl (.inl hp)), fun l hl => q _ _ (Joint.lst hlen k hl)⟩
  · cases e
def ixD : D → D → Option D
  | .lst _ xs, .int i => atI (D.frzs xs) i
  | .tup xs, .int i => atI (D.frzs xs) i
  | .scr ns, .int i => (atI ns i).map .int
  | _, _ => none
theorem atI_zip {vs : List V} {ds : List D} {i : Int} {d : D} (hl : vs.length = ds.length) (h : atI ds i = some d) : ∃ (n : Nat) (v : V), atI vs i = some v ∧ vs[n]? = some v ∧ ds[n]? = some d := by
  unfold atI at h ⊢
  rw [hl]
  cases q : ixN ds.length i with
  | none => rw [q] at h; cases h
  | some n =>
    rw [q] at h
    have h : ds[n]? = some d := h
    have hn : n < vs.length := by rw [hl]; exact (List.getElem?_eq_some_iff.mp h).1
    exact ⟨n, vs[n], List.getElem?_eq_getElem hn, List.getElem?_eq_getElem hn, h⟩
end
section
variable {c : Cfg} {X : Cx} {a b e : Expr} {fa fb fe : EM} {pos : Pos}
end
end WF
namespace WF
open PySem PySem.Spec PyProof.Rows L2
mutual
def D.imm : D → Bool
  | .non => true
  | .bl _ => true
  | .int _ => true
  | .str _ => true
  | .vl _ => true
  | .tup xs => D.imms xs
  | _ => false
def D.imms : List D → Bool
  | [] => true
  | x :: xs => x.imm && D.imms xs
end
mutual
theorem D.imm_frz : ∀ d : D, d.imm = true → d.frz = d
  | .non, _ => rfl
  | .bl _, _ => rfl
  | .int _, _ => rfl
  | .str _, _ => rfl
  | .vl _, _ => rfl
  | .tup xs, h => by simp only [D.imm] at h; simp only [D.frz, D.imms_frz xs h]
  | .un, h => by cases h
  | .lst _ _, h => by cases h
  | .dic _ _ _, h => by cases h
  | .dtk _ _ _, h => by cases h
  | .scr _, h => by cases h
  | .hld _, h => by cases h
  | .con _, h => by cases h
  | .exn _ _ _, h => by cases h
  | .tab _, h => by cases h
  | .obj _ _ _ _, h => by cases h
theorem D.imms_frz : ∀ ds : List D, D.imms ds = true → D.frzs ds = ds
  | [], _ => rfl
  | d :: ds, h => by
    simp only [D.imms, Bool.and_eq_true] at h
    simp only [D.frzs, D.imm_frz d h.1, D.imms_frz ds h.2]
end
section
variable {K : PySem.W.Frag} {H : Hp} {R : List Pr} {p : Addr} {ds : List D}
theorem Joint.itemO (j : Joint K H ((.ref p, .lst true ds) :: R)) : ∃ vs, H p = some (.lst vs) ∧ vs.length = ds.length ∧ ∀ (n : Nat) v d, vs[n]? = some v → ds[n]? = some d → d.frz = d → Joint K H ((v, d) :: (.ref p, .lst true ds) :: R) := by
  obtain ⟨G, fp, g, r, n, z⟩ := j
  have r0 := r
  cases r with
  | @lo p C vs ds f L fp a b e r1 r2 =>
    subst b e
    refine ⟨_, a, by simp, fun i v d h1 h2 hd => ⟨G, _, g, ?_, n, z⟩⟩
    have hC : C[i]? = some (v, d) := by
      rw [List.getElem?_map] at h1 h2
      cases q : C[i]? with
      | none => rw [q] at h1; cases h1
      | some y => rw [q] at h1 h2; cases h1; cases h2; rfl
    obtain ⟨hlt, e⟩ := List.getElem?_eq_some_iff.mp hC
    have hs : C = C.take i ++ ((v, d) :: C.drop (i + 1)) := by
      rw [← e, ← List.drop_eq_getElem_cons hlt, List.take_append_drop]
    rw [hs] at r1
    obtain ⟨f1, f2, rfl, q1, q2⟩ := r1.unappend
    obtain ⟨f3, f4, rfl, q3, q4⟩ := q2.uncons
    have e3 := q3.pure fun x m => by
      have : x = (v, d) := by simpa using m
      rw [this]; exact hd
    subst e3
    exact Reps.append (L := [(v, d)]) (fp := []) q3 r0
theorem Joint.sub {L L' : List Pr} (s : L'.Sublist L) : ∀ {R : List Pr}, Joint K H (L ++ R) → Joint K H (L' ++ R) := by
  induction s with
  | slnil => intro R j; exact j
  | cons x _ ih => intro R j; exact ih (Joint.drop (x := x) j)
  | cons_cons x _ ih =>
    intro R j
    have k := ih (R := x :: R) (j.perm (perm_take (A := _)).symm)
    exact k.perm perm_take
def cutD (xs : List D) (lo hi : Option Int) : List D := (xs.drop (HT.sIx xs.length 0 lo)).take (HT.sIx xs.length xs.length hi - HT.sIx xs.length 0 lo)
theorem cut_zip {vs : List V} {ds : List D} {lo hi : Option Int} (hl : vs.length = ds.length) : (cutV vs lo hi).length = (cutD ds lo hi).length ∧ ((cutV vs lo hi).zip (cutD ds lo hi)).Sublist (vs.zip ds) := by
  unfold cutV cutD
  rw [hl]
  refine ⟨by simp [hl], ?_⟩
  have e : ∀ a b : Nat, ((vs.drop a).take b).zip ((ds.drop a).take b) = ((vs.zip ds).drop a).take b := fun a b => by
    simp only [List.zip, List.take_zipWith, List.drop_zipWith]
  rw [e]
  exact (List.take_sublist _ _).trans (List.drop_sublist _ _)
def sliceD (d : D) (lo hi : Option Int) : Option D := match d with
  | .lst _ xs => some (.lst true (cutD xs lo hi))
  | .tup xs => some (.tup (cutD xs lo hi))
  | .scr ns => some (.lst true (cutD (ns.map .int) lo hi))
  | _ => none
def rSlS (K : PySem.W.Frag) : V → Option Int → Option Int → Hp → VK → Prop := fun x lo hi H Q => rSlL K x lo hi H Q ∨ rSlA K x lo hi H Q
theorem sl_S {X : Cx} : SlR X (rSlS X.K) := SlR.or sl_list sl_tupA
theorem cut_all {ds : List D} {lo hi : Option Int} (h1 : HT.sIx ds.length 0 lo = 0) (h2 : HT.sIx ds.length ds.length hi = ds.length) : cutD ds lo hi = ds := by
  unfold cutD
  rw [h1, h2]
  simp
theorem s_slice {v : V} {d r : D} {lo hi : Option Int} {Q : VK} (e : sliceD d lo hi = some r) (j : Joint K H ((v, d) :: R)) (q : ∀ v H', Joint K H' ((v, r) :: R) → Q v H') : rSlS K v lo hi H Q := by
  unfold sliceD at e
  split at e
  · cases e
    obtain ⟨p, rfl⟩ := j.is_lst
    obtain ⟨vs, hp, hl, k⟩ := j.unlst
    obtain ⟨c1, c2⟩ := cut_zip (lo := lo) (hi := hi) hl
    exact .inl ⟨p, vs, rfl, .inl (.inl hp), fun l hn => q _ _ (Joint.lst c1 (k.sub c2) hn)⟩
  · rename_i xs
    cases e
    obtain ⟨p, rfl⟩ := j.is_tup
    obtain ⟨vs, hp, hl, k⟩ := j.untup
    obtain ⟨c1, c2⟩ := cut_zip (lo := lo) (hi := hi) hl
    refine .inr ⟨p, vs, rfl, .inl (.inl hp), fun h => q _ _ ?_, fun _ l hn => q _ _ (Joint.tup c1 (k.sub c2) hn)⟩
    rw [hl] at h
    rw [cut_all h.1 h.2]
    exact j
  · rename_i ns
    cases e
    obtain ⟨p, rfl, sq⟩ := j.is_scr
    refine .inl ⟨p, _, rfl, sq, fun l hn => q _ _ (Joint.lst ?_ ?_ hn)⟩
    · exact (cut_zip (ds := ns.map .int) (by simp)).1
    · refine Joint.sub (cut_zip (ds := ns.map .int) (by simp)).2 ?_
      have : ∀ ns : List Int, Joint K H (((ns.map V.int).zip (ns.map D.int)) ++ R) := by
        intro ns
        induction ns with
        | nil => exact j.drop
        | cons n ns ih => exact ju_int ih
      exact this ns
  · cases e
end
def ixO (d k : D) : Option (D × D) := match d, k with
  | .lst false xs, .int i => (atI xs i).map fun x => (x, .lst false xs)
  | .lst true xs, .int i => match atI xs i with
    | some x => if x.imm then some (x, .lst true xs) else (atI (D.frzs xs) i).map fun y => (y, .lst false (D.frzs xs))
    | none => none
  | .tup xs, .int i => (atI (D.frzs xs) i).map fun x => (x, .tup (D.frzs xs))
  | .scr ns, .int i => (atI ns i).map fun x => (.int x, .scr ns)
  | _, _ => none
section
variable {K : PySem.W.Frag} {H : Hp} {R : List Pr}
theorem s_ixO {v kv : V} {d k x d' : D} {Q : VK} (e : ixO d k = some (x, d')) (j : Joint K H ((kv, k) :: (v, d) :: R)) (q : ∀ u, Joint K H ((u, x) :: (v, d') :: R) → Q u H) : rIx K v kv H Q := by
  unfold ixO at e
  split at e
  · rename_i xs i
    simp only [Option.map_eq_some_iff, Prod.mk.injEq] at e
    obtain ⟨y, e1, rfl, rfl⟩ := e
    have ei := j.is_int
    obtain ⟨p, rfl⟩ := j.sw.is_lst
    obtain ⟨vs, sq, hl, get⟩ := j.drop.itemL
    obtain ⟨n, u, h1, h2, h3⟩ := atI_zip hl e1
    exact .inl ⟨p, vs, i, u, rfl, ei, .inl (.inl sq), h1, q _ (get n u _ h2 h3)⟩
  · rename_i xs i
    split at e
    · rename_i y e1
      split at e
      · rename_i him
        simp only [Option.some.injEq, Prod.mk.injEq] at e
        obtain ⟨rfl, rfl⟩ := e
        have ei := j.is_int
        obtain ⟨p, rfl⟩ := j.sw.is_lst
        obtain ⟨vs, hp, hl, get⟩ := j.drop.itemO
        obtain ⟨n, u, h1, h2, h3⟩ := atI_zip hl e1
        exact .inl ⟨p, vs, i, u, rfl, ei, .inl (.inl hp), h1, q _ (get n u _ h2 h3 (D.imm_frz _ him))⟩
      · simp only [Option.map_eq_some_iff, Prod.mk.injEq] at e
        obtain ⟨y, e1, rfl, rfl⟩ := e
        have ei := j.is_int
        obtain ⟨p, rfl⟩ := j.sw.is_lst
        have j1 : Joint K H ((.ref p, .lst false (D.frzs xs)) :: R) := j.drop.freeze.drop
        obtain ⟨vs, sq, hl, get⟩ := j1.itemL
        obtain ⟨n, u, h1, h2, h3⟩ := atI_zip hl e1
        exact .inl ⟨p, vs, i, u, rfl, ei, .inl (.inl sq), h1, q _ (get n u _ h2 h3)⟩
    · cases e
  · rename_i xs i
    simp only [Option.map_eq_some_iff, Prod.mk.injEq] at e
    obtain ⟨y, e1, rfl, rfl⟩ := e
    have ei := j.is_int
    obtain ⟨p, rfl⟩ := j.sw.is_tup
    have j1 : Joint K H ((.ref p, .tup (D.frzs xs)) :: R) := j.drop.freeze.drop
    obtain ⟨vs, sq, hl, get⟩ := j1.itemT (D.frzs_frzs xs)
    obtain ⟨n, u, h1, h2, h3⟩ := atI_zip hl e1
    exact .inr (.inl ⟨p, vs, i, u, rfl, ei, .inl (.inl sq), h1, q _ (get n u _ h2 h3)⟩)
  · rename_i ns i
    simp only [Option.map_eq_some_iff, Prod.mk.injEq] at e
    obtain ⟨a, h, rfl, rfl⟩ := e
    have ei := j.is_int
    obtain ⟨p, rfl, sq⟩ := j.sw.is_scr
    refine .inl ⟨p, _, i, .int a, rfl, ei, sq, ?_, q _ (ju_int j.drop)⟩
    unfold atI at h ⊢
    rw [List.length_map]
    cases z : ixN ns.length i with
    | none => rw [z] at h; cases h
    | some n =>
      rw [z] at h
      have h : ns[n]? = some a := h
      show (ns.map V.int)[n]? = some (.int a)
      rw [List.getElem?_map, h]; rfl
  · cases e
end
def hasM (i : Nat) (f : EM) : EM := fun S => match S[i]? with
  | some d => if isUn d then none else f S
  | none => none
def ixS (i : Nat) (fb : EM) : EM := bindM fb fun k S => match S[i]? with
  | some d => match ixO d k with
    | some (x, d') => if isUn d then none else some (.ok x, S.set i d')
    | none => none
  | none => none
section
variable {c : Cfg} {X : Cx} {S : S0} {tm tm0 : List Pr} {σ : L2.St} {H : Hp} {a b e : Expr} {fa fb fe : EM} {pos : Pos} {i : Nat}
theorem SJ.get2 {d k : D} {kv : V} (j : SJ c S ((kv, k) :: tm) σ H) (h : S[i]? = some d) (hu : isUn d = false) : ∃ v, σ[i]? = some (some v) ∧ ∃ Z, Joint c.K H ((kv, k) :: (v, d) :: Z) ∧
    ∀ (d' : D) (tm' : List Pr) H', Joint c.K H' ((v, d') :: (tm' ++ Z)) → SJ c (S.set i d') (tm' ++ tm) σ H' := by
  obtain ⟨v, ev⟩ := j.set i d h (isUn_ne hu)
  obtain ⟨Z, p1, p2, _⟩ := slot_get ev h j.len
  refine ⟨v, ev, Z ++ (tm ++ c.rs), j.take.perm (List.Perm.cons _ (List.Perm.append_right _ p1)), fun d' tm' H' q => ⟨?_, fun n u h' hn => ?_, j.pv, j.lp, ?_⟩⟩
  · rw [List.length_set]; exact j.len
  · by_cases hi : n = i
    · exact ⟨v, by rw [hi]; exact ev⟩
    · rw [List.getElem?_set_ne (Ne.symm hi)] at h'
      exact j.set n u h' hn
  · refine q.perm ?_
    have e1 : ((v, d') :: (tm' ++ (Z ++ (tm ++ c.rs)))).Perm (((v, d') :: Z) ++ ((tm' ++ tm) ++ c.rs)) := by
      refine List.Perm.cons _ ?_
      rw [List.append_assoc tm' tm]
      exact perm_sw
    exact e1.trans (List.Perm.append_right _ (p2 d').symm)
theorem w_ixS (hK : c.K = X.K) (ha : PE X a (tVar i)) (hb : PE X b (T c fb)) (hs : PlainIx b := by exact fun _ _ => rfl) : PE X (.Subscript a b pos) (T c (hasM i (ixS i fb))) :=
  pe_mono (pe_ix ix_seq ha hb hs) fun σ H Q h => by
    obtain ⟨S, tm, j, p⟩ := h
    unfold hasM at p
    split at p
    · rename_i d hd
      split at p
      · exact p.elim
      · rename_i hu
        obtain ⟨v, ev⟩ := j.set i d hd (isUn_ne (by simpa using hu))
        refine ⟨v, ev, (post_bind j p).mono fun kv H1 ⟨k, S1, j1, p1⟩ => ?_⟩
        split at p1
        · rename_i d1 hd1
          split at p1
          · rename_i x d' hx
            split at p1
            · exact p1.elim
            · rename_i hu1
              obtain ⟨v', ev', Z, k2, put⟩ := j1.get2 hd1 (by simpa using hu1)
              have : v' = v := by rw [ev] at ev'; exact (Option.some.inj (Option.some.inj ev')).symm
              subst this
              exact hK ▸ s_ixO hx k2 fun u k3 => p1 u H1 (put d' [(u, x)] H1 k3.sw)
          · exact p1.elim
        · exact p1.elim
    · exact p.elim
def optE : Option EM → (Option Int → EM) → EM
  | none, g => g none
  | some f, g => bindM f fun d => match d with
    | .int i => g (some i)
    | _ => fun _ => none
def sliceM (fe : EM) (lo hi : Option EM) : EM := bindM fe fun d => optE lo fun l => optE hi fun h => optM (sliceD d l h)
def tOpt (c : Cfg) : Option EM → TO
  | none => tNoPart
  | some f => tPart (T c f)
theorem wo_none : PO X none (tOpt c none) := po_none
theorem wo_some (h : PE X e (T c fe)) : PO X (some e) (tOpt c (some fe)) := po_some h
theorem tOpt_mono {o : Option EM} {Q Q' : Option Int → Hp → Prop} (h : tOpt c o σ H Q) (q : ∀ x H, Q x H → Q' x H) : tOpt c o σ H Q' := by
  cases o with
  | none => exact q _ _ h
  | some f => exact T.mono h fun v H1 ⟨n, e, h2⟩ => ⟨n, e, q _ _ h2⟩
theorem post_optE {o : Option EM} {g : Option Int → EM} {Q : VK} (j : SJ c S tm σ H) (p : post c (optE o g S) tm0 σ Q) : tOpt c o σ H (fun l H1 => ∃ S' ex, SJ c S' (ex ++ tm) σ H1 ∧ post c (g l S') tm0 σ Q) := by
  cases o with
  | none => exact ⟨S, [], j, p⟩
  | some f =>
    refine (post_bind (fa := f) j p).mono fun v H1 ⟨d, S1, j1, p1⟩ => ?_
    split at p1
    · exact ⟨_, j1.take.is_int, S1, [_], j1, p1⟩
    · exact p1.elim
theorem w_slice {lo hi : Option Expr} {flo fhi : Option EM} {p2 : Pos} (hK : c.K = X.K) (he : PE X e (T c fe)) (hl : PO X lo (tOpt c flo)) (hh : PO X hi (tOpt c fhi)) : PE X (.Subscript e (.Slice lo hi none p2) pos) (T c (sliceM fe flo fhi)) :=
  pe_mono (pe_slice sl_S he hl hh) fun σ H Q h => by
    obtain ⟨S, tm, j, p⟩ := h
    refine (post_bind j p).mono fun v H1 ⟨d, S1, j1, p1⟩ => ?_
    refine tOpt_mono (post_optE j1 p1) fun l H2 ⟨S2, ex2, j2, p2⟩ => ?_
    refine tOpt_mono (post_optE j2 p2) fun u H3 ⟨S3, ex3, j3, p3⟩ => ?_
    obtain ⟨r, e, q⟩ := post_opt p3
    have j4 : SJ c S3 ((v, d) :: tm) σ H3 := (j3.dropL).dropL
    exact hK ▸ s_slice e j4.take fun v H' k => q v H' (j4.put k)
end
end WF
namespace WF
open PySem PySem.Spec PyProof.Rows L2
abbrev IP := Int → Int → Bool
def tailM (q : IP) (b : Int) (fc : EM) : EM := bindM fc fun z => match z with
  | .int d => retM (.bl (q b d))
  | _ => fun _ => none
def chain2M (p q : IP) (fa fb fc : EM) : EM := bindM fa fun x => bindM fb fun y => match x, y with
  | .int a, .int b => if p a b then tailM q b fc else retM (.bl false)
  | _, _ => fun _ => none
def chain3M (p q r : IP) (fa fb fc fd : EM) : EM := bindM fa fun x => bindM fb fun y => match x, y with
  | .int a, .int b => if p a b then bindM fc fun z => (match z with
      | .int d => if q b d then tailM r d fd else retM (.bl false)
      | _ => fun _ => none) else retM (.bl false)
  | _, _ => fun _ => none
section
variable {c : Cfg} {X : Cx} {S : S0} {tm tm0 : List Pr} {σ : L2.St} {H : Hp} {a b e d : Expr} {fa fb fc fd fe : EM} {pos : Pos} {p q r : IP}
variable {o1 o2 o3 : CmpOp}
def augM (i : Nat) (op : D → D → Option D) (fe : EM) : SM := fun S => match S[i]? with
  | some (.int n) => bindS fe (fun d S1 => match op (.int n) d with
    | some r => if i < S1.length then some (.nx, S1.set i r) else none
    | none => none) S
  | _ => none
end
end WF
namespace WF
open PySem PySem.Spec PyProof.Rows L2
def roM (op : List D → Option D) (as : List Ar) : EM := argsA as fun av S => match takeA av S with
  | some (ds, S1) => match op ds with
    | some d => if ds.length = av.length then some (.ok d, putA av ds S1) else none
    | none => none
  | none => none
def op2 (op : D → D → Option D) : List D → Option D
  | [a, b] => op a b
  | _ => none
section
variable {c : Cfg} {X : Cx} {S : S0} {tm tm0 : List Pr} {σ : L2.St} {H : Hp} {e a b : Expr} {es : List Expr} {as : List Ar} {pos p : Pos} {x : Str} {id ty : String} {r : List V → Hp → VK → Prop} {op : List D → Option D}
theorem t_ro {Q : VK} (hs : CallRO c.K r op) (h : T c (roM op as) σ H Q) : tArgsA c as σ H (fun vs H1 => r vs H1 Q) := by
  obtain ⟨S, tm, j, p⟩ := h
  refine tArgsA_mono (post_argsA as j p) fun vs H1 ⟨av, S1, L, a, al, j1, p1⟩ => ?_
  split at p1
  · rename_i ds S2 ht
    have jj : Joint c.K H1 (slotL σ S1 ++ (L ++ (tm ++ c.rs))) := by
      have := j1.jt
      rwa [List.append_assoc] at this
    obtain ⟨h1, h2, h3, h4, h5⟩ := take_ok a ht j1.sl jj
    split at p1
    · rename_i d hm
      split at p1
      · obtain ⟨g1, g2⟩ := h5 ds rfl
        refine hs H1 _ vs ds d Q h1 hm h4 fun v k => p1 v H1 (g1.sj ?_)
        refine Joint.perm perm_take.symm ?_
        have k2 : Joint c.K H1 (vs.zip ds ++ (slotL σ S2 ++ ((v, d) :: (tm ++ c.rs)))) := k.perm ((perm_take.symm).trans (List.Perm.append_left _ perm_take.symm))
        exact (g2 H1 _ k2).perm perm_take
      · exact p1.elim
    · exact p1.elim
  · exact p1.elim
theorem w_roB (hc : CallR X (.builtin id) r) (hs : CallRO c.K r op) (hg : Gl X x) (hm : X.mg x = none) (hv : bootBuiltins x = some (.builtin id)) (ha : PA X (e :: es) (tArgsA c as)) (hn : x ≠ "__name__" := by decide) (hdb : (x == ("__debug__" : Str)) = false := by decide)
    (he : starEach (e :: es) X.env = (false, eval e X.env) :: starEach es X.env := by rfl) (hpl : (backTo pos (starEach es X.env)).any (·.1) = false := by rfl) : PE X (.Call (.Name x p) (e :: es) [] pos) (T c (roM op as)) :=
  pe_mono (pe_callB hc hg hm hv ha hn hdb he hpl) fun _ _ _ h => t_ro hs h
theorem w_roTy (hc : CallR X (.type ty) r) (hs : CallRO c.K r op) (hg : Gl X x) (hm : X.mg x = none) (hv : bootBuiltins x = some (.type ty)) (ha : PA X (e :: es) (tArgsA c as)) (hn : x ≠ "__name__" := by decide) (hdb : (x == ("__debug__" : Str)) = false := by decide)
    (he : starEach (e :: es) X.env = (false, eval e X.env) :: starEach es X.env := by rfl) (hpl : (backTo pos (starEach es X.env)).any (·.1) = false := by rfl) : PE X (.Call (.Name x p) (e :: es) [] pos) (T c (roM op as)) :=
  pe_mono (pe_callTy hc hg hm hv ha hn hdb he hpl) fun _ _ _ h => t_ro hs h
def tAr (c : Cfg) : Ar → TE
  | .v f => T c f
  | .s i => tVar i
theorem wr_v {f : EM} (h : PE X e (T c f)) : PE X e (tAr c (.v f)) := h
theorem wr_s {i : Nat} (h : PE X e (tVar i)) : PE X e (tAr c (.s i)) := h
theorem tArgsA_cons {y : Ar} {ys : List Ar} : tArgsA c (y :: ys) = tCons (tAr c y) (tArgsA c ys) := by cases y <;> rfl
def r2L (r : R2) : List V → Hp → VK → Prop := fun vs H Q => ∃ x y, vs = [x, y] ∧ r x y H Q
theorem ro2 {K : PySem.W.Frag} {r : R2} {op : D → D → Option D} (h : Op2R K r op) : CallRO K (r2L r) (op2 op) := by
  intro H R vs ds d Q hl e j q
  match ds, vs, hl, e, j, q with
  | [d1, d2], [v1, v2], _, e, j, q =>
    have j' : Joint K H ((v1, d1) :: (v2, d2) :: R) := j
    exact ⟨v1, v2, rfl, h H R v1 v2 d1 d2 d Q e j'.sw fun v k => q v (k.perm (List.Perm.cons _ (List.Perm.swap _ _ _)))⟩
theorem t_ro2 {r : R2} {op : D → D → Option D} {y z : Ar} {Q : VK} (hs : Op2R c.K r op) (h : T c (roM (op2 op) [y, z]) σ H Q) : tOp r (tAr c y) (tAr c z) σ H Q := by
  have q := t_ro (ro2 hs) h
  rw [tArgsA_cons, tArgsA_cons] at q
  have mono : ∀ {w : Ar} {σ : L2.St} {H : Hp} {Q Q' : VK}, tAr c w σ H Q → (∀ v H, Q v H → Q' v H) → tAr c w σ H Q' := fun {w σ H Q Q'} h q => by
    cases w with
    | v f => exact T.mono h q
    | s i => obtain ⟨v, e, h⟩ := h; exact ⟨v, e, q _ _ h⟩
  refine mono q fun v H1 q1 => mono q1 fun w H2 q2 => ?_
  obtain ⟨v', w', e, q3⟩ := q2
  cases e
  exact q3
theorem w_cmpR {o : CmpOp} {r : R2} {op : D → D → Option D} {y z : Ar} (ho : OpR X (compareOp o) r) (hs : Op2R c.K r op) (ha : PE X a (tAr c y)) (hb : PE X b (tAr c z)) (hm : behindInMarks o b = false := by first | exact nomark _ | rfl) : PE X (.Compare a [o] [b] pos) (T c (roM (op2 op) [y, z])) :=
  pe_mono (pe_cmpR ho ha hb hm) fun _ _ _ h => t_ro2 hs h
theorem wt_cmpR {o : CmpOp} {r : R2} {op : D → D → Option D} {y z : Ar} (ho : OpR X (compareOp o) r) (hs : Op2R c.K r op) (ha : PE X a (tAr c y)) (hb : PE X b (tAr c z)) (hm : behindInMarks o b = false := by first | exact nomark _ | rfl) : PT X (.Compare a [o] [b] pos) (Tt c (roM (op2 op) [y, z])) :=
  pt_mono (pt_cmpR ho ha hb hm) fun _ _ _ h => t_ro2 hs h
end
inductive Ty where
  | int | bool | str | none | list | tuple | dict
  deriving DecidableEq
def Ty.nm : Ty → String
  | .int => "int" | .bool => "bool" | .str => "str" | .none => "NoneType" | .list => "list" | .tuple => "tuple" | .dict => "dict"
def Ty.sub (a b : Ty) : Bool := decide (a = b) || (decide (a = .bool) && decide (b = .int))
def tyNm (n : String) : Option Ty := if n = "int" then some .int else if n = "bool" then some .bool else if n = "str" then some .str else if n = "list" then some .list else if n = "tuple" then some .tuple else if n = "dict" then some .dict else none
def D.ty : D → Option Ty
  | .non => some .none
  | .bl _ => some .bool
  | .int _ => some .int
  | .str _ => some .str
  | .tup _ => some .tuple
  | .lst _ _ => some .list
  | .scr _ => some .list
  | .dic _ _ _ => some .dict
  | .dtk _ _ _ => some .dict
  | _ => none
section
variable {K : PySem.W.Frag} {H : Hp} {R : List Pr}
theorem Joint.ty {v : V} {d : D} {t : Ty} (j : Joint K H ((v, d) :: R)) (h : d.ty = some t) : TyX K H v (.type t.nm) := by
  obtain ⟨G, fp, g, r, n, z⟩ := j
  cases r with
  | un => cases h
  | non => cases h; exact .base .non
  | bl => cases h; exact .base (.bl _)
  | int => cases h; exact .base (.int _)
  | str => cases h; exact .base (.str _)
  | vl => cases h
  | hld q a _ => cases h
  | con => cases h
  | exn => cases h
  | tab => cases h
  | of => cases h
  | oo => cases h
  | scr a _ =>
    cases h
    rcases sqL_mono g a with (q | ⟨o, q⟩) | ⟨o, its, m, q1, q2, _⟩
    · exact .base (.lst q)
    · exact .base (.frz q)
    · exact .kList q1 q2
  | tup a => cases h; exact .base (.tup (g _ _ a))
  | lf a => cases h; exact .base (.lst (g _ _ a))
  | lo a => cases h; exact .base (.lst a)
  | kf a => cases h; exact .base (.dK (g _ _ a))
  | ko a => cases h; exact .base (.dK a)
  | tf a => cases h; exact .base (.dT (g _ _ a))
  | to a => cases h; exact .base (.dT a)
def tysD : List D → Option (List Ty)
  | [] => some []
  | .vl (.ty n) :: r => match tyNm n, tysD r with
    | some t, some ts => some (t :: ts)
    | _, _ => none
  | _ :: _ => none
def isiD : List D → Option D
  | [x, .vl (.ty n)] => match x.ty, tyNm n with
    | some a, some b => some (.bl (a.sub b))
    | _, _ => none
  | [x, .tup cs] => match x.ty, tysD cs with
    | some a, some bs => some (.bl (bs.any a.sub))
    | _, _ => none
  | _ => none
end
section
variable {c : Cfg} {X : Cx} {x : Str} {pos : Pos}
theorem w_gint {i : Int} {t : Tok} (hg : Gl X x) (hm : X.mg x = some (.int i t)) (hd : (x == ("__debug__" : Str)) = false := by decide) : PE X (.Name x pos) (T c (retM (.int i))) := w_c (pe_glob (v := .int i) hg hm ⟨t, rfl⟩ hd) j_int
end
end WF
namespace WF
open PySem PySem.Spec PyProof.Rows L2
def seqV : D → Option (List D × D)
  | .tup xs => some (D.frzs xs, .tup (D.frzs xs))
  | .lst o xs => some (D.frzs xs, .lst o (D.frzs xs))
  | _ => none
section
variable {K : PySem.W.Frag} {H : Hp} {R : List Pr} {p : Addr} {ds : List D} {v : V} {d : D}
theorem Joint.frzC {o : Bool} (j : Joint K H ((.ref p, .lst o ds) :: R)) : Joint K H ((.ref p, .lst o (D.frzs ds)) :: R) := by
  cases o with
  | false => exact j.freeze.drop
  | true =>
    obtain ⟨vs, hp, hl, k⟩ := j.openL
    obtain ⟨G, fp, g, r, n, z, gp, np⟩ := k
    obtain ⟨f1, f2, rfl, r1, r2⟩ := r.unappend
    obtain ⟨n1, n2, n3⟩ := List.nodup_append.mp n
    let G' : Hp := fun a => if a ∈ f1 then H a else G a
    have gg : GSub G G' := fun a o e => by
      show (if a ∈ f1 then H a else G a) = some o
      split
      · exact g a o e
      · exact e
    have gH : GSub G' H := fun a o e => by
      have e : (if a ∈ f1 then H a else G a) = some o := e
      split at e
      · exact e
      · exact g a o e
    have fr := r1.freeze gg fun a o m e => by
      show (if a ∈ f1 then H a else G a) = some o
      rw [if_pos m]; exact e
    have e1 : ((vs.zip ds).map fun x : Pr => (x.1, x.2.frz)) = vs.zip (D.frzs ds) := by
      rw [D.frzs_map, List.zip_map_right]; rfl
    rw [e1] at fr
    have hl2 : vs.length = (D.frzs ds).length := by rw [D.frzs_map, List.length_map]; exact hl
    refine ⟨G', p :: ([] ++ f2), gH, .lo hp (zip_fst hl2) (zip_snd hl2) fr (r2.mono gg fun _ _ _ h => h), ?_, fun a m => ?_⟩
    · exact List.nodup_cons.mpr ⟨fun m => np (List.mem_append_right _ m), n2⟩
    · rcases List.mem_cons.mp m with rfl | m
      · show (if a ∈ f1 then H a else G a) = none
        rw [if_neg (fun q => np (List.mem_append_left _ q))]; exact gp
      · have m : a ∈ f2 := m
        show (if a ∈ f1 then H a else G a) = none
        rw [if_neg (fun q => n3 a q a m rfl)]
        exact z a (List.mem_append_right _ m)
theorem Joint.seqV {xs : List D} {d' : D} (j : Joint K H ((v, d) :: R)) (h : seqV d = some (xs, d')) : Joint K H ((v, d') :: R) := by
  unfold WF.seqV at h
  split at h
  · cases h
    exact j.freeze.drop
  · cases h
    obtain ⟨p, rfl⟩ := j.is_lst
    exact j.frzC
  · cases h
theorem Joint.acc {xs : List D} {d0 d' : D} (h : WF.seqV d0 = some (xs, d')) (j : Joint K H ((v, d') :: R)) : ∃ p vs, v = .ref p ∧ ((∃ ys, d' = .lst true ys ∧ H p = some (.lst vs)) ∨ (∃ ys, d' = .lst false ys ∧ H p = some (.lst vs)) ∨ (∃ ys, d' = .tup ys ∧ H p = some (.tup vs))) ∧ vs.length = xs.length ∧
    ∀ (n : Nat) u x, vs[n]? = some u → xs[n]? = some x → Joint K H ((u, x) :: (v, d') :: R) := by
  unfold WF.seqV at h
  split at h
  · rename_i ys
    cases h
    obtain ⟨p, rfl⟩ := j.is_tup
    obtain ⟨vs, hp, hl, get⟩ := j.itemT (D.frzs_frzs ys)
    exact ⟨p, vs, rfl, .inr (.inr ⟨_, rfl, hp⟩), hl, get⟩
  · rename_i o ys
    cases h
    obtain ⟨p, rfl⟩ := j.is_lst
    cases o with
    | true =>
      obtain ⟨vs, hp, hl, get⟩ := j.itemO
      exact ⟨p, vs, rfl, .inl ⟨_, rfl, hp⟩, hl, fun n u x h1 h2 => get n u x h1 h2 (by
        rw [D.frzs_map, List.getElem?_map, Option.map_eq_some_iff] at h2
        obtain ⟨a, _, e⟩ := h2
        rw [← e, D.frz_frz])⟩
    | false =>
      obtain ⟨vs, hp, hl, get⟩ := j.itemL
      exact ⟨p, vs, rfl, .inr (.inl ⟨_, rfl, hp⟩), hl, get⟩
  · cases h
end
def argsAI : List Ar → (List Av → IM) → IM
  | [], g => g []
  | .v f :: r, g => bindI f fun d => argsAI r fun ds => g (.inl d :: ds)
  | .s i :: r, g => fun S => match S[i]? with
    | some d => if isUn d then none else argsAI r (fun ds => g (.inr i :: ds)) S
    | none => none
def seqVs : List D → Option (List (List D) × List D)
  | [] => some ([], [])
  | d :: r => match seqV d, seqVs r with
    | some (xs, d'), some (xss, ds') => some (xs :: xss, d' :: ds')
    | _, _ => none
def lentA : List Av → List D → List (Nat × D)
  | .inl _ :: r, _ :: ds => lentA r ds
  | .inr i :: r, d :: ds => (i, d) :: lentA r ds
  | _, _ => []
def walkM (comb : List (List D) → Option (List D)) (as : List Ar) : IM := argsAI as fun av S => match takeA av S with
  | some (ds, S1) => match seqVs ds with
    | some (xss, ds') => match comb xss with
      | some ys => some (.ok ys (lentA av ds'), S1)
      | none => none
    | none => none
  | none => none
theorem Iter.perm {K : PySem.W.Frag} {J : It} {h h' : List Pr} {ds : List D} (q : h.Perm h') (I : Iter K J h ds) : Iter K J h' ds :=
  ⟨fun i H L hi j => I.go i H L hi (j.perm (List.Perm.append_right _ q.symm)),
   fun i H L d x H' hd j y => (I.yld i H L d x H' hd (j.perm (List.Perm.append_right _ q.symm)) y).perm (List.Perm.cons _ (List.Perm.append_right _ q)),
   fun H L j => I.stop H L (j.perm (List.Perm.append_right _ q.symm))⟩
inductive SeqAll : List D → List (List D) → Prop where
  | nil : SeqAll [] []
  | cons {d d' xs ds xss} : seqV d = some (xs, d') → SeqAll ds xss → SeqAll (d' :: ds) (xs :: xss)
section
variable {c : Cfg} {X : Cx} {σ : L2.St} {R : It → Hp → Prop}
theorem post_argsAI : ∀ (fs : List Ar) {g : List Av → IM} {S : S0} {tm tm0 : List Pr} {H : Hp}, SJ c S tm σ H → postI c (argsAI fs g S) tm0 σ R →
    tArgsA c fs σ H (fun vs H1 => ∃ as S' L, AvOk σ as vs L ∧ as.length = fs.length ∧ SJ c S' (L ++ tm) σ H1 ∧ postI c (g as S') tm0 σ R)
  | [], _, S, _, _, _, j, p => ⟨[], S, [], .nil, rfl, j, p⟩
  | .v f :: fs, g, S, tm, tm0, H, j, p => by
    refine (post_bindI (fa := f) j p).mono fun v H1 ⟨d, S1, j1, p1⟩ => ?_
    refine tArgsA_mono (post_argsAI fs j1 p1) fun vs H2 ⟨as, S2, L, a, al, j2, p2⟩ => ?_
    exact ⟨.inl d :: as, S2, _, .v a, by simp [al], j2.perm perm_take, p2⟩
  | .s i :: fs, g, S, tm, tm0, H, j, p => by
    unfold argsAI at p
    split at p
    · rename_i d hd
      split at p
      · exact p.elim
      · rename_i hu
        obtain ⟨v, ev⟩ := j.set i d hd (isUn_ne (by simpa using hu))
        refine ⟨v, ev, tArgsA_mono (post_argsAI fs j p) fun vs H2 ⟨as, S2, L, a, al, j2, p2⟩ => ?_⟩
        exact ⟨.inr i :: as, S2, L, .s ev a, by simp [al], j2, p2⟩
    · exact p.elim
theorem seqVs_ok {K : PySem.W.Frag} {H : Hp} : ∀ {ds : List D} {xss : List (List D)} {ds' : List D} {vs : List V} {R : List Pr}, seqVs ds = some (xss, ds') → vs.length = ds.length → Joint K H (vs.zip ds ++ R) → vs.length = ds'.length ∧ SeqAll ds' xss ∧ Joint K H (vs.zip ds' ++ R)
  | [], xss, ds', vs, R, h, hl, j => by
    cases h
    exact ⟨hl, .nil, j⟩
  | d :: ds, xss, ds', v :: vs, R, h, hl, j => by
    unfold seqVs at h
    split at h
    · rename_i xs d' xss' ds2 h1 h2
      cases h
      have k1 : Joint K H (vs.zip ds ++ ((v, d') :: R)) := (Joint.seqV (R := vs.zip ds ++ R) j h1).perm perm_take.symm
      obtain ⟨a, b, k2⟩ := seqVs_ok h2 (by simpa using hl) k1
      exact ⟨by simp [a], .cons h1 b, k2.perm perm_take⟩
    · cases h
  | _ :: _, _, _, [], _, _, h, _ => by simp at h
theorem lent_split : ∀ {av : List Av} {vs : List V} {L : List Pr} {ds : List D}, AvOk σ av vs L → vs.length = ds.length → LentOk σ (lentA av ds) ∧ ∃ hold, (vs.zip ds).Perm (hold ++ lentL σ (lentA av ds))
  | [], [], [], [], .nil, _ => ⟨(fun x m => by cases m), [], List.Perm.refl _⟩
  | [], [], [], _ :: _, .nil, h => by simp at h
  | .inl _ :: av, v :: vs, _, d :: ds, .v a, h => by
    obtain ⟨lo, hold, p⟩ := lent_split a (ds := ds) (by simpa using h)
    exact ⟨lo, (v, d) :: hold, List.Perm.cons _ p⟩
  | .inr i :: av, v :: vs, L, d :: ds, .s ev a, h => by
    obtain ⟨lo, hold, p⟩ := lent_split a (ds := ds) (by simpa using h)
    refine ⟨fun x m => ?_, hold, ?_⟩
    · rcases List.mem_cons.mp m with rfl | m
      · exact ⟨v, ev⟩
      · exact lo x m
    · have ee : (σ.getD i none).getD .non = v := by rw [List.getD_eq_getElem?_getD, ev]; rfl
      show ((v, d) :: vs.zip ds).Perm (hold ++ (((σ.getD i none).getD .non, d) :: lentL σ (lentA av ds)))
      rw [ee]
      exact (List.Perm.cons _ p).trans perm_take.symm
  | .inl _ :: _, _ :: _, _, [], .v _, h => by simp at h
  | .inr _ :: _, _ :: _, _, [], .s _ _, h => by simp at h
theorem src_post {comb : List (List D) → Option (List D)} {as : List Ar} {H : Hp} (h : TIm c (walkM comb as) σ H R) :
    tArgsA c as σ H (fun vs H1 => ∃ ds xss ys, comb xss = some ys ∧ SeqAll ds xss ∧ vs.length = ds.length ∧ ds.length = as.length ∧ (∃ Z, Joint c.K H1 (vs.zip ds ++ Z)) ∧ ∀ J, Iter c.K J (vs.zip ds) ys → R J H1) := by
  obtain ⟨S, tm, j, p⟩ := h
  refine tArgsA_mono (post_argsAI as j p) fun vs H1 ⟨av, S1, L, a, al, j1, p1⟩ => ?_
  split at p1
  · rename_i ds S2 ht
    have jj : Joint c.K H1 (slotL σ S1 ++ (L ++ (tm ++ c.rs))) := by
      have := j1.jt
      rwa [List.append_assoc] at this
    obtain ⟨h1, h2, h3, h4, h5⟩ := take_ok a ht j1.sl jj
    split at p1
    · rename_i xss ds' hs
      split at p1
      · rename_i ys hy
        obtain ⟨g1, g2, g3⟩ := seqVs_ok hs h1 h4
        obtain ⟨lo, hold, pm⟩ := lent_split a g1
        refine ⟨ds', xss, ys, hy, g2, g1, by have := av_len a; omega, ⟨_, g3⟩, fun J IJ => ?_⟩
        refine p1 lo J hold H1 (IJ.perm pm) (h3.sj ?_)
        have k := g3.perm (List.Perm.append_right _ pm)
        have e1 : ((hold ++ lentL σ (lentA av ds')) ++ (slotL σ S2 ++ (tm ++ c.rs))).Perm (slotL σ S2 ++ (hold ++ (lentL σ (lentA av ds') ++ tm) ++ c.rs)) := by
          rw [List.append_assoc hold (lentL σ (lentA av ds') ++ tm), List.append_assoc (lentL σ (lentA av ds')) tm, ← List.append_assoc hold]
          exact perm_sw
        exact k.perm e1
      · exact p1.elim
    · exact p1.elim
  · exact p1.elim
def comb1 : List (List D) → Option (List D)
  | [xs] => some xs
  | _ => none
theorem one_len {ds : List D} (h : ds.length = 1) : ∃ d, ds = [d] := by
  match ds, h with
  | [d], _ => exact ⟨d, rfl⟩
def rngD (lo : Int) (n : Nat) : List D := (List.range n).map fun (k : Nat) => .int (lo + ((k : Nat) : Int))
theorem iter_rng {K : PySem.W.Frag} {lo : Int} {n : Nat} : Iter K (Itr lo n) [] (rngD lo n) where
  go := fun i H L hi j => by
    have q : i < n := by simpa [rngD] using hi
    exact q
  yld := fun i H L d x H' hd j y => by
    obtain ⟨rfl, y2⟩ := y
    have hi : i < n := by
      by_cases q : i < n
      · exact q
      · rw [List.getElem?_eq_none (by simp [rngD]; omega)] at hd; cases hd
    rw [rngD, List.getElem?_map, List.getElem?_range hi] at hd
    cases hd
    rw [y2]
    exact ju_int j
  stop := fun H L j => by
    have q : n ≤ (rngD lo n).length := by simp [rngD]
    exact q
def rng1M (fa : EM) : IM := bindI fa fun d => match d with
  | .int n => if -(2 ^ 62) ≤ n ∧ n < 2 ^ 62 then optI (some (rngD 0 n.toNat)) else fun _ => none
  | _ => fun _ => none
def rng2M (fa fb : EM) : IM := bindI fa fun d => bindI fb fun e => match d, e with
  | .int a, .int b => if -(2 ^ 62) ≤ a ∧ a < 2 ^ 62 ∧ -(2 ^ 62) ≤ b ∧ b < 2 ^ 62 then optI (some (rngD a (b - a).toNat)) else fun _ => none
  | _, _ => fun _ => none
theorem wi_rng1 {tg a : Expr} {fa : EM} {p pos : Pos} (hg : Gl X "range") (hm : X.mg "range" = none) (ha : PE X a (T c fa)) (hs : starEach [a] X.env = [(false, eval a X.env)] := by rfl) : PI X tg (.Call (.Name "range" p) [a] [] pos) (TIm c (rng1M fa)) :=
  pi_mono (pi_range1 hg hm (pa_cons ha pa_nil hs) hs) fun σ H R h => by
    obtain ⟨S, tm, j, p⟩ := h
    refine (post_bindI j p).mono fun v H1 ⟨d, S1, j1, p1⟩ => ?_
    cases d with
    | int n =>
      simp only at p1
      split at p1
      · rename_i hn
        obtain ⟨ds, e, q⟩ := post_optI p1
        cases e
        exact ⟨n, by rw [j1.take.is_int], hn.1, hn.2, q _ [] H1 iter_rng j1.drop⟩
      · exact p1.elim
    | _ => exact p1.elim
end
end WF
namespace WF
open PySem PySem.Spec PyProof.Rows L2
structure Sr where
  it : Addr
  a : Addr
  k : Bool
  xs : Array Value
def seqAt (k : Bool) (h : Heap) (a : Addr) (xs : Array Value) : Prop := match k with
  | true => h.IsList a xs
  | false => h.IsTuple a xs
def itAt (k : Bool) (h : Heap) (it a : Addr) (i : Nat) : Prop := match k with
  | true => h.IsListIter it a i
  | false => h.IsTupleIter it a i
def Sr.St (q : Sr) (i : Nat) (h : Heap) : Prop := itAt q.k h q.it q.a i ∧ seqAt q.k h q.a q.xs
section
variable {prog : Program} {w : World} {A : Around} {E : Value → Shared → Prop} {s : Shared} {i : Nat}
theorem Sr.draws (hh : A.handled = none) (q : Sr) (hne : q.a ≠ q.it) : Draws prog w A q.it [q.it, q.a] q.xs.size (fun i v => q.xs[i]? = some v) (fun i h => q.St i h) := by
  obtain ⟨it, a, k, xs⟩ := q
  cases k with
  | true => exact Draws.list hh it a hne xs
  | false => exact Draws.tuple hh it a hne xs
theorem itAt_keep {k : Bool} {h h' : Heap} {it a : Addr} (x : itAt k h it a i) (e : ∀ o, h.get? it = some o → h'.get? it = some o) : itAt k h' it a i := by
  cases k with
  | true => exact Heap.IsListIter.at x e
  | false => exact Heap.IsTupleIter.at x e
theorem itAt_get {k : Bool} {h : Heap} {it a : Addr} (x : itAt k h it a i) : ∃ o, h.get? it = some o ∧ ∀ v, o.data ≠ .cell v := by
  cases k with
  | true => obtain ⟨o, h1, _, h2⟩ := x; exact ⟨o, h1, fun v e => by rw [h2] at e; cases e⟩
  | false => obtain ⟨o, h1, _, h2⟩ := x; exact ⟨o, h1, fun v e => by rw [h2] at e; cases e⟩
abbrev tupO (xs : Array Value) : Obj := { cls := .type "tuple", data := .seq xs }
structure ZApart (z TI TO : Addr) (qs : List Sr) : Prop where
  TIz : TI ≠ z
  TOz : TO ≠ z
  TITO : TI ≠ TO
  iz : ∀ q ∈ qs, q.it ≠ z
  iTI : ∀ q ∈ qs, q.it ≠ TI
  iTO : ∀ q ∈ qs, q.it ≠ TO
  az : ∀ q ∈ qs, q.a ≠ z
  aTO : ∀ q ∈ qs, q.a ≠ TO
  ai : ∀ q ∈ qs, ∀ q' ∈ qs, q.a ≠ q'.it
  nd : (qs.map Sr.it).Nodup
end
end WF
namespace WF
open PySem PySem.Spec PyProof.Rows L2
section
variable {prog : Program} {w : World} {A : Around} {E : Value → Shared → Prop} {s : Shared} {i : Nat} {z TI TO : Addr} {qs : List Sr} {old : Array Value} {strict : Bool}
end
end WF
namespace WF
open PySem PySem.Spec PyProof.Rows L2
section
variable {prog : Program} {w : World} {A : Around} {E : Value → Shared → Prop} {s : Shared} {i : Nat} {z TI TO : Addr} {qs : List Sr} {old : Array Value} {strict : Bool}
end
end WF
namespace WF
open PySem PySem.Spec PyProof.Rows L2
section
variable {prog : Program} {w : World} {A : Around} {E : Value → Shared → Prop} {s : Shared}
abbrev iterO (k : Bool) (a : Addr) : Obj := { cls := .type (if k then "list_iterator" else "tuple_iterator"), data := .fields #[.ref a, .int 0 0] }
theorem pyIterK {k : Bool} {a : Addr} {xs : Array Value} {Q : Value → Shared → Prop} (h : seqAt k s.heap a xs) (hQ : Q (.ref s.heap.objs.size) { s with heap := s.heap.push (iterO k a) }) : wpAny (model prog w) A (pyIter (.ref a)) Q E s := by
  cases k with
  | true => exact wpAny_pyIter_list h hQ
  | false => exact wpAny_pyIter_tuple h hQ
theorem iterO_at {k : Bool} {h : Heap} {a it : Addr} (e : h.get? it = some (iterO k a)) : itAt k h it a 0 := by
  cases k with
  | true => exact ⟨_, e, rfl, rfl⟩
  | false => exact ⟨_, e, rfl, rfl⟩
def kwS (strict : Bool) (kf : Bool := false) : List (Str × Value) := if strict then [("strict", .bool true)] else if kf then [("strict", .bool false)] else []
end
end WF
namespace WF
open PySem PySem.Spec PyProof.Rows L2
def SqK (K : PySem.W.Frag) (H : Hp) (x : Addr × Bool) (vs : List V) : Prop := match x.2 with
  | true => SqL K H x.1 vs
  | false => SqT K H x.1 vs
inductive RdAll (K : PySem.W.Frag) (H : Hp) : List (Addr × Bool) → List (List V) → Prop where
  | nil : RdAll K H [] []
  | cons {x vs xs vss} : SqK K H x vs → RdAll K H xs vss → RdAll K H (x :: xs) (vs :: vss)
section
variable {X : Cx} {pins : List (Addr × Obj)} {σ : L2.St} {H : Hp} {s : Shared} {i : Nat}
theorem sqK_inj {x : Addr × Bool} {vs vs' : List V} (I : L2.Inv X pins σ H s) (h : SqK X.K H x vs) (h' : SqK X.K H x vs') : vs = vs' := by
  obtain ⟨a, k⟩ := x
  cases k with
  | true => exact I.list_inj h h'
  | false => exact I.tuple_inj h h'
theorem sqK_at (I : L2.Inv X pins σ H s) {x : Addr × Bool} {vs : List V} (h : SqK X.K H x vs) : ∃ its : List Value, Vals vs its ∧ seqAt x.2 s.heap x.1 its.toArray := by
  obtain ⟨a, k⟩ := x
  cases k with
  | true => obtain ⟨its, r, p, _⟩ := I.list h; exact ⟨its, r, p.isList⟩
  | false => obtain ⟨its, r, p, _⟩ := I.tuple h; exact ⟨its, r, p⟩
end
structure ZTurn (z TI TO : Addr) (ts : List Addr) (xs : List (Addr × Bool)) : Prop where
  TIz : TI ≠ z
  TOz : TO ≠ z
  TITO : TI ≠ TO
  tz : ∀ t ∈ ts, t ≠ z ∧ t ≠ TI ∧ t ≠ TO
  xz : ∀ x ∈ xs, x.1 ≠ z ∧ x.1 ≠ TO ∧ ∀ t ∈ ts, x.1 ≠ t
  nd : ts.Nodup
  len : ts.length = xs.length
  ne : xs ≠ []
  sm : xs.length ≤ 1000
end WF
namespace WF
open PySem PySem.Spec PyProof.Rows L2
section
variable {M : Model} {A : Around} {E : Value → Shared → Prop} {s : Shared} {env : Env}
end
structure ZipArgs (strict : Bool) (us : List Value) (kf : Bool := false) : Prop where
  ct : checkTypeCall "zip" ⟨us, kwS strict kf⟩ = pure ()
  cn : checkBuiltinCall "zip.__new__" ⟨.type "zip" :: us, kwS strict kf⟩ = pure ()
  ok : ∀ obj, argsOk "object.__init__" ⟨obj :: us, kwS strict kf⟩
section
variable {prog : Program} {w : World} {A : Around} {E : Value → Shared → Prop} {s : Shared}
end
section
variable {X : Cx} {pins : List (Addr × Obj)} {σ : L2.St} {H : Hp} {s : Shared}
theorem seqAt_lt {k : Bool} {h : Heap} {a : Addr} {xs : Array Value} (x : seqAt k h a xs) : a < h.objs.size := by
  cases k with
  | true => obtain ⟨o, e, _⟩ := x; exact Heap.lt_size e
  | false => obtain ⟨o, e, _⟩ := x; exact Heap.lt_size e
variable {e : Expr} {es : List Expr} {p pos tpos kpos cpos : Pos} {elts : List Expr} {kk j : Nat} {ta : TA}
end
end WF
namespace WF
open PySem PySem.Spec PyProof.Rows L2
section
variable {prog : Program} {w : World} {A : Around} {E : Value → Shared → Prop} {s : Shared}
theorem meets_enumK (k : Bool) (a : Addr) (xs : Array Value) :
    Meets (Builtin.«enumerate.__new__» ⟨[.type "enumerate", .ref a], []⟩) (fun _ R s => seqAt k s.heap a xs ∧ R (.ok (.ret (.ref (s.heap.push (iterO k a)).objs.size)))
      { s with heap := (s.heap.push (iterO k a)).push { cls := .type "enumerate", data := .fields #[.none, .bool false, .ref s.heap.objs.size, rawInt 0, .none, .none] } }) :=
  .of_wp fun prog w A R s h => by
    obtain ⟨hp, g, d, tk, os⟩ := s
    obtain ⟨hl, h⟩ := h
    have hsub := sub_enumerate
    have hL : seqAt k (Shared.heap ⟨hp, g, d, tk, os⟩) a xs := hl
    wp_walk
    refine wpAny_stack_any fun st => wpAny_pure ?_
    split
    · rename_i c _ _ _ _ _
      cases (c == Value.type "enumerate")
      · wp_walk using pyIterK hL
        exact ⟨_, rfl, h⟩
      · wp_walk using pyIterK hL
        exact ⟨_, rfl, h⟩
    · wp_walk using pyIterK hL
      exact ⟨_, rfl, h⟩
theorem call_enumK {k : Bool} {a : Addr} {xs : Array Value} {Q : Value → Shared → Prop} (hL : seqAt k s.heap a xs)
    (h : ∀ h', IsEnum h' (s.heap.objs.size + 1) s.heap.objs.size 0 .none → itAt k h' s.heap.objs.size a 0 → (∀ b o, s.heap.get? b = some o → h'.get? b = some o) → Q (.ref (s.heap.objs.size + 1)) { s with heap := h' }) :
    wpAny (model prog w) A (call (.type "enumerate") [.ref a]) Q E s := by
  have hz : (s.heap.push (iterO k a)).objs.size = s.heap.objs.size + 1 := Heap.size_push ..
  refine callType_new F.called_enumerate (by decide) (F.typeCall_enumerate_1 _) (F.newCall_enumerate_1 _) (fun obj => F.args_object_init_2 obj _) F.entry_enumerate_new (meets_enumK k a xs) ⟨hL, ?_⟩
  show _ ∧ _
  rw [hz]
  have he : IsEnum ((s.heap.push (iterO k a)).push { cls := .type "enumerate", data := .fields #[.none, .bool false, .ref s.heap.objs.size, rawInt 0, .none, .none] }) (s.heap.objs.size + 1) s.heap.objs.size 0 .none := by
    rw [← hz]
    exact Heap.get?_push_size _ rfl
  exact ⟨⟨_, he, rfl⟩, h _ he (iterO_at (Heap.get?_push_of_some _ (Heap.get?_push_size _ rfl))) fun b o x => Heap.get?_push_of_some _ (Heap.get?_push_of_some _ x)⟩
end
def Ite2 (K : PySem.W.Frag) (x : Addr × Bool) : It :=
  ⟨fun i H => ∃ (xs : List V) (u : V), SqK K H x xs ∧ xs[i]? = some u, fun i H v H' => ∃ T u, v = .ref T ∧ H T = none ∧ H' = upd H T (.tup [.int (i : Nat), u]) ∧ ∀ xs, SqK K H x xs → xs[i]? = some u, fun i H => ∃ xs : List V, SqK K H x xs ∧ xs.length = i⟩
theorem turn_enumX {P : Program} {w : World} {K : PySem.W.Frag} {elts : List Expr} {kk : Nat} {tpos : Pos} {x : Addr × Bool} {e it : Addr} (hei : e ≠ it) (hea : e ≠ x.1) (hia : x.1 ≠ it) :
    Turn P w K (.Tuple elts kk tpos) (Ite2 K x) [e, it] e (fun i h => (∃ old, IsEnum h e it ((i : Nat) : Int) old) ∧ itAt x.2 h it x.1 i) where
  mem := List.mem_cons_self
  obj := fun i h st b hb => by
    obtain ⟨⟨old, he⟩, hi⟩ := st
    have e' : b = e ∨ b = it := by simpa using hb
    rcases e' with rfl | rfl
    · exact ⟨_, he, fun v q => nomatch q⟩
    · exact itAt_get hi
  keep := fun i h h' st k => let ⟨⟨old, he⟩, hi⟩ := st; ⟨⟨old, k e (by simp) _ he⟩, itAt_keep hi fun o q => k it (by simp) o q⟩
  item := by
    intro X hP hw hK hc i pins s σ H E I hf st hg
    subst hP hw hK
    obtain ⟨⟨old, he⟩, hit⟩ := st
    obtain ⟨xs, u, hq, hx⟩ := hg
    obtain ⟨its, rv, hseq⟩ := sqK_at I hq
    obtain ⟨y, hy, ry⟩ := rv.get hx
    have hh : X.A.handled = none := I.ok.hd hc
    have hlt : i < its.length := (List.getElem?_eq_some_iff.mp hy).1
    have hel : e < s.heap.objs.size := Heap.lt_size he
    obtain ⟨oi, hoi, _⟩ := itAt_get hit
    have hil : it < s.heap.objs.size := Heap.lt_size hoi
    let q : Sr := ⟨it, x.1, x.2, its.toArray⟩
    have dr : Draws X.prog X.w X.A.in1 it [it, x.1] its.toArray.size (fun i v => its.toArray[i]? = some v) (fun i h => q.St i h) := q.draws (A := X.A.in1) hh hia
    refine wpAny_pyNext_enum_itemD dr he ⟨hit, hseq⟩ (by simpa using hlt) hei (by simp [hei, hea]) fun z h' tk ez ho st' hT hsz kp => ?_
    have ez : z = y := by
      have : its[i]? = some z := by simpa using ez
      rw [hy] at this
      exact (Option.some.inj this).symm
    subst ez
    refine ⟨_, rfl, wpAny_letOwnedTupleGo_enum (s := { s with heap := h', toks := tk + 1 }) ho fun h2 he2 sb => ?_⟩
    have sb : Heap.SameBut e h' h2 := sb
    have hT2 : h2.get? s.heap.objs.size = some (tupO #[.int i tk, z]) := sb.extBut _ _ (Nat.ne_of_gt hel) hT
    have new : ObjOk X.prog X.w (upd H s.heap.objs.size (.tup [.int (i : Nat), u])) h2 s.heap.objs.size (.tup [.int (i : Nat), u]) :=
      ⟨by show 2 ≤ sizeLine; decide, [.int i tk, z], .cons ⟨_, rfl⟩ (.cons ry .nil), ⟨_, hT2, rfl, _, rfl⟩⟩
    have I1 : L2.Inv X pins σ (upd H s.heap.objs.size (.tup [.int (i : Nat), u])) { s with heap := h2, toks := tk + 1 } :=
      I.turnedNew (ch := [e, it]) (fun b ob hb q => sb.extBut _ _ (fun z => hb (by simp [z])) (kp b ob (fun z => hb (by simp [z])) (fun z => hb (by simp [z])) q)) hf (Nat.le_refl _) new
    refine ⟨.ref s.heap.objs.size, _, I1, rfl, ⟨_, u, rfl, I.hok.fresh (Nat.le_refl _), rfl, fun ys hy => by rw [sqK_inj I hy hq]; exact hx⟩, ⟨⟨z, ?_⟩, itAt_keep st'.1 fun o q => sb.extBut _ _ (Ne.symm hei) q⟩, fun b hb => ?_⟩
    · have e1 : ((i + 1 : Nat) : Int) = (i : Int) + 1 := by omega
      rw [e1]; exact he2
    · have hb' : b < s.heap.objs.size := by
        have e' : b = e ∨ b = it := by simpa using hb
        rcases e' with z | z
        · rw [z]; exact hel
        · rw [z]; exact hil
      rw [upd_ne (Nat.ne_of_lt hb')]
      exact (hf b hb).1
  done := by
    intro X hP hw hK hc i pins s σ H E I hf st hg
    subst hP hw hK
    obtain ⟨⟨old, he⟩, hit⟩ := st
    obtain ⟨xs, hq, hx⟩ := hg
    obtain ⟨its, rv, hseq⟩ := sqK_at I hq
    have hh : X.A.handled = none := I.ok.hd hc
    obtain ⟨f0, f1, f2, f3, f4, f5⟩ := hf it (by simp)
    let q : Sr := ⟨it, x.1, x.2, its.toArray⟩
    have dr : Draws X.prog X.w X.A.in1 it [it, x.1] its.toArray.size (fun i v => its.toArray[i]? = some v) (fun i h => q.St i h) := q.draws (A := X.A.in1) hh hia
    have hn : its.toArray.size = i := by rw [List.size_toArray, ← rv.length]; exact hx
    refine wpAny_pyNext_enum_endD dr he (by rw [hn]; exact ⟨hit, hseq⟩) fun h' eb => ⟨rfl, I.turned (t' := s.toks) (fun b o hb q => eb b o hb q) f0 f1 f3 f4 f5⟩
  self := fun A i s Q E st h => let ⟨⟨_, he⟩, _⟩ := st; wpAny_pyIter_enum he h
def iEnumX (K : PySem.W.Frag) (ta : TA) : TI := fun σ H R => ta σ H fun vs H1 => ∃ (x : Addr × Bool) (xs : List V), vs = [.ref x.1] ∧ SqK K H1 x xs ∧ R (Ite2 K x) H1
theorem pi_enumX {X : Cx} {e : Expr} {ta : TA} {p pos tpos : Pos} {elts : List Expr} {kk : Nat} (hg : Gl X "enumerate") (hm : X.mg "enumerate" = none) (ha : PA X [e] ta) (hs : starEach [e] X.env = [(false, eval e X.env)] := by rfl) :
    PI X (.Tuple elts kk tpos) (.Call (.Name "enumerate" p) [e] [] pos) (iEnumX X.K ta) := ⟨fun pins s σ H R I h => by
  refine Call_ (ld_blt I hg hm boot_enumerate (PyProof.Rows.callWith_type1 (thn (ha.run pos pins s σ H _ I h) fun us s1 ⟨vs, H1, I1, r1, q1⟩ => ?_) hs rfl))
  obtain ⟨x, xs, ex, hq, q⟩ := q1
  subst ex
  obtain ⟨u, rfl, ru⟩ := vals1 r1
  cases (show u = Value.ref x.1 from ru)
  obtain ⟨its, rv, hseq⟩ := sqK_at I1 hq
  refine call_enumK hseq fun h' he hit hk => wpAny_pyIter_enum he ?_
  have I2 : L2.Inv X pins σ H1 { s1 with heap := h' } := I1.kept (t' := s1.toks) hk
  have hlt : Nat.lt x.1 s1.heap.objs.size := seqAt_lt hseq
  refine ⟨s1.heap.objs.size + 1, [s1.heap.objs.size + 1, s1.heap.objs.size], _, _, H1, rfl, I2, turn_enumX (Nat.succ_ne_self _) (Nat.ne_of_gt (Nat.lt_succ_of_lt hlt)) (Nat.ne_of_lt hlt), ⟨⟨.none, he⟩, hit⟩, fun b hb => ?_, q⟩
  have e' : b = s1.heap.objs.size + 1 ∨ b = s1.heap.objs.size := by simpa using hb
  have hle : s1.heap.objs.size ≤ b := by
    rcases e' with z | z
    · rw [z]; exact Nat.le_succ _
    · rw [z]; exact Nat.le_refl _
  exact I1.fpOk hle (I1.hok.fresh hle)⟩
def kindD : D → Bool
  | .tup _ => false
  | _ => true
section
variable {K : PySem.W.Frag} {H : Hp} {R : List Pr} {v : V} {d d' : D} {xs : List D}
theorem Joint.accK (h : WF.seqV d = some (xs, d')) (j : Joint K H ((v, d') :: R)) : ∃ p vs, v = .ref p ∧ ((H p = some (.lst vs) ∧ kindD d' = true) ∨ (H p = some (.tup vs) ∧ kindD d' = false)) ∧ vs.length = xs.length ∧ ∀ (n : Nat) u x, vs[n]? = some u → xs[n]? = some x → Joint K H ((u, x) :: (v, d') :: R) := by
  obtain ⟨p, vs, e, k, hl, get⟩ := Joint.acc h j
  refine ⟨p, vs, e, ?_, hl, get⟩
  rcases k with ⟨ys, rfl, hp⟩ | ⟨ys, rfl, hp⟩ | ⟨ys, rfl, hp⟩
  · exact .inl ⟨hp, rfl⟩
  · exact .inl ⟨hp, rfl⟩
  · exact .inr ⟨hp, rfl⟩
theorem sqK_of {p : Addr} {k : Bool} {vs : List V} (h : (H p = some (.lst vs) ∧ k = true) ∨ (H p = some (.tup vs) ∧ k = false)) : SqK K H (p, k) vs := by
  rcases h with ⟨h, rfl⟩ | ⟨h, rfl⟩
  · exact .inl (.inl h)
  · exact .inl (.inl h)
end
end WF
namespace WF
open PySem PySem.Spec PyProof.Rows L2
structure ZipIs (strict : Bool) (xss : List (List D)) (R : List D) : Prop where
  at_ : ∀ (i : Nat) d, R[i]? = some d → ∃ es, d = .tup es ∧ es.map some = xss.map (fun l => l[i]?)
  le : ∀ xs ∈ xss, R.length ≤ xs.length
  fin : if strict = true then ∀ xs ∈ xss, R.length = xs.length else ∃ xs ∈ xss, R.length = xs.length
def zip2D (strict : Bool) : List (List D) → Option (List D)
  | [xs, ys] => if strict && xs.length != ys.length then none else some (List.zipWith (fun x y => .tup [x, y]) xs ys)
  | _ => none
section
variable {K : PySem.W.Frag} {H : Hp} {ds : List D} {xss : List (List D)} {vs : List V} {Rr : List D} {strict : Bool}
def enumD : List (List D) → Option (List D)
  | [xs] => some (xs.zipIdx.map fun p => .tup [.int (p.2 : Nat), p.1])
  | _ => none
theorem iter_enumX {x : Addr × Bool} {d0 d' : D} {xs : List D} (h : seqV d0 = some (xs, d')) (hk : x.2 = kindD d') : Iter K (Ite2 K x) [(.ref x.1, d')] (xs.zipIdx.map fun p => .tup [.int (p.2 : Nat), p.1]) := by
  obtain ⟨p, k⟩ := x
  have hk : k = kindD d' := hk
  have main : ∀ {H : Hp} {L : List Pr}, Joint K H ([(.ref p, d')] ++ L) → ∃ vs, SqK K H (p, k) vs ∧ vs.length = xs.length ∧ ∀ (n : Nat) u x, vs[n]? = some u → xs[n]? = some x → Joint K H ((u, x) :: ([(.ref p, d')] ++ L)) := fun {H L} j => by
    obtain ⟨q, vs, e, sk, hl, get⟩ := Joint.accK (R := L) h j
    cases e
    rw [← hk] at sk
    exact ⟨vs, sqK_of sk, hl, get⟩
  refine ⟨fun i H L hi j => ?_, fun i H L d y H' hd j yy => ?_, fun H L j => ?_⟩
  · obtain ⟨vs, sq, hl, get⟩ := main j
    have hi' : i < vs.length := by simp at hi; omega
    exact ⟨vs, vs[i], sq, List.getElem?_eq_getElem _⟩
  · obtain ⟨vs, sq, hl, get⟩ := main j
    obtain ⟨T, u, rfl, hT, rfl, hu⟩ := yy
    rw [List.getElem?_map, List.getElem?_zipIdx] at hd
    cases q : xs[i]? with
    | none => rw [q] at hd; cases hd
    | some x =>
      rw [q] at hd
      simp at hd
      subst hd
      exact Joint.tup (vs := [.int (i : Nat), u]) (ds := [.int (i : Nat), x]) rfl (ju_int (get i u x (hu vs sq) q)) hT
  · obtain ⟨vs, sq, hl, get⟩ := main j
    exact ⟨vs, sq, by simp [hl]⟩
end
section
variable {c : Cfg} {X : Cx} {as : List Ar} {e : Expr} {es : List Expr} {p pos tpos kpos cpos : Pos} {elts : List Expr} {kk j : Nat}
theorem tArgsA_len : ∀ {as : List Ar} {σ : L2.St} {H : Hp} {Q : List V → Hp → Prop}, tArgsA c as σ H Q → tArgsA c as σ H fun vs H1 => vs.length = as.length ∧ Q vs H1
  | [], _, _, _, h => ⟨rfl, h⟩
  | .v f :: r, _, _, _, h => T.mono h fun v H1 h1 => tArgsA_mono (tArgsA_len h1) fun vs H2 ⟨a, b⟩ => ⟨by simp [a], b⟩
  | .s i :: r, _, _, _, ⟨v, e, h⟩ => ⟨v, e, tArgsA_mono (tArgsA_len h) fun vs H2 ⟨a, b⟩ => ⟨by simp [a], b⟩⟩
variable {e1 e2 e3 : Expr} {y1 y2 y3 : Ar}
theorem wi_enum (hK : c.K = X.K) (hg : Gl X "enumerate") (hm : X.mg "enumerate" = none) (ha : PA X [e1] (tArgsA c [y1])) (hs : starEach [e1] X.env = [(false, eval e1 X.env)] := by rfl) : PI X (.Tuple elts kk tpos) (.Call (.Name "enumerate" p) [e1] [] pos) (TIm c (walkM enumD [y1])) :=
  pi_mono (pi_enumX hg hm ha hs) fun σ H R h => by
    refine tArgsA_mono (src_post h) fun vs H1 ⟨ds, xss, ys, hc, sa, hl, hd, ⟨Z, jz⟩, fin⟩ => ?_
    obtain ⟨d, rfl⟩ := one_len hd
    obtain ⟨v, rfl⟩ := one_of hl
    cases sa with
    | cons h1 h2 =>
      cases h2
      cases hc
      have jz : Joint c.K H1 ((v, d) :: Z) := jz
      obtain ⟨q, ws, rfl, sk, _, _⟩ := Joint.accK h1 jz
      exact ⟨(q, kindD d), ws, rfl, hK ▸ sqK_of sk, fin _ (hK ▸ iter_enumX (x := (q, kindD d)) h1 rfl)⟩
end
end WF
namespace WF
open PySem PySem.Spec PyProof.Rows L2
def lstS (i : Nat) (f : EM) : EM := fun S => match S[i]? with
  | some (.lst o xs) => f S
  | _ => none
def modS (i : Nat) (g : List D → Option (D × List D)) : EM := fun S => match S[i]? with
  | some (.lst true xs) => (g xs).map fun r => (.ok r.1, S.set i (.lst true r.2))
  | _ => none
def appM (i : Nat) (fe : EM) : EM := lstS i (bindM fe fun d => modS i fun xs => if xs.length < 1000000 then some (.non, xs ++ [d]) else none)
def extM (i : Nat) (fe : EM) : EM := lstS i (bindM fe fun d => modS i fun xs => match d with
  | .lst _ ys => if xs.length + ys.length < 1000000 then some (.non, xs ++ ys) else none
  | _ => none)
section
variable {c : Cfg} {X : Cx} {S : S0} {tm tm0 : List Pr} {σ : L2.St} {H : Hp} {i : Nat} {a b e o : Expr} {fa fb fe : EM} {pos apos : Pos}
theorem lst_get {f : EM} {Q : VK} (j : SJ c S tm σ H) (p : post c (lstS i f S) tm0 σ Q) : ∃ q vs, σ[i]? = some (some (.ref q)) ∧ H q = some (.lst vs) ∧ post c (f S) tm0 σ Q := by
  unfold lstS at p
  split at p
  · rename_i o xs hd
    obtain ⟨v, ev, Z, k, _⟩ := j.get hd rfl
    obtain ⟨q, rfl⟩ := k.is_lst
    obtain ⟨vs, hp, _⟩ := k.unlst
    exact ⟨q, vs, ev, hp, p⟩
  · exact p.elim
theorem t_app {Q : VK} (h : T c (appM i fe) σ H Q) : tBM X.K "list" rAppend (tVar i) (tCons (T c fe) tNil) σ H Q := by
  obtain ⟨S, tm, j, p⟩ := h
  obtain ⟨q, vs, ev, hp, p⟩ := lst_get j p
  refine ⟨_, ev, .inl ⟨rfl, vs, .inl (.inl hp)⟩, (post_bind j p).mono fun v H1 ⟨d, S1, j1, p1⟩ => ?_⟩
  unfold modS at p1
  split at p1
  · rename_i xs hd
    obtain ⟨v', ev', Z, k, put⟩ := j1.get2 hd rfl
    have e0 : v' = .ref q := by rw [ev] at ev'; exact (Option.some.inj (Option.some.inj ev')).symm
    subst e0
    by_cases hlt : xs.length < 1000000
    · simp only [if_pos hlt, Option.map_some] at p1
      obtain ⟨us, hq, hl, k2⟩ := k.sw.app
      refine ⟨q, us, v, rfl, rfl, hq, Nat.lt_trans (by omega : us.length < 1000000) (by decide), p1 .non _ ?_⟩
      exact put _ [(.non, .non)] _ (ju_non k2).sw
    · simp only [if_neg hlt, Option.map_none] at p1
      exact p1.elim
  · exact p1.elim
theorem w_app (h : PE X e (tBM X.K "list" rAppend (tVar i) (tCons (T c fe) tNil))) : PE X e (T c (appM i fe)) := pe_mono h fun _ _ _ h => t_app h
def gSubM (i : Nat) (fk : EM) : GM := fun d S => match S[i]? with
  | some (.lst _ _) => match fk S with
    | some (.ok (.int k), S1) => match S1[i]? with
      | some (.lst true xs) => match ixN xs.length k with
        | some m => some (S1.set i (.lst true (xs.set m d)))
        | none => none
      | _ => none
    | _ => none
  | _ => none
theorem zip_set : ∀ {vs : List V} {ds : List D} {m : Nat} {v : V} {d : D}, vs.length = ds.length → m < vs.length → ∃ u x Z, (vs.zip ds).Perm ((u, x) :: Z) ∧ ((vs.set m v).zip (ds.set m d)).Perm ((v, d) :: Z)
  | u :: vs, x :: ds, 0, v, d, h, _ => ⟨u, x, vs.zip ds, .refl _, .refl _⟩
  | u :: vs, x :: ds, m + 1, v, d, h, hm => by
    obtain ⟨u', x', Z, p1, p2⟩ := zip_set (vs := vs) (ds := ds) (m := m) (v := v) (d := d) (by simpa using h) (by simpa using hm)
    exact ⟨u', x', (u, x) :: Z, (List.Perm.cons _ p1).trans (List.Perm.swap _ _ _), (List.Perm.cons _ p2).trans (List.Perm.swap _ _ _)⟩
  | [], _, _, _, _, _, h => by simp at h
  | _ :: _, [], _, _, _, h, _ => by simp at h
theorem Joint.setL {K : PySem.W.Frag} {p : Addr} {ds : List D} {v : V} {d : D} {R : List Pr} {m : Nat} (j : Joint K H ((.ref p, .lst true ds) :: (v, d) :: R)) (hm : m < ds.length) : ∃ vs, H p = some (.lst vs) ∧ vs.length = ds.length ∧ Joint K (upd H p (.lst (vs.set m v))) ((.ref p, .lst true (ds.set m d)) :: R) := by
  obtain ⟨vs, hp, hl, k⟩ := j.openL
  obtain ⟨u, x, Z, p1, p2⟩ := zip_set (v := v) (d := d) hl (by omega : m < vs.length)
  refine ⟨vs, hp, hl, JX.close (by simp [hl]) ?_⟩
  have k1 := k.perm (List.Perm.append_right _ p1)
  have k2 : JX K H p (Z ++ ((v, d) :: R)) := JX.drop k1
  exact (k2.perm perm_take).perm (List.Perm.append_right _ p2.symm)
theorem wg_sub {t : Expr} {fk : EM} (h : PG X t (gSub (tVar i) (T c fk) rSetL)) : PG X t (UG c (gSubM i fk)) := pg_mono h fun v σ H Q h => by
  obtain ⟨d, S, tm, j, p⟩ := h
  unfold gSubM at p
  split at p
  · rename_i S' heq
    split at heq
    · rename_i o xs0 hd0
      obtain ⟨w, ew, Z0, k0, _⟩ := j.get hd0 rfl
      obtain ⟨q, rfl⟩ := k0.is_lst
      refine ⟨_, ew, S, (v, d) :: tm, j, ?_⟩
      split at heq
      · rename_i k S1 hfk
        rw [hfk]
        split at heq
        · rename_i xs hd1
          split at heq
          · rename_i m hm
            cases heq
            intro kv H1 j1
            have ek := j1.take.is_int
            obtain ⟨w', ew', Z, k1, put⟩ := (j1.drop).get2 hd1 rfl
            have e0 : w' = .ref q := by rw [ew] at ew'; exact (Option.some.inj (Option.some.inj ew')).symm
            subst e0
            have hml : m < xs.length := (ixN_seq hm).2.1
            obtain ⟨us, hq, hl, k2⟩ := k1.sw.setL hml
            exact ⟨q, us, k, m, rfl, ek, hq, by rw [hl]; exact hm, p _ _ (put _ [] _ k2)⟩
          · cases heq
        · cases heq
      · cases heq
    · cases heq
  · exact p.elim
end
end WF
namespace WF
open PySem PySem.Spec PyProof.Rows L2
abbrev FnP (K : PySem.W.Frag) (x : Str) (st : Stmt) (kws : List (Str × V)) (f : Addr) (fd : FuncData) : Prop := FunD K x x (defArgs st) (defBody st) (defScope st) [] kws f fd
section
variable {P : Program} {w : World} {K : PySem.W.Frag} {mg : Str → Option Value} {base : Heap}
theorem def_okD {x : Str} {st : Stmt} {kws : List (Str × V)} {f : Addr} {fd : FuncData} {N ps : List Str} {k : Nat} {mask : List Bool} {fb : SM} (F : FnP K x st kws f fd) (S : FnScope N ps (defScope st)) (hm : mask.length = ps.length) (hN : ps.length ≤ N.length)
    (hbody : ∀ (cdv : Value) (A : Around) (outer : List Env) (s : Shared) (H : Hp) (vs : List V) (rs : List Pr) (E : XK), Room k (A.deeper (envOfC x (defScope st) s.heap.objs.size f cdv)) → vs.length = ps.length →
      PSs (cxOf (L2.CX P w) P w K mg base N x (defScope st) f cdv A outer s H E) (defBody st) (U (cfgOf K mask N.length vs rs E) fb)) :
    FnOk P w K mg base (L2.CX P w) (k + 1) f fd ps (spOf K ps.length (defM mask N.length fb)) := by
  refine F.ok (CX := L2.CX P w) S (fun vs H Q E h => h.1) fun cdv A outer s H vs Q E hr h => ?_
  obtain ⟨hl, ds, rs, hd, j, mt⟩ := h
  refine ⟨_, hbody cdv A outer s H vs rs E hr hl, ds ++ List.replicate (N.length - mask.length) .un, [], ⟨?_, fun i d h hu => ?_, fun i o h => ?_, ?_, ?_⟩, ?_⟩
  · simp [L2.start, hl, hd, hm]
  · by_cases hi : i < ds.length
    · refine ⟨vs[i]'(by omega), ?_⟩
      unfold L2.start
      rw [List.getElem?_append_left (by simp; omega)]
      simp [show i < vs.length by omega]
    · rw [List.getElem?_append_right (by omega)] at h
      rw [List.getElem?_replicate] at h
      split at h
      · cases h; exact (hu rfl).elim
      · cases h
  · exact pvOf_get (r := List.replicate (N.length - vs.length) none) (pv_split h)
  · simp [L2.start, pvOf_len (hm.trans hl.symm), hl, hm]
  · unfold L2.start
    rw [show N.length - vs.length = N.length - mask.length by omega, slotL_start (by omega)]
    exact Joint.uns j
  · unfold defM at mt
    have fin : ∀ {S1 : S0} {σ : L2.St} {H' : Hp} {tm : List Pr}, (maskM mask S1).length = ps.length → SJ (cfgOf K mask N.length vs rs E) S1 tm σ H' → Joint K H' (vs.zip (maskM mask S1) ++ (tm ++ rs)) := fun {S1 σ H' tm} e j' =>
      mask_ok (by omega) j'.len (by have := maskM_le (e.trans hm.symm); omega) (fun i o h => j'.pv i o (by
        rw [List.getElem?_append_left (List.getElem?_eq_some_iff.mp h).1]
        exact h)) j'.jt
    cases hb : fb (ds ++ List.replicate (N.length - mask.length) D.un) with
    | none => rw [hb] at mt; exact mt.elim
    | some o =>
      obtain ⟨fl, S1⟩ := o
      rw [hb] at mt
      cases fl with
      | nx => exact fun σ H' j' => mt.2 _ _ (j_non (c := cfgOf K mask N.length vs rs E) H' _ (fin mt.1 j'))
      | rt d => exact fun v σ H' j' => mt.2 _ _ ((fin mt.1 j').perm perm_take)
      | bk => exact mt.elim
      | ct => exact mt.elim
      | ex y => exact fun cls dd σ H' ⟨fv, x1, x2, x3, k⟩ => mt.2 cls dd H' ⟨fv, x1, x2, x3, (fin mt.1 k).perm perm_sw⟩
theorem fn_none {f : Addr} {fd : FuncData} {ps : List Str} {k n : Nat} : FnOk P w K mg base (L2.CX P w) k f fd ps (spOf K n fun _ => none) :=
  ⟨fun _ _ _ _ ⟨_, _, _, _, _, h⟩ => h.elim, fun _ _ _ _ _ _ _ _ _ _ _ _ _ ⟨_, _, _, _, _, h⟩ => h.elim⟩
end
def pick {α : Type} (d : α) (ix : List Nat) (xs : List α) : List α := ix.map fun i => xs.getD i d
def pickF (ix inv : List Nat) (dd : List D) (m : Fn) : Fn := fun ds => match m (pick .un ix (ds ++ dd)) with
  | some (o, as) => if as.length = ix.length then some (o, (pick .un inv as).take ds.length) else none
  | none => none
section
theorem pick_len {α : Type} {d : α} {ix : List Nat} {xs : List α} : (pick d ix xs).length = ix.length := by simp [pick]
theorem map_range_getD {α : Type} (d : α) (xs : List α) : (List.range xs.length).map (fun i => xs.getD i d) = xs := by
  refine List.ext_getElem (by simp) fun i h1 h2 => ?_
  simp at h1
  simp [List.getElem?_eq_getElem h2]
theorem pick_perm {α : Type} {d : α} {ix : List Nat} {xs : List α} (h : ix.Perm (List.range xs.length)) : (pick d ix xs).Perm xs := by
  have := h.map (fun i => xs.getD i d)
  rwa [map_range_getD] at this
theorem pick_zip {ix : List Nat} {vs : List V} {ds : List D} (h : ∀ i ∈ ix, i < vs.length) (hl : vs.length = ds.length) : (pick .non ix vs).zip (pick .un ix ds) = pick (V.non, D.un) ix (vs.zip ds) := by
  induction ix with
  | nil => rfl
  | cons i ix ih =>
    have ih := ih fun j m => h j (List.mem_cons_of_mem _ m)
    have hi := h i List.mem_cons_self
    simp only [pick, List.map_cons, List.zip_cons_cons] at ih ⊢
    rw [ih]
    congr 1
    simp only [List.getD_eq_getElem?_getD, List.getElem?_zip_eq_some, List.getElem?_eq_getElem hi, List.getElem?_eq_getElem (show i < ds.length by omega), List.getElem?_eq_getElem (show i < (vs.zip ds).length by simp; omega), Option.getD_some, List.getElem_zip]
theorem pick_inv {α : Type} {d : α} {ix inv : List Nat} {as : List α} (h : ∀ j, j < ix.length → inv.getD (ix.getD j 0) as.length = j) (hi : ∀ i ∈ ix, i < inv.length) (hl : as.length = ix.length) : pick d ix (pick d inv as) = as := by
  refine List.ext_getElem (by rw [pick_len, hl]) fun j h1 h2 => ?_
  have hj : j < ix.length := by rwa [pick_len] at h1
  have hx := hi (ix[j]) (List.getElem_mem hj)
  have e := h j hj
  rw [List.getD_eq_getElem?_getD, List.getElem?_eq_getElem (by simpa [List.getD_eq_getElem?_getD, List.getElem?_eq_getElem hj] using hx)] at e
  simp only [List.getD_eq_getElem?_getD, List.getElem?_eq_getElem hj, Option.getD_some] at e
  simp only [pick, List.getElem_map, List.getD_eq_getElem?_getD, List.getElem?_map, List.getElem?_eq_getElem hx, Option.map_some, Option.getD_some]
  rw [e, List.getElem?_eq_getElem h2]
  rfl
variable {K : PySem.W.Frag} {H : Hp}
structure PickOk (n m : Nat) (ix inv : List Nat) : Prop where
  perm : ix.Perm (List.range (n + m))
  len : inv.length = n + m
  inv : ∀ j, j < ix.length → inv.getD (ix.getD j 0) ix.length = j
theorem sp_pick {n : Nat} {ix inv : List Nat} {dvs : List V} {dd : List D} {m : Fn} (hp : PickOk n dd.length ix inv) (hd : dvs.length = dd.length) (hj : ∀ H R, Joint K H R → Joint K H (dvs.zip dd ++ R)) {vs : List V} {Q : VK} {E : XK}
    (h : spOf K n (pickF ix inv dd m) vs H Q E) : spOf K (n + dd.length) m (pick .non ix (vs ++ dvs)) H Q E := by
  obtain ⟨hl, ds, rs, hl2, j, mt⟩ := h
  have il : ix.length = n + dd.length := by rw [hp.perm.length_eq, List.length_range]
  have lv : (vs ++ dvs).length = n + dd.length := by simp [hl, hd]
  have ld : (ds ++ dd).length = n + dd.length := by simp [hl2]
  have hlt : ∀ i ∈ ix, i < n + dd.length := fun i mm => List.mem_range.mp (hp.perm.mem_iff.mp mm)
  refine ⟨by rw [pick_len, il], pick .un ix (ds ++ dd), rs, by rw [pick_len, il], ?_, ?_⟩
  · rw [pick_zip (by rw [lv]; exact hlt) (lv.trans ld.symm), List.zip_append (hl.trans hl2.symm)]
    refine Joint.perm (List.Perm.append_right _ (pick_perm ?_).symm) ?_
    · rw [List.length_append, List.length_zip, List.length_zip, hl, hl2, hd, Nat.min_self, Nat.min_self]
      exact hp.perm
    · rw [List.append_assoc]
      exact (hj H _ j).perm perm_sw
  · unfold pickF at mt
    cases hm : m (pick .un ix (ds ++ dd)) with
    | none => rw [hm] at mt; exact mt.elim
    | some o =>
      obtain ⟨o, as⟩ := o
      rw [hm] at mt
      have key : as.length = n + dd.length → ∀ {H' : Hp} {A : List Pr}, Joint K H' (A ++ ((pick .non ix (vs ++ dvs)).zip as ++ rs)) → Joint K H' (A ++ (vs.zip ((pick .un inv as).take ds.length) ++ rs)) := fun la H' A k => by
        have e1 : as = pick .un ix (pick .un inv as) := (pick_inv (fun j hjj => by rw [la, ← il]; exact hp.inv j hjj) (fun i mm => by rw [hp.len]; exact hlt i mm) (by rw [la, il])).symm
        have lp : (pick D.un inv as).length = n + dd.length := by rw [pick_len, hp.len]
        rw [e1, pick_zip (by rw [lv]; exact hlt) (lv.trans lp.symm)] at k
        have k2 : Joint K H' (A ++ ((vs ++ dvs).zip (pick .un inv as) ++ rs)) := k.perm (List.Perm.append_left _ (List.Perm.append_right _ (pick_perm (by rw [List.length_zip, lv, lp, Nat.min_self]; exact hp.perm))))
        have e2 : (vs ++ dvs).zip (pick .un inv as) = vs.zip ((pick .un inv as).take ds.length) ++ dvs.zip ((pick .un inv as).drop ds.length) := by
          conv => lhs; rw [← List.take_append_drop ds.length (pick .un inv as)]
          rw [List.zip_append (by rw [List.length_take, lp, hl2, hl]; omega)]
        rw [e2, List.append_assoc] at k2
        have k3 : Joint K H' (dvs.zip ((pick .un inv as).drop ds.length) ++ (A ++ (vs.zip ((pick .un inv as).take ds.length) ++ rs))) := k2.perm ((List.Perm.append_left _ perm_sw).trans perm_sw)
        exact k3.dropL
      by_cases hla : as.length = ix.length
      · simp only [if_pos hla] at mt
        have la := hla.trans il
        cases o with
        | ok r => exact ⟨la, fun v H' k => mt.2 v H' (key la (A := [(v, r)]) k)⟩
        | ex y => exact ⟨la, fun cls dx H' ⟨fv, x1, x2, x3, k⟩ => mt.2 cls dx H' ⟨fv, x1, x2, x3, key la k⟩⟩
      · simp only [if_neg hla] at mt
end
end WF
namespace WF
open PySem PySem.Spec PyProof.Rows L2
theorem vals_get {d : V} {e : Value} (hde : RelV d e) : ∀ {vs : List V} {us : List Value}, Vals vs us → ∀ i : Nat, RelV (vs.getD i d) (us.getD i e)
  | _, _, .nil, i => by simpa using hde
  | _, _, .cons a r, 0 => by simpa using a
  | _, _, .cons a r, i + 1 => by simpa using vals_get hde r i
theorem vals_pick {vs : List V} {us : List Value} (h : Vals vs us) : ∀ ix : List Nat, Vals (pick .non ix vs) (pick .none ix us)
  | [] => .nil
  | i :: ix => .cons (vals_get (d := .non) (e := .none) rfl h i) (vals_pick h ix)
theorem len2 {α : Type} {xs : List α} (h : xs.length = 2) : ∃ a b, xs = [a, b] := by
  match xs, h with
  | [a, b], _ => exact ⟨a, b, rfl⟩
section
variable {c : Cfg} {X : Cx} {k : Nat} {f : Addr} {fd : FuncData} {ps : List Str} {n : Nat} {m : Fn} {x : Str} {p pos : Pos} {e : Expr} {es : List Expr} {as bs : List Ar} {ks : List Str} {kws : List Keyword}
theorem tArgsA_app : ∀ {as bs : List Ar} {σ : L2.St} {H : Hp} {Q : List V → Hp → Prop}, tArgsA c (as ++ bs) σ H Q → tArgsA c as σ H fun vs H1 => tArgsA c bs σ H1 fun zs H2 => Q (vs ++ zs) H2
  | [], _, _, _, _, h => h
  | .v f :: as, bs, _, _, _, h => T.mono h fun _ _ h2 => tArgsA_app h2
  | .s i :: as, bs, _, _, _, ⟨v, e, h⟩ => ⟨v, e, tArgsA_app h⟩
theorem wk_nil : PK X [] (tArgsA c []) := pk_nil
def KB (K : PySem.W.Frag) (fd : FuncData) (ps ks : List Str) (n : Nat) (ix : List Nat) (its : List Value) : Prop :=
  ∀ (s : Shared) (us ws : List Value), K.In s.heap → us.length = n → ws.length = ks.length → BindsTo s fd ⟨us, ks.zip ws⟩ (ps.zip (pick .none ix ((us ++ ws) ++ its)))
variable {ix inv : List Nat} {dvs : List V} {dd : List D} {its : List Value}
theorem t_callK {σ : L2.St} {H : Hp} {Q : VK} (h : T c (callM (pickF ix inv dd m) (as ++ bs)) σ H Q) (hn : (as ++ bs).length = n) : tArgsA c as σ H fun vs H1 => tArgsA c bs σ H1 fun zs H2 => spOf c.K n (pickF ix inv dd m) (vs ++ zs) H2 Q (WE c.W σ) :=
  tArgsA_mono (tArgsA_app (tArgsA_mono (t_call h hn) fun vs H h => by rw [List.append_nil] at h; exact h)) fun _ _ h => h
theorem run_K {pins : List (Addr × Obj)} {σ : L2.St} {H : Hp} {s : Shared} {Q : VK} {us ws : List Value} {vs zs : List V} (F : FnOk X.prog X.w X.K X.mg X.base (L2.CX X.prog X.w) k f fd ps (spOf c.K (n + dd.length) m)) (hr : Room k X.A) (hp : PickOk n dd.length ix inv) (hdv : Vals dvs its) (hdd : dvs.length = dd.length) (hj : ∀ H R, Joint c.K H R → Joint c.K H (dvs.zip dd ++ R))
    (hb : KB X.K fd ps ks as.length ix its) (tk : Takes X c.W) (I : Inv X pins σ H s) (r : Vals vs us) (rz : Vals zs ws) (h1 : vs.length = as.length) (h2 : zs.length = ks.length) (h : spOf c.K n (pickF ix inv dd m) (vs ++ zs) H Q (WE c.W σ)) : wpAny (model X.prog X.w) X.A (call (.ref f) us (ks.zip ws)) (EP X pins σ Q) X.xe s := by
  have h' := sp_pick hp hdd hj h
  have r2 : Vals (pick .non ix ((vs ++ zs) ++ dvs)) (pick .none ix ((us ++ ws) ++ its)) := vals_pick ((r.append rz).append hdv) ix
  refine wpAny_call (codeAny_mono (F.run X.A X.stack s H ⟨us, ks.zip ws⟩ _ _ Q (WE c.W σ) hr I.env0 (hb s us ws I.kIn (by rw [← r.length]; exact h1) (by rw [← rz.length]; exact h2)) r2 h') fun r s' hq => ?_)
  cases r with
  | error e => exact passAt tk σ pins H s e s' I hq
  | ok fl =>
    cases fl with
    | ret u => exact I.after hq
    | next => exact False.elim hq
    | brk => exact False.elim hq
    | cont => exact False.elim hq
theorem w_callK0 (F : FnOk X.prog X.w X.K X.mg X.base (L2.CX X.prog X.w) k f fd ps (spOf c.K (n + dd.length) m)) (hr : Room k X.A) (hg : Gl X x) (hm : X.mg x = some (.ref f)) (hk : PySem.W.keepIn X.K (.ref f) = true) (hb : KB X.K fd ps ks 0 ix its) (hp : PickOk n dd.length ix inv) (hdv : Vals dvs its) (hdd : dvs.length = dd.length) (hj : ∀ H R, Joint c.K H R → Joint c.K H (dvs.zip dd ++ R)) (tk : Takes X c.W)
    (hkw : PK X kws (tArgsA c bs)) (hn : bs.length = n := by rfl) (hbl : bs.length = ks.length := by rfl) (hall : (backToKw pos (keywordEach kws X.env)).all (·.1.isSome) = true := by rfl) (hks : (backToKw pos (keywordEach kws X.env)).filterMap (·.1) = ks := by rfl)
    (hdb : (x == ("__debug__" : Str)) = false := by decide)
    (hpl : ((backTo pos (starEach [] X.env)).any (·.1) || (backToKw pos (keywordEach kws X.env)).any (·.1.isNone)) = false := by rfl) :
    PE X (.Call (.Name x p) [] kws pos) (T c (callM (pickF ix inv dd m) bs)) := by
  refine ⟨fun pins s σ H Q I h => ?_⟩
  refine wpAny_Call_Name_kw (ld_glob I hg hm ?_ hdb)
  have h2 := t_callK (as := []) (bs := bs) h hn
  refine PySem.W.callWith_KW0 (h₀ := X.base) I.ok.mod.kin hk hall ?_ hpl
  refine thn (hkw.run pos pins s σ H _ I (tArgsA_len h2)) fun ws s2 ⟨zs, H2, I2, rz, l2, q2⟩ => ⟨I2.kIn, ?_⟩
  rw [hks]
  exact run_K (as := []) (us := []) (vs := []) F hr hp hdv hdd hj hb tk I2 .nil rz rfl (l2.trans hbl) q2
theorem kb_none {K : PySem.W.Frag} {x : Str} {st : Stmt} {kws : List (Str × V)} {r : Nat} (F : FnP K x st kws f fd)
    (h : ∀ (kV doc pm : Value) (an : Option Addr) (cdv ct : Value) (us ws : List Value), us.length = r → ws.length = ks.length → bindArgs (PySem.W.fnOf x x (defArgs st) (defBody st) (defScope st) .none kV doc pm an cdv ct) ⟨us, ks.zip ws⟩ = pure (ps.zip (pick .none ix ((us ++ ws) ++ [])))) : KB K fd ps ks r ix [] := by
  obtain ⟨oc, od, dV, kV, doc, pm, an, cdv, ct, osl, rfl, lk, hcd, hD, hK⟩ := F.ex
  rcases hD with ⟨_, rfl⟩ | ⟨e, _⟩
  · exact fun s us ws _ h1 h2 => .of_eq (h kV doc pm an cdv ct us ws h1 h2)
  · exact absurd rfl e
theorem post_argsS : ∀ (fs : List EM) {g : List D → EM} {h : D → SM} {S : S0} {tm tm0 : List Pr} {σ : L2.St} {H : Hp} {E : Ends}, SJ c S tm σ H → postS c (bindS (argsM fs g) h S) tm0 E →
    tArgs c fs σ H (fun vs H1 => ∃ ds S', vs.length = ds.length ∧ ds.length = fs.length ∧ SJ c S' (vs.zip ds ++ tm) σ H1 ∧ postS c (bindS (g ds) h S') tm0 E)
  | [], _, _, S, _, _, _, _, _, j, p => ⟨[], S, rfl, rfl, j, p⟩
  | f :: fs, g, h, S, tm, tm0, σ, H, E, j, p => by
    have p' : postS c (bindS f (fun d => bindS (argsM fs fun ds => g (d :: ds)) h) S) tm0 E := by
      unfold bindS argsM bindM at p
      unfold bindS
      cases hf : f S with
      | none => rw [hf] at p; exact p
      | some o =>
        obtain ⟨o, S'⟩ := o
        rw [hf] at p
        cases o with
        | ok d => exact p
        | ex x => exact p
    refine (post_bindS (fa := f) j p').mono fun v H1 ⟨d, S1, j1, p1⟩ => ?_
    refine tArgs_mono (post_argsS fs j1 p1) fun vs H2 ⟨ds, S2, e1, e2, j2, p2⟩ => ?_
    exact ⟨d :: ds, S2, by simp [e1], by simp [e2], j2.perm perm_take, p2⟩
def par2M (i j : Nat) (fs : List EM) : SM := asgM (tupM fs) (gTupM 2 (gConsM (gSetM i) (gConsM (gSetM j) gNilM)))
def par3M (i j l : Nat) (fs : List EM) : SM := asgM (tupM fs) (gTupM 3 (gConsM (gSetM i) (gConsM (gSetM j) (gConsM (gSetM l) gNilM))))
theorem SJ.setSlot' {S S' : S0} {tm : List Pr} {σ : L2.St} {H : Hp} {i : Nat} {v : V} {d : D} (j : SJ c S ((v, d) :: tm) σ H) (h : gSetM i d S = some S') (hp : c.PV[i]? = some none) : SJ c S' tm (σ.set i (some v)) H := by
  unfold gSetM at h
  split at h
  · cases h; exact j.setSlot (by assumption) hp
  · cases h
theorem w_par2 {i j : Nat} {y : Str} {a b : Expr} {fa fb : EM} {px py pt : Pos} {kt k2 pt2} (hc : X.calm = true) (hN : X.N.Nodup) (hi : X.N[i]? = some x) (hj : X.N[j]? = some y) (hij : i ≠ j)
    (hx : X.env.scope.names.lookup x = some .local) (hy : X.env.scope.names.lookup y = some .local) (hpi : c.PV[i]? = some none) (hpj : c.PV[j]? = some none) (ha : PA X [a, b] (tArgs c [fa, fb]))
    (hw : swappedStores [.Tuple [.Name x px, .Name y py] kt pt] (.Tuple [a, b] k2 pt2) X.env = pure (some [x, y]))
    (hs : swapsWithSole [.Tuple [.Name x px, .Name y py] kt pt] (.Tuple [a, b] k2 pt2) pos.line X.env = pure false := by rfl) :
    PS X (.Assign [.Tuple [.Name x px, .Name y py] kt pt] (.Tuple [a, b] k2 pt2) pos) (U c (par2M i j [fa, fb])) := ps_mono (ps_par hc hN hi hj hij hx hy ha hw hs) fun E σ H h => by
  obtain ⟨S, tm, j0, p⟩ := h
  refine tArgs_mono (post_argsS [fa, fb] j0 p) fun vs H1 ⟨ds, S1, e1, e2, j1, p1⟩ => ?_
  · obtain ⟨d, e, rfl⟩ := len2 e2
    obtain ⟨v, u, rfl⟩ := len2 e1
    refine ⟨v, u, rfl, ?_⟩
    have p2 : postS c (((gSetM i d S1).bind fun S' => (gSetM j e S').bind fun S2 => some S2).map fun S' => (Fl.nx, S')) tm E := p1
    cases h1 : gSetM i d S1 with
    | none => rw [h1] at p2; exact p2.elim
    | some S2 =>
      rw [h1] at p2
      cases h2 : gSetM j e S2 with
      | none => simp only [Option.bind_some, h2] at p2; exact p2.elim
      | some S3 =>
        simp only [Option.bind_some, h2] at p2
        exact p2 _ _ (SJ.setSlot' (SJ.setSlot' j1 h1 hpi) h2 hpj)
end
end WF
namespace WF
open PySem PySem.Spec PyProof.Rows L2
def prD (p : Int × Int) : D := .tup [.int p.1, .int p.2]
def sortI (ns : List Int) : List Int := ns.mergeSort fun a b => decide (a ≤ b)
section
variable {K : PySem.W.Frag} {H : Hp} {R : List Pr}
end
end WF
namespace WF
open PySem PySem.Spec PyProof.Rows L2
theorem tuple_mul1 (l : Addr) (items : Array Value) (n : Nat) (dd : Option Addr) (sl : Array (Option Value)) (x : Int) (u : Tok) (c0 : (decide (x < -(2 ^ 63)) || decide (x ≥ 2 ^ 63)) = false) (c1 : (items.isEmpty || x == 1) = true) :
    Meets (Builtin.«tuple.__mul__» ⟨[.ref l, .int x u], []⟩) (fun _ R s => s.heap.get? l = some { cls := .type "tuple", dict := dd, data := .seq items n, slots := sl } ∧
      R (.ok (.ret (Value.ref l))) s) :=
  .of_wp fun prog w A R s h => by
    obtain ⟨hp, g, d, tk, os⟩ := s
    obtain ⟨hl, h⟩ := h
    have f1 := AutoSeq1.idx_int
    wp_walk using wpAny_loadPart' hl
    repeat (first
      | (refine wpAny_ite_false (decide_eq_false (by rw [c0]; exact Bool.false_ne_true)) ?_; wp_walk using wpAny_loadPart' hl)
      | (refine wpAny_ite_true (decide_eq_true c1) ?_; wp_walk using wpAny_loadPart' hl))
    all_goals exact ⟨_, rfl, h⟩
def rRep1 (K : PySem.W.Frag) : R2 := fun x y H Q => ∃ l xs, x = .ref l ∧ y = .int 1 ∧ SqT K H l xs ∧ Q (.ref l) H
theorem op_rep1 {X : Cx} : OpR X (binaryOp .Mult) (rRep1 X.K) := by
  intro pins s σ H x y v u Q I rx ry h
  obtain ⟨l, xs, rfl, rfl, hT, q⟩ := h
  cases rx
  obtain ⟨t, rfl⟩ := ry
  obtain ⟨its, r, ⟨⟨cls, dd, data, sl⟩, ho, hc, n, hd⟩, hs⟩ := I.tuple hT
  simp only at hc hd
  subst hc hd
  refine wpAny_binaryOp_repeat_ref (T := "tuple") (U := "int") (by decide) ⟨_, ho, rfl⟩ (fun s' => typeIs_int s' 1 t) noFill_tuple_mul F.fills_int_mul F.slot_int_rmul repeat_tuple F.slot_int_index.lookup
    (call_meets F.slot_int_rmul (typeIs_int s 1 t) F.entry_int_rmul (F.args_int_rmul_2 _ _) (int_rmul_tuple 1 t l its.toArray n dd sl)
      ⟨ho, rfl, ⟨_, ho, rfl⟩, call_meets F.slot_tuple_mul ⟨_, ho, rfl⟩ F.entry_tuple_mul (F.args_tuple_mul_2 _ _) (tuple_mul1 l its.toArray n dd sl 1 t (by decide) (by simp)) ⟨ho, ?_⟩⟩)
  exact ⟨.ref l, H, I, rfl, q⟩
def mulD2 (a b : D) : Option D := match a, b with
  | .tup xs, .int 1 => some (.tup (D.frzs xs))
  | _, _ => mulD a b
def rMulB (K : PySem.W.Frag) : R2 := fun x y H Q => rMulA K x y H Q ∨ rRep1 K x y H Q
theorem op_mulB {X : Cx} : OpR X (binaryOp .Mult) (rMulB X.K) := op_mulA.or op_rep1
theorem s_mulB {K : PySem.W.Frag} : Op2 K (rMulB K) mulD2 := by
  intro H R v1 v2 d1 d2 d Q e j q
  unfold mulD2 at e
  split at e
  · cases e
    have ek := j.is_int
    obtain ⟨p, rfl⟩ := j.sw.is_tup
    obtain ⟨vs, hp, hl, kk⟩ := j.drop.untup
    exact .inr ⟨p, vs, rfl, ek, .inl (.inl hp), q _ _ j.drop.freeze.drop⟩
  · exact .inl (s_mul H R v1 v2 d1 d2 d Q e j q)
end WF
namespace WF
open PySem PySem.Spec PyProof.Rows L2
theorem bb_len : bootBuiltins "len" = some (.builtin "len") := by decide +kernel
theorem bb_abs : bootBuiltins "abs" = some (.builtin "abs") := by decide +kernel
theorem bb_isinstance : bootBuiltins "isinstance" = some (.builtin "isinstance") := by decide +kernel
theorem bb_divmod : bootBuiltins "divmod" = some (.builtin "divmod") := by decide +kernel
theorem bt_int : bootBuiltins "int" = some (.type "int") := by decide +kernel
theorem bt_list : bootBuiltins "list" = some (.type "list") := by decide +kernel
end WF
namespace WF
open PySem PySem.Spec PyProof.Rows L2
theorem fn_cx0 {P : Program} {w : World} {K : PySem.W.Frag} {mg : Str → Option Value} {base : Heap} {k : Nat} {f : Addr} {fd : FuncData} {ps : List Str} {sp : Sp} (F : FnOk P w K mg base (L2.CX P w) k f fd ps sp) :
    FnOk P w K mg base CX0 k f fd ps (fun vs H Q _ => sp vs H Q fun _ _ _ => False) :=
  ⟨fun vs H Q _ h => F.len vs H Q _ h, fun A outer s H args us vs Q E hr e0 hb hv hs => codeAny_mono (F.run A outer s H args us vs Q (fun _ _ _ => False) hr e0 hb hv hs) fun r s' h => by
    cases r with
    | error e =>
      obtain ⟨_, _, _, _, _, _, _, _, _, _, _, _, z⟩ := h
      exact z.elim
    | ok fl => cases fl <;> exact h⟩
def takeM (i : Nat) : EM := fun S => match S[i]? with
  | some d => if isUn d then none else some (.ok d, S.set i .un)
  | none => none
theorem w_take {c : Cfg} {X : Cx} {e : Expr} {i : Nat} (he : PE X e (tVar i)) : PE X e (T c (takeM i)) := by
  refine pe_mono he fun σ H Q h => ?_
  obtain ⟨S, tm, j, p⟩ := h
  unfold takeM at p
  split at p
  · rename_i d hd
    split at p
    · exact p.elim
    · rename_i hu
      obtain ⟨v, ev, Z, k, put⟩ := j.get hd (by simpa using hu)
      refine ⟨v, ev, p v H ?_⟩
      exact put .un [(v, d)] H k.un
  · exact p.elim
end WF
namespace WF0
open WF PySem L2
def oE (o : Option (Out × S0)) (Q : D → S0 → Prop) : Prop := match o with
  | some (.ok d, S) => Q d S
  | _ => False
def oS (o : Option (Fl × S0)) (Q : Fl → S0 → Prop) : Prop := match o with
  | some (.ex _, _) => False
  | some (d, S) => Q d S
  | none => False
def oI (o : Option (IOut × S0)) (Q : List D → List (Nat × D) → S0 → Prop) : Prop := match o with
  | some (.ok ds l, S) => Q ds l S
  | _ => False
def oG (o : Option S0) (Q : S0 → Prop) : Prop := match o with
  | some S => Q S
  | none => False
def oC (o : Option (List D × S0)) (Q : List D → S0 → Prop) : Prop := match o with
  | some (d, S) => Q d S
  | none => False
def wE (f : EM) (S : S0) (Q : D → S0 → Prop) : Prop := oE (f S) Q
def wS (f : SM) (S : S0) (Q : Fl → S0 → Prop) : Prop := oS (f S) Q
def wI (f : IM) (S : S0) (Q : List D → List (Nat × D) → S0 → Prop) : Prop := oI (f S) Q
def wG (g : GM) (d : D) (S : S0) (Q : S0 → Prop) : Prop := oG (g d S) Q
def wGs (g : GMs) (d : List D) (S : S0) (Q : S0 → Prop) : Prop := oG (g d S) Q
def wF (m : Fn) (ds : List D) (Q : D → List D → Prop) : Prop := oE (m ds) Q
def wC (own : List Nat) (g : GM) (ft : Option EM) (fe : EM) (ds : List D) (S : S0) (acc : List D) (Q : List D → S0 → Prop) : Prop := oC (compL own g ft fe ds S acc) Q
def rd {α : Type} (o : Option α) (P : α → Prop) : Prop := ∃ d, o = some d ∧ P d
section
variable {α : Type} {P : α → Prop}
@[simp] theorem rd_some {d : α} : rd (some d) P ↔ P d := ⟨fun ⟨_, e, p⟩ => by cases e; exact p, fun p => ⟨_, rfl, p⟩⟩
@[simp] theorem rd_none : rd none P ↔ False := ⟨fun ⟨_, e, _⟩ => (by cases e), False.elim⟩
@[simp] theorem rd_ite {c : Prop} [Decidable c] {o : Option α} : rd (if c then o else none) P ↔ c ∧ rd o P := by
  by_cases h : c <;> simp [h]
@[simp] theorem rd_map {β : Type} {o : Option β} {g : β → α} : rd (o.map g) P ↔ rd o fun b => P (g b) := by cases o <;> simp
@[simp] theorem rd_bind {β : Type} {o : Option β} {g : β → Option α} : rd (o.bind g) P ↔ rd o fun b => rd (g b) P := by cases o <;> simp
end
section
variable {S : S0} {Q : D → S0 → Prop} {QS : Fl → S0 → Prop} {QI : List D → List (Nat × D) → S0 → Prop} {QG : S0 → Prop} {f fa fb fc fd fe : EM} {i : Nat}
theorem oE_ex {o : Option (Out × S0)} : oE o Q ↔ ∃ d S, o = some (.ok d, S) ∧ Q d S := by
  constructor
  · intro h
    match o, h with
    | some (.ok d, S), h => exact ⟨d, S, rfl, h⟩
  · rintro ⟨d, S, rfl, q⟩; exact q
theorem oE.mono {o : Option (Out × S0)} {Q' : D → S0 → Prop} (h : oE o Q) (q : ∀ d S, Q d S → Q' d S) : oE o Q' := by
  match o, h with
  | some (.ok d, S), h => exact q d S h
theorem oS.mono {o : Option (Fl × S0)} {Q' : Fl → S0 → Prop} (h : oS o QS) (q : ∀ d S, QS d S → Q' d S) : oS o Q' := by
  match o, h with
  | some (.nx, S), h => exact q _ S h
  | some (.rt d, S), h => exact q _ S h
  | some (.bk, S), h => exact q _ S h
  | some (.ct, S), h => exact q _ S h
theorem wE.mono {Q' : D → S0 → Prop} (h : wE f S Q) (q : ∀ d S, Q d S → Q' d S) : wE f S Q' := oE.mono h q
theorem wF.mono {m : Fn} {ds : List D} {Q Q' : D → List D → Prop} (h : wF m ds Q) (q : ∀ d S, Q d S → Q' d S) : wF m ds Q' := oE.mono h q
theorem wS.mono {f : SM} {Q' : Fl → S0 → Prop} (h : wS f S QS) (q : ∀ d S, QS d S → Q' d S) : wS f S Q' := oS.mono h q
@[simp] theorem wE_ret {d : D} : wE (retM d) S Q ↔ Q d S := Iff.rfl
@[simp] theorem wE_bind {g : D → EM} : wE (bindM f g) S Q ↔ wE f S fun d S' => wE (g d) S' Q := by
  simp only [wE, bindM]
  match f S with
  | none => exact Iff.rfl
  | some (.ok _, _) => exact Iff.rfl
  | some (.ex _, _) => exact Iff.rfl
@[simp] theorem wE_opt {o : Option D} : wE (optM o) S Q ↔ rd o fun d => Q d S := by
  cases o <;> simp [wE, optM, oE]
@[simp] theorem wE_var : wE (varM i) S Q ↔ rd S[i]? fun d => isUn d = false ∧ Q d.frz (S.set i d.frz) := by
  simp only [wE, varM]
  cases h : S[i]? with
  | none => simp [oE]
  | some d => cases hu : isUn d <;> simp [hu, oE]
@[simp] theorem wE_take : wE (takeM i) S Q ↔ rd S[i]? fun d => isUn d = false ∧ Q d (S.set i .un) := by
  simp only [wE, takeM]
  cases h : S[i]? with
  | none => simp [oE]
  | some d => cases hu : isUn d <;> simp [hu, oE]
@[simp] theorem wE_bin {op : D → D → Option D} : wE (binM op fa fb) S Q ↔ wE fa S fun x S => wE fb S fun y S => rd (op x y) fun d => Q d S := by simp only [binM, wE_bind, wE_opt]
@[simp] theorem wE_un {op : D → Option D} : wE (unM op fa) S Q ↔ wE fa S fun x S => rd (op x) fun d => Q d S := by simp only [unM, wE_bind, wE_opt]
@[simp] theorem wE_args0 {g : List D → EM} : wE (argsM [] g) S Q ↔ wE (g []) S Q := Iff.rfl
@[simp] theorem wE_args1 {g : List D → EM} {fs : List EM} : wE (argsM (f :: fs) g) S Q ↔ wE f S fun d S => wE (argsM fs fun ds => g (d :: ds)) S Q := wE_bind
@[simp] theorem wE_tup {fs : List EM} : wE (tupM fs) S Q ↔ wE (argsM fs fun ds => retM (.tup ds)) S Q := Iff.rfl
@[simp] theorem wE_lst {fs : List EM} : wE (lstM fs) S Q ↔ wE (argsM fs fun ds => retM (.lst true ds)) S Q := Iff.rfl
@[simp] theorem wE_cb {op : List D → Option D} {fs : List EM} : wE (cbM op fs) S Q ↔ wE (argsM fs fun ds => optM (op ds)) S Q := Iff.rfl
@[simp] theorem wE_br {b : Bool} : wE (brM (.bl b) fa fb) S Q ↔ if b = true then wE fa S Q else wE fb S Q := by cases b <;> simp [brM]
@[simp] theorem wE_and : wE (andM fa fb) S Q ↔ wE fa S fun d S => wE (brM d fb (retM (.bl false))) S Q := wE_bind
@[simp] theorem wE_or : wE (orM fa fb) S Q ↔ wE fa S fun d S => wE (brM d (retM (.bl true)) fb) S Q := wE_bind
@[simp] theorem wE_not : wE (notM fa) S Q ↔ wE fa S fun d S => wE (brM d (retM (.bl false)) (retM (.bl true))) S Q := wE_bind
@[simp] theorem wE_if : wE (ifM fc fa fb) S Q ↔ wE fc S fun d S => wE (brM d fa fb) S Q := wE_bind
@[simp] theorem wE_argsA0 {g : List Av → EM} : wE (argsA [] g) S Q ↔ wE (g []) S Q := Iff.rfl
@[simp] theorem wE_argsAv {g : List Av → EM} {r : List Ar} : wE (argsA (.v f :: r) g) S Q ↔ wE f S fun d S => wE (argsA r fun ds => g (.inl d :: ds)) S Q := wE_bind
@[simp] theorem wE_argsAs {g : List Av → EM} {r : List Ar} : wE (argsA (.s i :: r) g) S Q ↔ rd S[i]? fun d => isUn d = false ∧ wE (argsA r fun ds => g (.inr i :: ds)) S Q := by
  have e : argsA (.s i :: r) g S = match S[i]? with
    | some d => if isUn d then none else argsA r (fun ds => g (.inr i :: ds)) S
    | none => none := rfl
  simp only [wE, e]
  cases h : S[i]? with
  | none => simp [oE]
  | some d => cases hu : isUn d <;> simp [hu, oE]
def callK (m : Fn) (av : List Av) : EM := fun S => match takeA av S with
  | some (ds, S1) => match m ds with
    | some (o, ds') => if ds'.length = av.length then some (o, putA av ds' S1) else none
    | none => none
  | none => none
@[simp] theorem wE_call {m : Fn} {as : List Ar} : wE (callM m as) S Q ↔ wE (argsA as (callK m)) S Q := Iff.rfl
@[simp] theorem wE_callK {m : Fn} {av : List Av} : wE (callK m av) S Q ↔ rd (takeA av S) fun p => wF m p.1 fun r ds' => ds'.length = av.length ∧ Q r (putA av ds' p.2) := by
  simp only [wE, callK, wF]
  cases h : takeA av S with
  | none => simp [oE]
  | some o =>
    obtain ⟨ds, S1⟩ := o
    simp only [rd_some]
    match m ds with
    | none => exact Iff.rfl
    | some (.ok d, ds') => by_cases hl : ds'.length = av.length <;> simp [hl, oE]
    | some (.ex d, ds') => by_cases hl : ds'.length = av.length <;> simp [hl, oE]
def roK (op : List D → Option D) (av : List Av) : EM := fun S => match takeA av S with
  | some (ds, S1) => match op ds with
    | some d => if ds.length = av.length then some (.ok d, putA av ds S1) else none
    | none => none
  | none => none
@[simp] theorem wE_ro {op : List D → Option D} {as : List Ar} : wE (roM op as) S Q ↔ wE (argsA as (roK op)) S Q := Iff.rfl
@[simp] theorem wE_roK {op : List D → Option D} {av : List Av} : wE (roK op av) S Q ↔ rd (takeA av S) fun p => rd (op p.1) fun d => p.1.length = av.length ∧ Q d (putA av p.1 p.2) := by
  simp only [wE, roK]
  cases h : takeA av S with
  | none => simp [oE]
  | some o =>
    obtain ⟨ds, S1⟩ := o
    simp only [rd_some]
    cases hm : op ds with
    | none => simp [oE]
    | some d => by_cases hl : ds.length = av.length <;> simp [hl, oE]
@[simp] theorem wE_has : wE (hasM i f) S Q ↔ rd S[i]? fun d => isUn d = false ∧ wE f S Q := by
  simp only [wE, hasM]
  cases h : S[i]? with
  | none => simp [oE]
  | some d => cases hu : isUn d <;> simp [hu, oE]
@[simp] theorem wE_ixS : wE (ixS i fb) S Q ↔ wE fb S fun k S => rd S[i]? fun d => rd (ixO d k) fun p => isUn d = false ∧ Q p.1 (S.set i p.2) := by
  unfold ixS
  rw [wE_bind]
  apply iff_of_eq
  congr 1
  funext k S
  simp only [wE]
  cases h : S[i]? with
  | none => simp [oE]
  | some d =>
    cases h2 : ixO d k with
    | none => simp [h2, oE]
    | some r =>
      obtain ⟨x, d'⟩ := r
      cases hu : isUn d <;> simp [h2, hu, oE]
theorem wE_tail' {q : IP} {b : Int} : wE (tailM q b fc) S Q ↔ wE fc S fun z S => ∃ c, z = .int c ∧ Q (.bl (q b c)) S := by
  unfold tailM
  rw [wE_bind]
  apply iff_of_eq
  congr 1
  funext z S
  cases z <;> simp [wE, oE, retM]
theorem wE_chain2' {p q : IP} : wE (chain2M p q fa fb fc) S Q ↔ wE fa S fun x S => wE fb S fun y S => ∃ a b, x = .int a ∧ y = .int b ∧ if p a b = true then wE (tailM q b fc) S Q else Q (.bl false) S := by
  unfold chain2M
  simp only [wE_bind]
  apply iff_of_eq
  congr 1
  funext x S
  congr 1
  funext y S
  cases x with
  | int a =>
    cases y with
    | int b => by_cases h : p a b = true <;> simp [h]
    | _ => simp [wE, oE]
  | _ => simp [wE, oE]
theorem wE_chain3' {p q r : IP} : wE (chain3M p q r fa fb fc fd) S Q ↔ wE fa S fun x S => wE fb S fun y S => ∃ a b, x = .int a ∧ y = .int b ∧ if p a b = true then (wE fc S fun z S => ∃ d, z = .int d ∧ if q b d = true then wE (tailM r d fd) S Q else Q (.bl false) S) else Q (.bl false) S := by
  unfold chain3M
  simp only [wE_bind]
  apply iff_of_eq
  congr 1
  funext x S
  congr 1
  funext y S
  cases x with
  | int a =>
    cases y with
    | int b =>
      by_cases h : p a b = true
      · simp only [h, if_true, wE_bind, D.int.injEq, exists_and_left, exists_eq_left']
        congr 1
        funext z S
        cases z with
        | int d => by_cases h2 : q b d = true <;> simp [h2]
        | _ => simp [wE, oE]
      · simp [h]
    | _ => simp [wE, oE]
  | _ => simp [wE, oE]
@[simp] theorem wE_optE0 {g : Option Int → EM} : wE (optE none g) S Q ↔ wE (g none) S Q := Iff.rfl
theorem wE_optE1' {g : Option Int → EM} : wE (optE (some f) g) S Q ↔ wE f S fun d S => ∃ n, d = .int n ∧ wE (g (some n)) S Q := by
  unfold optE
  rw [wE_bind]
  apply iff_of_eq
  congr 1
  funext z S
  cases z <;> simp [wE, oE]
@[simp] theorem wE_slice {lo hi : Option EM} : wE (sliceM fe lo hi) S Q ↔ wE fe S fun d S => wE (optE lo fun l => optE hi fun h => optM (sliceD d l h)) S Q := wE_bind
theorem wE_app' : wE (appM i fe) S Q ↔ ∃ o xs, S[i]? = some (.lst o xs) ∧ wE fe S fun d S => ∃ xs, S[i]? = some (.lst true xs) ∧ xs.length < 1000000 ∧ Q .non (S.set i (.lst true (xs ++ [d]))) := by
  have e : wE (appM i fe) S Q ↔ ∃ o xs, S[i]? = some (.lst o xs) ∧ wE (bindM fe fun d => modS i fun xs => if xs.length < 1000000 then some (.non, xs ++ [d]) else none) S Q := by
    simp only [wE, appM, lstS]
    cases h : S[i]? with
    | none => simp [oE]
    | some d => cases d <;> simp [oE]
  rw [e]
  simp only [wE_bind]
  have e2 : ∀ (d : D) (S : S0), (wE (modS i fun xs => if xs.length < 1000000 then some (.non, xs ++ [d]) else none) S Q) = (∃ xs, S[i]? = some (.lst true xs) ∧ xs.length < 1000000 ∧ Q .non (S.set i (.lst true (xs ++ [d])))) := by
    intro d S
    simp only [wE, modS]
    cases h : S[i]? with
    | none => simp [oE]
    | some x =>
      cases x with
      | lst o xs =>
        cases o with
        | false => simp [oE]
        | true => by_cases hl : xs.length < 1000000 <;> simp [hl, oE]
      | _ => simp [oE]
  simp only [e2]
@[simp] theorem wS_seq {f g : SM} : wS (seqM f g) S QS ↔ wS f S fun fl S' => match fl with
    | .nx => wS g S' QS
    | fl => QS fl S' := by
  simp only [wS, seqM]
  match f S with
  | none => exact Iff.rfl
  | some (.nx, _) => exact Iff.rfl
  | some (.rt _, _) => exact Iff.rfl
  | some (.bk, _) => exact Iff.rfl
  | some (.ct, _) => exact Iff.rfl
  | some (.ex _, _) => exact Iff.rfl
@[simp] theorem wS_skip : wS skipM S QS ↔ QS .nx S := Iff.rfl
@[simp] theorem wS_fail : wS failM S QS ↔ False := Iff.rfl
@[simp] theorem wS_raise {x g : Str} {fe : EM} : wS (raiseM x g fe) S QS ↔ False := by
  simp only [wS, raiseM]
  match fe S with
  | none => exact Iff.rfl
  | some (.ok _, _) => exact Iff.rfl
  | some (.ex _, _) => exact Iff.rfl
@[simp] theorem wS_raise0 {x : Str} : wS (raise0M x) S QS ↔ False := Iff.rfl
@[simp] theorem wS_bindS {g : D → SM} : wS (bindS f g) S QS ↔ wE f S fun d S => wS (g d) S QS := by
  simp only [wS, wE, bindS]
  match f S with
  | none => exact Iff.rfl
  | some (.ok _, _) => exact Iff.rfl
  | some (.ex _, _) => exact Iff.rfl
@[simp] theorem wS_ret : wS (retS fe) S QS ↔ wE fe S fun d S => QS (.rt d) S := wS_bindS
@[simp] theorem wS_expr : wS (exprS fe) S QS ↔ wE fe S fun _ S => QS .nx S := wS_bindS
@[simp] theorem wS_bk : wS (fun S => some (.bk, S)) S QS ↔ QS .bk S := Iff.rfl
@[simp] theorem wS_ct : wS (fun S => some (.ct, S)) S QS ↔ QS .ct S := Iff.rfl
@[simp] theorem wS_asg {g : GM} : wS (asgM fe g) S QS ↔ wE fe S fun d S => wG g d S fun S => QS .nx S := by
  unfold asgM
  rw [wS_bindS]
  apply iff_of_eq
  congr 1
  funext d S
  simp only [wS, wG]
  cases g d S <;> rfl
@[simp] theorem wS_br {b : Bool} {f g : SM} : wS (brS (.bl b) f g) S QS ↔ if b = true then wS f S QS else wS g S QS := by cases b <;> simp [brS]
@[simp] theorem wS_if {f g : SM} : wS (ifS fc f g) S QS ↔ wE fc S fun d S => wS (brS d f g) S QS := wS_bindS
@[simp] theorem wS_par2 {j : Nat} {fs : List EM} : wS (par2M i j fs) S QS ↔ wS (asgM (tupM fs) (gTupM 2 (gConsM (gSetM i) (gConsM (gSetM j) gNilM)))) S QS := Iff.rfl
@[simp] theorem wS_par3 {j l : Nat} {fs : List EM} : wS (par3M i j l fs) S QS ↔ wS (asgM (tupM fs) (gTupM 3 (gConsM (gSetM i) (gConsM (gSetM j) (gConsM (gSetM l) gNilM))))) S QS := Iff.rfl
@[simp] theorem wG_set {d : D} : wG (gSetM i) d S QG ↔ i < S.length ∧ QG (S.set i d) := by
  simp only [wG, gSetM]
  by_cases h : i < S.length <;> simp [h, oG]
@[simp] theorem wG_tup {n : Nat} {gs : GMs} {ds : List D} : wG (gTupM n gs) (.tup ds) S QG ↔ ds.length = n ∧ wGs gs ds S QG := by
  simp only [wG, gTupM, wGs]
  by_cases h : ds.length = n <;> simp [h, oG]
@[simp] theorem wG_lst {n : Nat} {gs : GMs} {ds : List D} {o : Bool} : wG (gTupM n gs) (.lst o ds) S QG ↔ ds.length = n ∧ wGs gs ds S QG := by
  simp only [wG, gTupM, wGs]
  by_cases h : ds.length = n <;> simp [h, oG]
@[simp] theorem wGs_nil : wGs gNilM [] S QG ↔ QG S := Iff.rfl
@[simp] theorem wGs_cons {g : GM} {gs : GMs} {d : D} {ds : List D} : wGs (gConsM g gs) (d :: ds) S QG ↔ wG g d S fun S => wGs gs ds S QG := by
  simp only [wG, wGs, gConsM]
  cases g d S <;> rfl
theorem wG_sub' {fk : EM} {d : D} : wG (gSubM i fk) d S QG ↔ (∃ o xs, S[i]? = some (.lst o xs)) ∧ wE fk S fun k S => ∃ n, k = .int n ∧ ∃ xs, S[i]? = some (.lst true xs) ∧ ∃ m, ixN xs.length n = some m ∧ QG (S.set i (.lst true (xs.set m d))) := by
  simp only [wG, gSubM, wE]
  cases h : S[i]? with
  | none => simp [oG]
  | some x =>
    cases x with
    | lst o xs =>
      simp only [Option.some.injEq, D.lst.injEq, exists_and_left, exists_eq', and_true, true_and]
      match fk S with
      | none => simp [oG, oE]
      | some (.ex _, _) => simp [oG, oE]
      | some (.ok k, S1) =>
        simp only [oE]
        cases k with
        | int n =>
          simp only [D.int.injEq, exists_eq_left']
          cases h1 : S1[i]? with
          | none => simp [oG]
          | some y =>
            cases y with
            | lst o ys =>
              cases o with
              | false => simp [oG]
              | true => cases h2 : ixN ys.length n <;> simp [h2, oG]
            | _ => simp [oG]
        | _ => simp [oG]
    | _ => simp [oG]
theorem wF_def {mask : List Bool} {N : Nat} {body : SM} {ds : List D} {QF : D → List D → Prop} : wF (defM mask N body) ds QF ↔ wS body (ds ++ List.replicate (N - mask.length) .un) fun fl S => match fl with
    | .rt d => QF d (maskM mask S)
    | .nx => QF .non (maskM mask S)
    | _ => False := by
  simp only [wF, defM, wS]
  generalize body (ds ++ List.replicate (N - mask.length) .un) = o
  match o with
  | none => exact Iff.rfl
  | some (.nx, _) => exact Iff.rfl
  | some (.rt _, _) => exact Iff.rfl
  | some (.bk, _) => exact Iff.rfl
  | some (.ct, _) => exact Iff.rfl
  | some (.ex _, _) => exact Iff.rfl
theorem wF_pick {ix inv : List Nat} {dd : List D} {m : Fn} {ds : List D} {QF : D → List D → Prop} : wF (pickF ix inv dd m) ds QF ↔ wF m (pick .un ix (ds ++ dd)) fun r as => as.length = ix.length ∧ QF r ((pick .un inv as).take ds.length) := by
  simp only [wF, pickF]
  match m (pick .un ix (ds ++ dd)) with
  | none => exact Iff.rfl
  | some (.ok r, as) => by_cases h : as.length = ix.length <;> simp [h, oE]
  | some (.ex r, as) => by_cases h : as.length = ix.length <;> simp [h, oE]
@[simp] theorem wS_for {fi : IM} {g : GM} {body : SM} : wS (WF.forM fi g body) S QS ↔ wI fi S fun ds l S => l = [] ∧ wS (loopM g body ds) S QS := by
  simp only [wS, WF.forM, wI]
  match fi S with
  | none => exact Iff.rfl
  | some (.ok ds [], S) => simp [oI]
  | some (.ok ds (_ :: _), S) => simp [oI, oS]
  | some (.ex _, S) => simp [oI, oS]
theorem wS_loop0 {g : GM} {body : SM} : wS (loopM g body []) S QS ↔ QS .nx S := Iff.rfl
theorem wS_loop1 {g : GM} {body : SM} {d : D} {ds : List D} : wS (loopM g body (d :: ds)) S QS ↔ wG g d S fun S => wS body S fun fl S => match fl with
    | .nx => wS (loopM g body ds) S QS
    | .ct => wS (loopM g body ds) S QS
    | .bk => QS .nx S
    | fl => QS fl S := by
  have e : loopM g body (d :: ds) S = match g d S with
    | none => none
    | some S1 => match body S1 with
      | some (.nx, S2) => loopM g body ds S2
      | some (.ct, S2) => loopM g body ds S2
      | some (.bk, S2) => some (.nx, S2)
      | o => o := rfl
  simp only [wS, wG, e]
  cases g d S with
  | none => exact Iff.rfl
  | some S1 =>
    simp only [oG]
    match body S1 with
    | none => exact Iff.rfl
    | some (.nx, _) => exact Iff.rfl
    | some (.rt _, _) => exact Iff.rfl
    | some (.bk, _) => exact Iff.rfl
    | some (.ct, _) => exact Iff.rfl
    | some (.ex _, _) => exact Iff.rfl
theorem wI_seq' : wI (seqI fe) S QI ↔ wE fe S fun d S => ∃ ds, itemsD d = some ds ∧ QI ds [] S := by
  simp only [wI, seqI, wE, bindI]
  match fe S with
  | none => exact Iff.rfl
  | some (.ex _, _) => exact Iff.rfl
  | some (.ok d, S) => cases h : itemsD d <;> simp [optI, oI, oE, h]
theorem wI_rng1' : wI (rng1M fa) S QI ↔ wE fa S fun d S => ∃ n, d = .int n ∧ -(2 ^ 62) ≤ n ∧ n < 2 ^ 62 ∧ QI (rngD 0 n.toNat) [] S := by
  simp only [wI, rng1M, wE, bindI]
  match fa S with
  | none => exact Iff.rfl
  | some (.ex _, _) => exact Iff.rfl
  | some (.ok d, S) =>
    cases d with
    | int n =>
      simp only [oE]
      by_cases h : -(2 ^ 62) ≤ n ∧ n < 2 ^ 62
      · rw [if_pos h]
        exact ⟨fun q => ⟨n, rfl, h.1, h.2, q⟩, fun ⟨_, e, _, _, q⟩ => by cases e; exact q⟩
      · rw [if_neg h]
        exact ⟨fun q => q.elim, fun ⟨_, e, a, b, q⟩ => by cases e; exact h ⟨a, b⟩⟩
    | _ => simp [oI, oE]
theorem wI_rng2' : wI (rng2M fa fb) S QI ↔ wE fa S fun d S => wE fb S fun e S => ∃ a b, d = .int a ∧ e = .int b ∧ (-(2 ^ 62) ≤ a ∧ a < 2 ^ 62 ∧ -(2 ^ 62) ≤ b ∧ b < 2 ^ 62) ∧ QI (rngD a (b - a).toNat) [] S := by
  simp only [wI, rng2M, wE, bindI]
  match fa S with
  | none => exact Iff.rfl
  | some (.ex _, _) => exact Iff.rfl
  | some (.ok d, S) =>
    simp only [oE]
    match fb S with
    | none => exact Iff.rfl
    | some (.ex _, _) => exact Iff.rfl
    | some (.ok e, S) =>
      cases d with
      | int a =>
        cases e with
        | int b =>
          simp only []
          by_cases h : -(2 ^ 62) ≤ a ∧ a < 2 ^ 62 ∧ -(2 ^ 62) ≤ b ∧ b < 2 ^ 62
          · rw [if_pos h]
            exact ⟨fun q => ⟨a, b, rfl, rfl, h, q⟩, fun ⟨_, _, e, e2, _, q⟩ => by cases e; cases e2; exact q⟩
          · rw [if_neg h]
            exact ⟨fun q => q.elim, fun ⟨_, _, e, e2, h2, q⟩ => by cases e; cases e2; exact h h2⟩
        | _ => simp [oI, oE]
      | _ => simp [oI, oE]
def walkK (comb : List (List D) → Option (List D)) (av : List Av) : IM := fun S => match takeA av S with
  | some (ds, S1) => match seqVs ds with
    | some (xss, ds') => match comb xss with
      | some ys => some (.ok ys (lentA av ds'), S1)
      | none => none
    | none => none
  | none => none
@[simp] theorem wI_walk {comb : List (List D) → Option (List D)} {as : List Ar} : wI (walkM comb as) S QI ↔ wI (argsAI as (walkK comb)) S QI := Iff.rfl
@[simp] theorem wI_args0 {g : List Av → IM} : wI (argsAI [] g) S QI ↔ wI (g []) S QI := Iff.rfl
@[simp] theorem wI_argsv {g : List Av → IM} {r : List Ar} : wI (argsAI (.v f :: r) g) S QI ↔ wE f S fun d S => wI (argsAI r fun ds => g (.inl d :: ds)) S QI := by
  have e : argsAI (.v f :: r) g S = bindI f (fun d => argsAI r fun ds => g (.inl d :: ds)) S := rfl
  simp only [wI, e, wE, bindI]
  match f S with
  | none => exact Iff.rfl
  | some (.ex _, _) => exact Iff.rfl
  | some (.ok d, S) => exact Iff.rfl
@[simp] theorem wI_argss {g : List Av → IM} {r : List Ar} : wI (argsAI (.s i :: r) g) S QI ↔ rd S[i]? fun d => isUn d = false ∧ wI (argsAI r fun ds => g (.inr i :: ds)) S QI := by
  have e : argsAI (.s i :: r) g S = match S[i]? with
    | some d => if isUn d then none else argsAI r (fun ds => g (.inr i :: ds)) S
    | none => none := rfl
  simp only [wI, e]
  cases h : S[i]? with
  | none => simp [oI]
  | some d => cases hu : isUn d <;> simp [hu, oI]
theorem wI_walkK' {comb : List (List D) → Option (List D)} {av : List Av} : wI (walkK comb av) S QI ↔ ∃ ds S1, takeA av S = some (ds, S1) ∧ ∃ xss ds', seqVs ds = some (xss, ds') ∧ ∃ ys, comb xss = some ys ∧ QI ys (lentA av ds') S1 := by
  constructor
  · intro q
    simp only [wI, walkK] at q
    cases h : takeA av S with
    | none => rw [h] at q; exact q.elim
    | some o =>
      obtain ⟨ds, S1⟩ := o
      rw [h] at q
      simp only at q
      cases h1 : seqVs ds with
      | none => rw [h1] at q; exact q.elim
      | some o =>
        obtain ⟨xss, ds'⟩ := o
        rw [h1] at q
        simp only at q
        cases h2 : comb xss with
        | none => rw [h2] at q; exact q.elim
        | some ys => rw [h2] at q; exact ⟨_, _, rfl, _, _, h1, _, h2, q⟩
  · rintro ⟨ds, S1, h, xss, ds', h1, ys, h2, q⟩
    simp only [wI, walkK, h, h1, h2]
    exact q
@[simp] theorem wE_comp {own : List Nat} {fi : IM} {g : GM} {ft : Option EM} : wE (compM own fi g ft fe) S Q ↔ wI fi S fun ds l S1 => own.all (fun k => decide (k < S1.length)) = true ∧ wC own g ft fe ds (wipeS S1 own) [] fun acc S2 => Q (.lst true acc) (restS l (backS S1 S2 own)) := by
  simp only [wE, compM, wI, wC]
  match fi S with
  | none => exact Iff.rfl
  | some (.ex _, _) => exact Iff.rfl
  | some (.ok ds l, S1) =>
    simp only [oI]
    by_cases h : own.all (fun k => decide (k < S1.length)) = true
    · simp only [h, if_true, true_and]
      match compL own g ft fe ds (wipeS S1 own) [] with
      | none => exact Iff.rfl
      | some (acc, S2) => exact Iff.rfl
    · simp [h, oE]
theorem wC_nil {own : List Nat} {g : GM} {ft : Option EM} {acc : List D} {QC : List D → S0 → Prop} : wC own g ft fe [] S acc QC ↔ QC acc S := Iff.rfl
theorem wC_cons0 {own : List Nat} {g : GM} {d : D} {ds acc : List D} {QC : List D → S0 → Prop} : wC own g none fe (d :: ds) S acc QC ↔ wG g d S fun S => wE fe S fun y S => acc.length < 1000000 ∧ wC own g none fe ds (wipeS S own) (acc ++ [y]) QC := by
  have e : compL own g none fe (d :: ds) S acc = match g d S with
    | none => none
    | some S1 => match fe S1 with
        | some (.ok y, S3) => if acc.length < 1000000 then compL own g none fe ds (wipeS S3 own) (acc ++ [y]) else none
        | _ => none := by
    rw [compL]
    cases g d S <;> rfl
  simp only [wC, wG, e, wE]
  cases g d S with
  | none => exact Iff.rfl
  | some S1 =>
    simp only [oG]
    match fe S1 with
    | none => exact Iff.rfl
    | some (.ex _, _) => exact Iff.rfl
    | some (.ok y, S3) => by_cases h : acc.length < 1000000 <;> simp [h, oE, oC]
def asI : D → Option Int
  | .int n => some n
  | _ => none
def asB : D → Option Bool
  | .bl n => some n
  | _ => none
def asL : D → Option (List D)
  | .lst _ n => some n
  | _ => none
def asO : D → Option (List D)
  | .lst true n => some n
  | _ => none
@[simp] theorem asI_int {n : Int} : asI (.int n) = some n := rfl
@[simp] theorem asB_bl {n : Bool} : asB (.bl n) = some n := rfl
@[simp] theorem asL_lst {o : Bool} {n : List D} : asL (.lst o n) = some n := rfl
@[simp] theorem asO_lst {n : List D} : asO (.lst true n) = some n := rfl
theorem asI_is {d : D} {n : Int} : asI d = some n ↔ d = .int n := by cases d <;> simp [asI]
theorem asL_is {d : D} {n : List D} : asL d = some n ↔ ∃ o, d = .lst o n := by cases d <;> simp [asL]
theorem asO_is {d : D} {n : List D} : asO d = some n ↔ d = .lst true n := by
  cases d with
  | lst o n => cases o <;> simp [asO]
  | _ => simp [asO]
@[simp] theorem wE_tail {q : IP} {b : Int} : wE (tailM q b fc) S Q ↔ wE fc S fun z S => rd (asI z) fun c => Q (.bl (q b c)) S := by
  rw [wE_tail']; simp only [rd, asI_is]
@[simp] theorem wE_chain2 {p q : IP} : wE (chain2M p q fa fb fc) S Q ↔ wE fa S fun x S => wE fb S fun y S => rd (asI x) fun a => rd (asI y) fun b => if p a b = true then wE (tailM q b fc) S Q else Q (.bl false) S := by
  rw [wE_chain2']; simp only [rd, asI_is, exists_and_left]
@[simp] theorem wE_chain3 {p q r : IP} : wE (chain3M p q r fa fb fc fd) S Q ↔ wE fa S fun x S => wE fb S fun y S => rd (asI x) fun a => rd (asI y) fun b => if p a b = true then (wE fc S fun z S => rd (asI z) fun d => if q b d = true then wE (tailM r d fd) S Q else Q (.bl false) S) else Q (.bl false) S := by
  rw [wE_chain3']; simp only [rd, asI_is, exists_and_left]
@[simp] theorem wE_optE1 {g : Option Int → EM} : wE (optE (some f) g) S Q ↔ wE f S fun d S => rd (asI d) fun n => wE (g (some n)) S Q := by
  rw [wE_optE1']; simp only [rd, asI_is]
@[simp] theorem wE_app : wE (appM i fe) S Q ↔ rd (S[i]?.bind asL) fun _ => wE fe S fun d S => rd (S[i]?.bind asO) fun xs => xs.length < 1000000 ∧ Q .non (S.set i (.lst true (xs ++ [d]))) := by
  rw [wE_app']
  simp only [rd, Option.bind_eq_some_iff, asL_is, asO_is]
  constructor
  · rintro ⟨o, xs, h, q⟩
    refine ⟨xs, ⟨_, h, o, rfl⟩, q.mono fun d S ⟨xs, h, q⟩ => ⟨xs, ⟨_, h, rfl⟩, q⟩⟩
  · rintro ⟨xs, ⟨_, h, o, rfl⟩, q⟩
    exact ⟨o, xs, h, q.mono fun d S ⟨xs, ⟨_, h, e⟩, q⟩ => ⟨xs, by rw [h, e], q⟩⟩
@[simp] theorem wG_sub {fk : EM} {d : D} : wG (gSubM i fk) d S QG ↔ rd (S[i]?.bind asL) fun _ => wE fk S fun k S => rd (asI k) fun n => rd (S[i]?.bind asO) fun xs => rd (ixN xs.length n) fun m => QG (S.set i (.lst true (xs.set m d))) := by
  rw [wG_sub']
  simp only [rd, Option.bind_eq_some_iff, asL_is, asO_is, asI_is]
  constructor
  · rintro ⟨⟨o, xs, h⟩, q⟩
    refine ⟨xs, ⟨_, h, o, rfl⟩, q.mono fun k S ⟨n, e, xs, h, m, h2, q⟩ => ⟨n, e, xs, ⟨_, h, rfl⟩, m, h2, q⟩⟩
  · rintro ⟨xs, ⟨_, h, o, rfl⟩, q⟩
    exact ⟨⟨o, xs, h⟩, q.mono fun k S ⟨n, e, xs, ⟨_, h, e2⟩, m, h2, q⟩ => ⟨n, e, xs, by rw [h, e2], m, h2, q⟩⟩
@[simp] theorem wI_seq : wI (seqI fe) S QI ↔ wE fe S fun d S => rd (itemsD d) fun ds => QI ds [] S := wI_seq'
@[simp] theorem wI_rng1 : wI (rng1M fa) S QI ↔ wE fa S fun d S => rd (asI d) fun n => (-(2 ^ 62) ≤ n ∧ n < 2 ^ 62) ∧ QI (rngD 0 n.toNat) [] S := by
  rw [wI_rng1']; simp only [rd, asI_is, and_assoc]
@[simp] theorem wI_rng2 : wI (rng2M fa fb) S QI ↔ wE fa S fun d S => wE fb S fun e S => rd (asI d) fun a => rd (asI e) fun b => (-(2 ^ 62) ≤ a ∧ a < 2 ^ 62 ∧ -(2 ^ 62) ≤ b ∧ b < 2 ^ 62) ∧ QI (rngD a (b - a).toNat) [] S := by
  rw [wI_rng2']; simp only [rd, asI_is, exists_and_left]
@[simp] theorem wI_walkK {comb : List (List D) → Option (List D)} {av : List Av} : wI (walkK comb av) S QI ↔ rd (takeA av S) fun p => rd (seqVs p.1) fun q => rd (comb q.1) fun ys => QI ys (lentA av q.2) p.2 := by
  rw [wI_walkK']
  exact ⟨fun ⟨ds, S1, h, xss, ds', h1, ys, h2, q⟩ => ⟨_, h, _, h1, _, h2, q⟩, fun ⟨p, h, q, h1, ys, h2, z⟩ => ⟨p.1, p.2, h, q.1, q.2, h1, ys, h2, z⟩⟩
end
end WF0
namespace WF
open PySem L2
structure Tg {α : Sort u} (q : α) : Type
@[irreducible] def wE (f : EM) (S : S0) (Q : D → S0 → Prop) (t : Tg Q := ⟨⟩) : Prop := WF0.wE f S Q
@[irreducible] def wS (f : SM) (S : S0) (Q : Fl → S0 → Prop) (t : Tg Q := ⟨⟩) : Prop := WF0.wS f S Q
@[irreducible] def wI (f : IM) (S : S0) (Q : List D → List (Nat × D) → S0 → Prop) (t : Tg Q := ⟨⟩) : Prop := WF0.wI f S Q
@[irreducible] def wG (g : GM) (d : D) (S : S0) (Q : S0 → Prop) (t : Tg Q := ⟨⟩) : Prop := WF0.wG g d S Q
@[irreducible] def wGs (g : GMs) (d : List D) (S : S0) (Q : S0 → Prop) (t : Tg Q := ⟨⟩) : Prop := WF0.wGs g d S Q
@[irreducible] def wF (m : Fn) (ds : List D) (Q : D → List D → Prop) (t : Tg Q := ⟨⟩) : Prop := WF0.wF m ds Q
@[irreducible] def wC (own : List Nat) (g : GM) (ft : Option EM) (fe : EM) (ds : List D) (S : S0) (acc : List D) (Q : List D → S0 → Prop) (t : Tg Q := ⟨⟩) : Prop := WF0.wC own g ft fe ds S acc Q
@[irreducible] def rd {α : Type} (o : Option α) (P : α → Prop) (t : Tg P := ⟨⟩) : Prop := WF0.rd o P
abbrev asI := WF0.asI
abbrev asB := WF0.asB
abbrev asL := WF0.asL
abbrev asO := WF0.asO
abbrev callK := WF0.callK
abbrev roK := WF0.roK
abbrev walkK := WF0.walkK
section
variable {α : Type} {P : α → Prop}
@[simp] theorem rd_some {d : α} : rd (some d) P ↔ P d := by
  (try unfold wE); (try unfold wS); (try unfold wI); (try unfold wG); (try unfold wGs); (try unfold wF); (try unfold wC); (try unfold rd)
  exact WF0.rd_some
@[simp] theorem rd_none : rd none P ↔ False := by
  (try unfold wE); (try unfold wS); (try unfold wI); (try unfold wG); (try unfold wGs); (try unfold wF); (try unfold wC); (try unfold rd)
  exact WF0.rd_none
@[simp] theorem rd_ite {c : Prop} [Decidable c] {o : Option α} : rd (if c then o else none) P ↔ c ∧ rd o P := by
  (try unfold wE); (try unfold wS); (try unfold wI); (try unfold wG); (try unfold wGs); (try unfold wF); (try unfold wC); (try unfold rd)
  exact WF0.rd_ite
@[simp] theorem rd_map {β : Type} {o : Option β} {g : β → α} : rd (o.map g) P ↔ rd o fun b => P (g b) := by
  (try unfold wE); (try unfold wS); (try unfold wI); (try unfold wG); (try unfold wGs); (try unfold wF); (try unfold wC); (try unfold rd)
  exact WF0.rd_map
@[simp] theorem rd_bind {β : Type} {o : Option β} {g : β → Option α} : rd (o.bind g) P ↔ rd o fun b => rd (g b) P := by
  (try unfold wE); (try unfold wS); (try unfold wI); (try unfold wG); (try unfold wGs); (try unfold wF); (try unfold wC); (try unfold rd)
  exact WF0.rd_bind
end
section
variable {S : S0} {Q : D → S0 → Prop} {QS : Fl → S0 → Prop} {QI : List D → List (Nat × D) → S0 → Prop} {QG : S0 → Prop} {f fa fb fc fd fe : EM} {i : Nat}
theorem wE.mono {Q' : D → S0 → Prop} (h : wE f S Q) (q : ∀ d S, Q d S → Q' d S) : wE f S Q' := by
  revert h
  (try unfold wE); (try unfold wS); (try unfold wI); (try unfold wG); (try unfold wGs); (try unfold wF); (try unfold wC); (try unfold rd)
  exact fun h => WF0.wE.mono h q
theorem wF.mono {m : Fn} {ds : List D} {Q Q' : D → List D → Prop} (h : wF m ds Q) (q : ∀ d S, Q d S → Q' d S) : wF m ds Q' := by
  revert h
  (try unfold wE); (try unfold wS); (try unfold wI); (try unfold wG); (try unfold wGs); (try unfold wF); (try unfold wC); (try unfold rd)
  exact fun h => WF0.wF.mono h q
theorem wS.mono {f : SM} {Q' : Fl → S0 → Prop} (h : wS f S QS) (q : ∀ d S, QS d S → Q' d S) : wS f S Q' := by
  revert h
  (try unfold wE); (try unfold wS); (try unfold wI); (try unfold wG); (try unfold wGs); (try unfold wF); (try unfold wC); (try unfold rd)
  exact fun h => WF0.wS.mono h q
@[simp] theorem wE_ret {d : D} : wE (retM d) S Q ↔ Q d S := by
  (try unfold wE); (try unfold wS); (try unfold wI); (try unfold wG); (try unfold wGs); (try unfold wF); (try unfold wC); (try unfold rd)
  exact WF0.wE_ret
@[simp] theorem wE_bind {g : D → EM} : wE (bindM f g) S Q ↔ wE f S fun d S' => wE (g d) S' Q := by
  (try unfold wE); (try unfold wS); (try unfold wI); (try unfold wG); (try unfold wGs); (try unfold wF); (try unfold wC); (try unfold rd)
  exact WF0.wE_bind
@[simp] theorem wE_opt {o : Option D} : wE (optM o) S Q ↔ rd o fun d => Q d S := by
  (try unfold wE); (try unfold wS); (try unfold wI); (try unfold wG); (try unfold wGs); (try unfold wF); (try unfold wC); (try unfold rd)
  exact WF0.wE_opt
@[simp] theorem wE_var : wE (varM i) S Q ↔ rd S[i]? fun d => isUn d = false ∧ Q d.frz (S.set i d.frz) := by
  (try unfold wE); (try unfold wS); (try unfold wI); (try unfold wG); (try unfold wGs); (try unfold wF); (try unfold wC); (try unfold rd)
  exact WF0.wE_var
@[simp] theorem wE_take : wE (takeM i) S Q ↔ rd S[i]? fun d => isUn d = false ∧ Q d (S.set i .un) := by
  (try unfold wE); (try unfold wS); (try unfold wI); (try unfold wG); (try unfold wGs); (try unfold wF); (try unfold wC); (try unfold rd)
  exact WF0.wE_take
@[simp] theorem wE_bin {op : D → D → Option D} : wE (binM op fa fb) S Q ↔ wE fa S fun x S => wE fb S fun y S => rd (op x y) fun d => Q d S := by
  (try unfold wE); (try unfold wS); (try unfold wI); (try unfold wG); (try unfold wGs); (try unfold wF); (try unfold wC); (try unfold rd)
  exact WF0.wE_bin
@[simp] theorem wE_un {op : D → Option D} : wE (unM op fa) S Q ↔ wE fa S fun x S => rd (op x) fun d => Q d S := by
  (try unfold wE); (try unfold wS); (try unfold wI); (try unfold wG); (try unfold wGs); (try unfold wF); (try unfold wC); (try unfold rd)
  exact WF0.wE_un
@[simp] theorem wE_args0 {g : List D → EM} : wE (argsM [] g) S Q ↔ wE (g []) S Q := by
  (try unfold wE); (try unfold wS); (try unfold wI); (try unfold wG); (try unfold wGs); (try unfold wF); (try unfold wC); (try unfold rd)
  exact WF0.wE_args0
@[simp] theorem wE_args1 {g : List D → EM} {fs : List EM} : wE (argsM (f :: fs) g) S Q ↔ wE f S fun d S => wE (argsM fs fun ds => g (d :: ds)) S Q := by
  (try unfold wE); (try unfold wS); (try unfold wI); (try unfold wG); (try unfold wGs); (try unfold wF); (try unfold wC); (try unfold rd)
  exact WF0.wE_args1
@[simp] theorem wE_tup {fs : List EM} : wE (tupM fs) S Q ↔ wE (argsM fs fun ds => retM (.tup ds)) S Q := by
  (try unfold wE); (try unfold wS); (try unfold wI); (try unfold wG); (try unfold wGs); (try unfold wF); (try unfold wC); (try unfold rd)
  exact WF0.wE_tup
@[simp] theorem wE_lst {fs : List EM} : wE (lstM fs) S Q ↔ wE (argsM fs fun ds => retM (.lst true ds)) S Q := by
  (try unfold wE); (try unfold wS); (try unfold wI); (try unfold wG); (try unfold wGs); (try unfold wF); (try unfold wC); (try unfold rd)
  exact WF0.wE_lst
@[simp] theorem wE_cb {op : List D → Option D} {fs : List EM} : wE (cbM op fs) S Q ↔ wE (argsM fs fun ds => optM (op ds)) S Q := by
  (try unfold wE); (try unfold wS); (try unfold wI); (try unfold wG); (try unfold wGs); (try unfold wF); (try unfold wC); (try unfold rd)
  exact WF0.wE_cb
@[simp] theorem wE_br {b : Bool} : wE (brM (.bl b) fa fb) S Q ↔ if b = true then wE fa S Q else wE fb S Q := by
  (try unfold wE); (try unfold wS); (try unfold wI); (try unfold wG); (try unfold wGs); (try unfold wF); (try unfold wC); (try unfold rd)
  exact WF0.wE_br
@[simp] theorem wE_and : wE (andM fa fb) S Q ↔ wE fa S fun d S => wE (brM d fb (retM (.bl false))) S Q := by
  (try unfold wE); (try unfold wS); (try unfold wI); (try unfold wG); (try unfold wGs); (try unfold wF); (try unfold wC); (try unfold rd)
  exact WF0.wE_and
@[simp] theorem wE_or : wE (orM fa fb) S Q ↔ wE fa S fun d S => wE (brM d (retM (.bl true)) fb) S Q := by
  (try unfold wE); (try unfold wS); (try unfold wI); (try unfold wG); (try unfold wGs); (try unfold wF); (try unfold wC); (try unfold rd)
  exact WF0.wE_or
@[simp] theorem wE_not : wE (notM fa) S Q ↔ wE fa S fun d S => wE (brM d (retM (.bl false)) (retM (.bl true))) S Q := by
  (try unfold wE); (try unfold wS); (try unfold wI); (try unfold wG); (try unfold wGs); (try unfold wF); (try unfold wC); (try unfold rd)
  exact WF0.wE_not
@[simp] theorem wE_if : wE (ifM fc fa fb) S Q ↔ wE fc S fun d S => wE (brM d fa fb) S Q := by
  (try unfold wE); (try unfold wS); (try unfold wI); (try unfold wG); (try unfold wGs); (try unfold wF); (try unfold wC); (try unfold rd)
  exact WF0.wE_if
@[simp] theorem wE_argsA0 {g : List Av → EM} : wE (argsA [] g) S Q ↔ wE (g []) S Q := by
  (try unfold wE); (try unfold wS); (try unfold wI); (try unfold wG); (try unfold wGs); (try unfold wF); (try unfold wC); (try unfold rd)
  exact WF0.wE_argsA0
@[simp] theorem wE_argsAv {g : List Av → EM} {r : List Ar} : wE (argsA (.v f :: r) g) S Q ↔ wE f S fun d S => wE (argsA r fun ds => g (.inl d :: ds)) S Q := by
  (try unfold wE); (try unfold wS); (try unfold wI); (try unfold wG); (try unfold wGs); (try unfold wF); (try unfold wC); (try unfold rd)
  exact WF0.wE_argsAv
@[simp] theorem wE_argsAs {g : List Av → EM} {r : List Ar} : wE (argsA (.s i :: r) g) S Q ↔ rd S[i]? fun d => isUn d = false ∧ wE (argsA r fun ds => g (.inr i :: ds)) S Q := by
  (try unfold wE); (try unfold wS); (try unfold wI); (try unfold wG); (try unfold wGs); (try unfold wF); (try unfold wC); (try unfold rd)
  exact WF0.wE_argsAs
@[simp] theorem wE_call {m : Fn} {as : List Ar} : wE (callM m as) S Q ↔ wE (argsA as (callK m)) S Q := by
  (try unfold wE); (try unfold wS); (try unfold wI); (try unfold wG); (try unfold wGs); (try unfold wF); (try unfold wC); (try unfold rd)
  exact WF0.wE_call
@[simp] theorem wE_callK {m : Fn} {av : List Av} : wE (callK m av) S Q ↔ rd (takeA av S) fun p => wF m p.1 fun r ds' => ds'.length = av.length ∧ Q r (putA av ds' p.2) := by
  (try unfold wE); (try unfold wS); (try unfold wI); (try unfold wG); (try unfold wGs); (try unfold wF); (try unfold wC); (try unfold rd)
  exact WF0.wE_callK
@[simp] theorem wE_ro {op : List D → Option D} {as : List Ar} : wE (roM op as) S Q ↔ wE (argsA as (roK op)) S Q := by
  (try unfold wE); (try unfold wS); (try unfold wI); (try unfold wG); (try unfold wGs); (try unfold wF); (try unfold wC); (try unfold rd)
  exact WF0.wE_ro
@[simp] theorem wE_roK {op : List D → Option D} {av : List Av} : wE (roK op av) S Q ↔ rd (takeA av S) fun p => rd (op p.1) fun d => p.1.length = av.length ∧ Q d (putA av p.1 p.2) := by
  (try unfold wE); (try unfold wS); (try unfold wI); (try unfold wG); (try unfold wGs); (try unfold wF); (try unfold wC); (try unfold rd)
  exact WF0.wE_roK
@[simp] theorem wE_has : wE (hasM i f) S Q ↔ rd S[i]? fun d => isUn d = false ∧ wE f S Q := by
  (try unfold wE); (try unfold wS); (try unfold wI); (try unfold wG); (try unfold wGs); (try unfold wF); (try unfold wC); (try unfold rd)
  exact WF0.wE_has
@[simp] theorem wE_ixS : wE (ixS i fb) S Q ↔ wE fb S fun k S => rd S[i]? fun d => rd (ixO d k) fun p => isUn d = false ∧ Q p.1 (S.set i p.2) := by
  (try unfold wE); (try unfold wS); (try unfold wI); (try unfold wG); (try unfold wGs); (try unfold wF); (try unfold wC); (try unfold rd)
  exact WF0.wE_ixS
@[simp] theorem wE_optE0 {g : Option Int → EM} : wE (optE none g) S Q ↔ wE (g none) S Q := by
  (try unfold wE); (try unfold wS); (try unfold wI); (try unfold wG); (try unfold wGs); (try unfold wF); (try unfold wC); (try unfold rd)
  exact WF0.wE_optE0
@[simp] theorem wE_slice {lo hi : Option EM} : wE (sliceM fe lo hi) S Q ↔ wE fe S fun d S => wE (optE lo fun l => optE hi fun h => optM (sliceD d l h)) S Q := by
  (try unfold wE); (try unfold wS); (try unfold wI); (try unfold wG); (try unfold wGs); (try unfold wF); (try unfold wC); (try unfold rd)
  exact WF0.wE_slice
@[simp] theorem wS_seq {f g : SM} : wS (seqM f g) S QS ↔ wS f S fun fl S' => match fl with
    | .nx => wS g S' QS
    | fl => QS fl S' := by
  (try unfold wE); (try unfold wS); (try unfold wI); (try unfold wG); (try unfold wGs); (try unfold wF); (try unfold wC); (try unfold rd)
  exact WF0.wS_seq
@[simp] theorem wS_skip : wS skipM S QS ↔ QS .nx S := by
  (try unfold wE); (try unfold wS); (try unfold wI); (try unfold wG); (try unfold wGs); (try unfold wF); (try unfold wC); (try unfold rd)
  exact WF0.wS_skip
@[simp] theorem wS_fail : wS failM S QS ↔ False := by
  (try unfold wE); (try unfold wS); (try unfold wI); (try unfold wG); (try unfold wGs); (try unfold wF); (try unfold wC); (try unfold rd)
  exact WF0.wS_fail
@[simp] theorem wS_raise {x g : Str} {fe : EM} : wS (raiseM x g fe) S QS ↔ False := by
  (try unfold wS); exact WF0.wS_raise
@[simp] theorem wS_raise0 {x : Str} : wS (raise0M x) S QS ↔ False := by
  (try unfold wS); exact WF0.wS_raise0
@[simp] theorem wS_bindS {g : D → SM} : wS (bindS f g) S QS ↔ wE f S fun d S => wS (g d) S QS := by
  (try unfold wE); (try unfold wS); (try unfold wI); (try unfold wG); (try unfold wGs); (try unfold wF); (try unfold wC); (try unfold rd)
  exact WF0.wS_bindS
@[simp] theorem wS_ret : wS (retS fe) S QS ↔ wE fe S fun d S => QS (.rt d) S := by
  (try unfold wE); (try unfold wS); (try unfold wI); (try unfold wG); (try unfold wGs); (try unfold wF); (try unfold wC); (try unfold rd)
  exact WF0.wS_ret
@[simp] theorem wS_expr : wS (exprS fe) S QS ↔ wE fe S fun _ S => QS .nx S := by
  (try unfold wE); (try unfold wS); (try unfold wI); (try unfold wG); (try unfold wGs); (try unfold wF); (try unfold wC); (try unfold rd)
  exact WF0.wS_expr
@[simp] theorem wS_bk : wS (fun S => some (.bk, S)) S QS ↔ QS .bk S := by
  (try unfold wE); (try unfold wS); (try unfold wI); (try unfold wG); (try unfold wGs); (try unfold wF); (try unfold wC); (try unfold rd)
  exact WF0.wS_bk
@[simp] theorem wS_ct : wS (fun S => some (.ct, S)) S QS ↔ QS .ct S := by
  (try unfold wE); (try unfold wS); (try unfold wI); (try unfold wG); (try unfold wGs); (try unfold wF); (try unfold wC); (try unfold rd)
  exact WF0.wS_ct
@[simp] theorem wS_asg {g : GM} : wS (asgM fe g) S QS ↔ wE fe S fun d S => wG g d S fun S => QS .nx S := by
  (try unfold wE); (try unfold wS); (try unfold wI); (try unfold wG); (try unfold wGs); (try unfold wF); (try unfold wC); (try unfold rd)
  exact WF0.wS_asg
@[simp] theorem wS_br {b : Bool} {f g : SM} : wS (brS (.bl b) f g) S QS ↔ if b = true then wS f S QS else wS g S QS := by
  (try unfold wE); (try unfold wS); (try unfold wI); (try unfold wG); (try unfold wGs); (try unfold wF); (try unfold wC); (try unfold rd)
  exact WF0.wS_br
@[simp] theorem wS_if {f g : SM} : wS (ifS fc f g) S QS ↔ wE fc S fun d S => wS (brS d f g) S QS := by
  (try unfold wE); (try unfold wS); (try unfold wI); (try unfold wG); (try unfold wGs); (try unfold wF); (try unfold wC); (try unfold rd)
  exact WF0.wS_if
@[simp] theorem wS_par2 {j : Nat} {fs : List EM} : wS (par2M i j fs) S QS ↔ wS (asgM (tupM fs) (gTupM 2 (gConsM (gSetM i) (gConsM (gSetM j) gNilM)))) S QS := by
  (try unfold wE); (try unfold wS); (try unfold wI); (try unfold wG); (try unfold wGs); (try unfold wF); (try unfold wC); (try unfold rd)
  exact WF0.wS_par2
@[simp] theorem wS_par3 {j l : Nat} {fs : List EM} : wS (par3M i j l fs) S QS ↔ wS (asgM (tupM fs) (gTupM 3 (gConsM (gSetM i) (gConsM (gSetM j) (gConsM (gSetM l) gNilM))))) S QS := by
  (try unfold wE); (try unfold wS); (try unfold wI); (try unfold wG); (try unfold wGs); (try unfold wF); (try unfold wC); (try unfold rd)
  exact WF0.wS_par3
@[simp] theorem wG_set {d : D} : wG (gSetM i) d S QG ↔ i < S.length ∧ QG (S.set i d) := by
  (try unfold wE); (try unfold wS); (try unfold wI); (try unfold wG); (try unfold wGs); (try unfold wF); (try unfold wC); (try unfold rd)
  exact WF0.wG_set
@[simp] theorem wG_tup {n : Nat} {gs : GMs} {ds : List D} : wG (gTupM n gs) (.tup ds) S QG ↔ ds.length = n ∧ wGs gs ds S QG := by
  (try unfold wE); (try unfold wS); (try unfold wI); (try unfold wG); (try unfold wGs); (try unfold wF); (try unfold wC); (try unfold rd)
  exact WF0.wG_tup
@[simp] theorem wG_lst {n : Nat} {gs : GMs} {ds : List D} {o : Bool} : wG (gTupM n gs) (.lst o ds) S QG ↔ ds.length = n ∧ wGs gs ds S QG := by
  (try unfold wE); (try unfold wS); (try unfold wI); (try unfold wG); (try unfold wGs); (try unfold wF); (try unfold wC); (try unfold rd)
  exact WF0.wG_lst
@[simp] theorem wGs_nil : wGs gNilM [] S QG ↔ QG S := by
  (try unfold wE); (try unfold wS); (try unfold wI); (try unfold wG); (try unfold wGs); (try unfold wF); (try unfold wC); (try unfold rd)
  exact WF0.wGs_nil
@[simp] theorem wGs_cons {g : GM} {gs : GMs} {d : D} {ds : List D} : wGs (gConsM g gs) (d :: ds) S QG ↔ wG g d S fun S => wGs gs ds S QG := by
  (try unfold wE); (try unfold wS); (try unfold wI); (try unfold wG); (try unfold wGs); (try unfold wF); (try unfold wC); (try unfold rd)
  exact WF0.wGs_cons
theorem wF_def {mask : List Bool} {N : Nat} {body : SM} {ds : List D} {QF : D → List D → Prop} : wF (defM mask N body) ds QF ↔ wS body (ds ++ List.replicate (N - mask.length) .un) fun fl S => match fl with
    | .rt d => QF d (maskM mask S)
    | .nx => QF .non (maskM mask S)
    | _ => False := by
  (try unfold wE); (try unfold wS); (try unfold wI); (try unfold wG); (try unfold wGs); (try unfold wF); (try unfold wC); (try unfold rd)
  exact WF0.wF_def
theorem wF_pick {ix inv : List Nat} {dd : List D} {m : Fn} {ds : List D} {QF : D → List D → Prop} : wF (pickF ix inv dd m) ds QF ↔ wF m (pick .un ix (ds ++ dd)) fun r as => as.length = ix.length ∧ QF r ((pick .un inv as).take ds.length) := by
  (try unfold wE); (try unfold wS); (try unfold wI); (try unfold wG); (try unfold wGs); (try unfold wF); (try unfold wC); (try unfold rd)
  exact WF0.wF_pick
@[simp] theorem wS_for {fi : IM} {g : GM} {body : SM} : wS (WF.forM fi g body) S QS ↔ wI fi S fun ds l S => l = [] ∧ wS (loopM g body ds) S QS := by
  (try unfold wE); (try unfold wS); (try unfold wI); (try unfold wG); (try unfold wGs); (try unfold wF); (try unfold wC); (try unfold rd)
  exact WF0.wS_for
theorem wS_loop0 {g : GM} {body : SM} : wS (loopM g body []) S QS ↔ QS .nx S := by
  (try unfold wE); (try unfold wS); (try unfold wI); (try unfold wG); (try unfold wGs); (try unfold wF); (try unfold wC); (try unfold rd)
  exact WF0.wS_loop0
theorem wS_loop1 {g : GM} {body : SM} {d : D} {ds : List D} : wS (loopM g body (d :: ds)) S QS ↔ wG g d S fun S => wS body S fun fl S => match fl with
    | .nx => wS (loopM g body ds) S QS
    | .ct => wS (loopM g body ds) S QS
    | .bk => QS .nx S
    | fl => QS fl S := by
  (try unfold wE); (try unfold wS); (try unfold wI); (try unfold wG); (try unfold wGs); (try unfold wF); (try unfold wC); (try unfold rd)
  exact WF0.wS_loop1
@[simp] theorem wI_walk {comb : List (List D) → Option (List D)} {as : List Ar} : wI (walkM comb as) S QI ↔ wI (argsAI as (walkK comb)) S QI := by
  (try unfold wE); (try unfold wS); (try unfold wI); (try unfold wG); (try unfold wGs); (try unfold wF); (try unfold wC); (try unfold rd)
  exact WF0.wI_walk
@[simp] theorem wI_args0 {g : List Av → IM} : wI (argsAI [] g) S QI ↔ wI (g []) S QI := by
  (try unfold wE); (try unfold wS); (try unfold wI); (try unfold wG); (try unfold wGs); (try unfold wF); (try unfold wC); (try unfold rd)
  exact WF0.wI_args0
@[simp] theorem wI_argsv {g : List Av → IM} {r : List Ar} : wI (argsAI (.v f :: r) g) S QI ↔ wE f S fun d S => wI (argsAI r fun ds => g (.inl d :: ds)) S QI := by
  (try unfold wE); (try unfold wS); (try unfold wI); (try unfold wG); (try unfold wGs); (try unfold wF); (try unfold wC); (try unfold rd)
  exact WF0.wI_argsv
@[simp] theorem wI_argss {g : List Av → IM} {r : List Ar} : wI (argsAI (.s i :: r) g) S QI ↔ rd S[i]? fun d => isUn d = false ∧ wI (argsAI r fun ds => g (.inr i :: ds)) S QI := by
  (try unfold wE); (try unfold wS); (try unfold wI); (try unfold wG); (try unfold wGs); (try unfold wF); (try unfold wC); (try unfold rd)
  exact WF0.wI_argss
@[simp] theorem wE_comp {own : List Nat} {fi : IM} {g : GM} {ft : Option EM} : wE (compM own fi g ft fe) S Q ↔ wI fi S fun ds l S1 => own.all (fun k => decide (k < S1.length)) = true ∧ wC own g ft fe ds (wipeS S1 own) [] fun acc S2 => Q (.lst true acc) (restS l (backS S1 S2 own)) := by
  (try unfold wE); (try unfold wS); (try unfold wI); (try unfold wG); (try unfold wGs); (try unfold wF); (try unfold wC); (try unfold rd)
  exact WF0.wE_comp
theorem wC_nil {own : List Nat} {g : GM} {ft : Option EM} {acc : List D} {QC : List D → S0 → Prop} : wC own g ft fe [] S acc QC ↔ QC acc S := by
  (try unfold wE); (try unfold wS); (try unfold wI); (try unfold wG); (try unfold wGs); (try unfold wF); (try unfold wC); (try unfold rd)
  exact WF0.wC_nil
theorem wC_cons0 {own : List Nat} {g : GM} {d : D} {ds acc : List D} {QC : List D → S0 → Prop} : wC own g none fe (d :: ds) S acc QC ↔ wG g d S fun S => wE fe S fun y S => acc.length < 1000000 ∧ wC own g none fe ds (wipeS S own) (acc ++ [y]) QC := by
  (try unfold wE); (try unfold wS); (try unfold wI); (try unfold wG); (try unfold wGs); (try unfold wF); (try unfold wC); (try unfold rd)
  exact WF0.wC_cons0
@[simp] theorem asI_int {n : Int} : asI (.int n) = some n := by
  (try unfold wE); (try unfold wS); (try unfold wI); (try unfold wG); (try unfold wGs); (try unfold wF); (try unfold wC); (try unfold rd)
  exact WF0.asI_int
@[simp] theorem asB_bl {n : Bool} : asB (.bl n) = some n := by
  (try unfold wE); (try unfold wS); (try unfold wI); (try unfold wG); (try unfold wGs); (try unfold wF); (try unfold wC); (try unfold rd)
  exact WF0.asB_bl
@[simp] theorem asL_lst {o : Bool} {n : List D} : asL (.lst o n) = some n := by
  (try unfold wE); (try unfold wS); (try unfold wI); (try unfold wG); (try unfold wGs); (try unfold wF); (try unfold wC); (try unfold rd)
  exact WF0.asL_lst
@[simp] theorem asO_lst {n : List D} : asO (.lst true n) = some n := by
  (try unfold wE); (try unfold wS); (try unfold wI); (try unfold wG); (try unfold wGs); (try unfold wF); (try unfold wC); (try unfold rd)
  exact WF0.asO_lst
theorem asI_is {d : D} {n : Int} : asI d = some n ↔ d = .int n := by
  (try unfold wE); (try unfold wS); (try unfold wI); (try unfold wG); (try unfold wGs); (try unfold wF); (try unfold wC); (try unfold rd)
  exact WF0.asI_is
theorem asL_is {d : D} {n : List D} : asL d = some n ↔ ∃ o, d = .lst o n := by
  (try unfold wE); (try unfold wS); (try unfold wI); (try unfold wG); (try unfold wGs); (try unfold wF); (try unfold wC); (try unfold rd)
  exact WF0.asL_is
theorem asO_is {d : D} {n : List D} : asO d = some n ↔ d = .lst true n := by
  (try unfold wE); (try unfold wS); (try unfold wI); (try unfold wG); (try unfold wGs); (try unfold wF); (try unfold wC); (try unfold rd)
  exact WF0.asO_is
@[simp] theorem wE_tail {q : IP} {b : Int} : wE (tailM q b fc) S Q ↔ wE fc S fun z S => rd (asI z) fun c => Q (.bl (q b c)) S := by
  (try unfold wE); (try unfold wS); (try unfold wI); (try unfold wG); (try unfold wGs); (try unfold wF); (try unfold wC); (try unfold rd)
  exact WF0.wE_tail
@[simp] theorem wE_chain2 {p q : IP} : wE (chain2M p q fa fb fc) S Q ↔ wE fa S fun x S => wE fb S fun y S => rd (asI x) fun a => rd (asI y) fun b => if p a b = true then wE (tailM q b fc) S Q else Q (.bl false) S := by
  (try unfold wE); (try unfold wS); (try unfold wI); (try unfold wG); (try unfold wGs); (try unfold wF); (try unfold wC); (try unfold rd)
  exact WF0.wE_chain2
@[simp] theorem wE_chain3 {p q r : IP} : wE (chain3M p q r fa fb fc fd) S Q ↔ wE fa S fun x S => wE fb S fun y S => rd (asI x) fun a => rd (asI y) fun b => if p a b = true then (wE fc S fun z S => rd (asI z) fun d => if q b d = true then wE (tailM r d fd) S Q else Q (.bl false) S) else Q (.bl false) S := by
  (try unfold wE); (try unfold wS); (try unfold wI); (try unfold wG); (try unfold wGs); (try unfold wF); (try unfold wC); (try unfold rd)
  exact WF0.wE_chain3
@[simp] theorem wE_optE1 {g : Option Int → EM} : wE (optE (some f) g) S Q ↔ wE f S fun d S => rd (asI d) fun n => wE (g (some n)) S Q := by
  (try unfold wE); (try unfold wS); (try unfold wI); (try unfold wG); (try unfold wGs); (try unfold wF); (try unfold wC); (try unfold rd)
  exact WF0.wE_optE1
@[simp] theorem wE_app : wE (appM i fe) S Q ↔ rd (S[i]?.bind asL) fun _ => wE fe S fun d S => rd (S[i]?.bind asO) fun xs => xs.length < 1000000 ∧ Q .non (S.set i (.lst true (xs ++ [d]))) := by
  (try unfold wE); (try unfold wS); (try unfold wI); (try unfold wG); (try unfold wGs); (try unfold wF); (try unfold wC); (try unfold rd)
  exact WF0.wE_app
@[simp] theorem wG_sub {fk : EM} {d : D} : wG (gSubM i fk) d S QG ↔ rd (S[i]?.bind asL) fun _ => wE fk S fun k S => rd (asI k) fun n => rd (S[i]?.bind asO) fun xs => rd (ixN xs.length n) fun m => QG (S.set i (.lst true (xs.set m d))) := by
  (try unfold wE); (try unfold wS); (try unfold wI); (try unfold wG); (try unfold wGs); (try unfold wF); (try unfold wC); (try unfold rd)
  exact WF0.wG_sub
@[simp] theorem wI_seq : wI (seqI fe) S QI ↔ wE fe S fun d S => rd (itemsD d) fun ds => QI ds [] S := by
  (try unfold wE); (try unfold wS); (try unfold wI); (try unfold wG); (try unfold wGs); (try unfold wF); (try unfold wC); (try unfold rd)
  exact WF0.wI_seq
@[simp] theorem wI_rng1 : wI (rng1M fa) S QI ↔ wE fa S fun d S => rd (asI d) fun n => (-(2 ^ 62) ≤ n ∧ n < 2 ^ 62) ∧ QI (rngD 0 n.toNat) [] S := by
  (try unfold wE); (try unfold wS); (try unfold wI); (try unfold wG); (try unfold wGs); (try unfold wF); (try unfold wC); (try unfold rd)
  exact WF0.wI_rng1
@[simp] theorem wI_rng2 : wI (rng2M fa fb) S QI ↔ wE fa S fun d S => wE fb S fun e S => rd (asI d) fun a => rd (asI e) fun b => (-(2 ^ 62) ≤ a ∧ a < 2 ^ 62 ∧ -(2 ^ 62) ≤ b ∧ b < 2 ^ 62) ∧ QI (rngD a (b - a).toNat) [] S := by
  (try unfold wE); (try unfold wS); (try unfold wI); (try unfold wG); (try unfold wGs); (try unfold wF); (try unfold wC); (try unfold rd)
  exact WF0.wI_rng2
@[simp] theorem wI_walkK {comb : List (List D) → Option (List D)} {av : List Av} : wI (walkK comb av) S QI ↔ rd (takeA av S) fun p => rd (seqVs p.1) fun q => rd (comb q.1) fun ys => QI ys (lentA av q.2) p.2 := by
  (try unfold wE); (try unfold wS); (try unfold wI); (try unfold wG); (try unfold wGs); (try unfold wF); (try unfold wC); (try unfold rd)
  exact WF0.wI_walkK
end
end WF
namespace WF
open PySem L2
section
variable {S : S0} {i : Nat} {d : D} {xs ys : List D} {a b : Int} {n : D} {o : Bool} {r : List Av} {ds : List D}
@[simp] theorem takeA_nil : takeA [] S = some ([], S) := rfl
@[simp] theorem takeA_v : takeA (.inl d :: r) S = (takeA r S).map fun x => (d :: x.1, x.2) := rfl
@[simp] theorem takeA_s : takeA (.inr i :: r) S = S[i]?.bind fun d => if isUn d = false then (takeA r (S.set i .un)).map fun x => (d :: x.1, x.2) else none := by
  rw [takeA]
  cases S[i]? with
  | none => rfl
  | some d => cases h : isUn d <;> simp [h]
@[simp] theorem putA_nil : putA [] ds S = S := by cases ds <;> rfl
@[simp] theorem putA_v : putA (.inl d :: r) (n :: ds) S = putA r ds S := rfl
@[simp] theorem putA_s : putA (.inr i :: r) (d :: ds) S = (putA r ds S).set i d := rfl
@[simp] theorem isUn_un : isUn .un = true := rfl
@[simp] theorem isUn_non : isUn .non = false := rfl
@[simp] theorem isUn_bl {b : Bool} : isUn (.bl b) = false := rfl
@[simp] theorem isUn_int : isUn (.int a) = false := rfl
@[simp] theorem isUn_str {x : Str} : isUn (.str x) = false := rfl
@[simp] theorem isUn_vl {x : V} : isUn (.vl x) = false := rfl
@[simp] theorem isUn_tup : isUn (.tup xs) = false := rfl
@[simp] theorem isUn_lst : isUn (.lst o xs) = false := rfl
@[simp] theorem isUn_scr {ns : List Int} : isUn (.scr ns) = false := rfl
@[simp] theorem frz_un : D.frz .un = .un := rfl
@[simp] theorem frz_non : D.frz .non = .non := rfl
@[simp] theorem frz_bl {b : Bool} : D.frz (.bl b) = .bl b := rfl
@[simp] theorem frz_int : D.frz (.int a) = .int a := rfl
@[simp] theorem frz_str {x : Str} : D.frz (.str x) = .str x := rfl
@[simp] theorem frz_vl {x : V} : D.frz (.vl x) = .vl x := rfl
@[simp] theorem frz_tup : D.frz (.tup xs) = .tup (D.frzs xs) := rfl
@[simp] theorem frz_lst : D.frz (.lst o xs) = .lst false (D.frzs xs) := rfl
@[simp] theorem frz_scr {ns : List Int} : D.frz (.scr ns) = .scr ns := rfl
@[simp] theorem frzs_nil : D.frzs [] = [] := rfl
@[simp] theorem frzs_cons : D.frzs (d :: xs) = d.frz :: D.frzs xs := rfl
@[simp] theorem frzs_app : D.frzs (xs ++ ys) = D.frzs xs ++ D.frzs ys := by simp [D.frzs_map]
@[simp] theorem frzs_len : (D.frzs xs).length = xs.length := by simp [D.frzs_map]
theorem frzs_id {α : Type} {l : List α} {f : α → D} (h : ∀ x, (f x).frz = f x) : D.frzs (l.map f) = l.map f := by
  rw [D.frzs_map, List.map_map]; exact List.map_congr_left fun x _ => h x
@[simp] theorem frzs_ints {l : List Int} : D.frzs (l.map D.int) = l.map D.int := frzs_id fun _ => rfl
@[simp] theorem frzs_prs {l : List (Int × Int)} : D.frzs (l.map prD) = l.map prD := frzs_id fun _ => rfl
@[simp] theorem frz_prD {p : Int × Int} : D.frz (prD p) = prD p := rfl
@[simp] theorem isUn_prD {p : Int × Int} : isUn (prD p) = false := rfl
@[simp] theorem imm_int : D.imm (.int a) = true := rfl
@[simp] theorem imm_bl {b : Bool} : D.imm (.bl b) = true := rfl
@[simp] theorem imm_non : D.imm .non = true := rfl
@[simp] theorem imm_str {x : Str} : D.imm (.str x) = true := rfl
@[simp] theorem imm_tup : D.imm (.tup xs) = D.imms xs := rfl
@[simp] theorem imms_nil : D.imms [] = true := rfl
@[simp] theorem imms_cons : D.imms (d :: xs) = (d.imm && D.imms xs) := rfl
@[simp] theorem imm_lst : D.imm (.lst o xs) = false := rfl
@[simp] theorem op2_two {op : D → D → Option D} {x y : D} : op2 op [x, y] = op x y := rfl
@[simp] theorem intD_int {C : Int → Int → Bool} {g : Int → Int → D} : intD C g (.int a) (.int b) = if C a b = true then some (g a b) else none := rfl
@[simp] theorem addD_int : addD (.int a) (.int b) = some (.int (a + b)) := rfl
@[simp] theorem addD_lst {o' : Bool} : addD (.lst o xs) (.lst o' ys) = if xs.length + ys.length ≤ 1000000 then some (.lst true (xs ++ ys)) else none := rfl
@[simp] theorem addD_tup : addD (.tup xs) (.tup ys) = if xs.length + ys.length ≤ 1000000 then some (.tup (xs ++ ys)) else none := rfl
@[simp] theorem mulD2_int : mulD2 (.int a) (.int b) = if a.natAbs < 2 ^ 64 ∨ b.natAbs < 2 ^ 64 then some (.int (a * b)) else none := by simp [mulD2, mulD]
@[simp] theorem negD_int : negD (.int a) = some (.int (-a)) := rfl
@[simp] theorem ltD_int : ltD (.int a) (.int b) = some (.bl (decide (a < b))) := rfl
@[simp] theorem lenD_lst : lenD [.lst o xs] = some (.int xs.length) := rfl
@[simp] theorem lenD_tup : lenD [.tup xs] = some (.int xs.length) := rfl
@[simp] theorem lenD_scr {ns : List Int} : lenD [.scr ns] = some (.int ns.length) := rfl
@[simp] theorem absD_int : absD [.int a] = some (.int (if a < 0 then -a else a)) := rfl
@[simp] theorem intD1_int : intD1 [.int a] = some (.int a) := rfl
@[simp] theorem intD1_bl {b : Bool} : intD1 [.bl b] = some (.int (if b = true then 1 else 0)) := rfl
@[simp] theorem maxD2_int : maxD2 [.int a, .int b] = some (.int (if b > a then b else a)) := rfl
@[simp] theorem minD2_int : minD2 [.int a, .int b] = some (.int (if b < a then b else a)) := rfl
@[simp] theorem divmodD_int : divmodD [.int a, .int b] = if 0 < b ∧ b < 2 ^ 64 then some (.tup [.int (a / b), .int (a % b)]) else none := rfl
@[simp] theorem tupleD_lst : tupleD [.lst o xs] = some (.tup xs) := rfl
@[simp] theorem tupleD_tup : tupleD [.tup xs] = some (.tup xs) := rfl
@[simp] theorem listD_lst : listD [.lst o xs] = some (.lst true xs) := rfl
@[simp] theorem listD_tup : listD [.tup xs] = some (.lst true xs) := rfl
@[simp] theorem itemsD_lst : itemsD (.lst o xs) = some (D.frzs xs) := rfl
@[simp] theorem itemsD_tup : itemsD (.tup xs) = some (D.frzs xs) := rfl
@[simp] theorem intsD_map' {l : List Int} : intsD (l.map D.int) = some l := by
  induction l with
  | nil => rfl
  | cons a l ih => simp [intsD, ih]
@[simp] theorem intsD_cons : intsD (.int a :: xs) = (intsD xs).map (a :: ·) := rfl
@[simp] theorem intsD_nil : intsD [] = some [] := rfl
@[simp] theorem boolsD_map' {l : List Bool} : boolsD (l.map D.bl) = some l := by
  induction l with
  | nil => rfl
  | cons a l ih => simp [boolsD, ih]
@[simp] theorem sumD_lst : sumD [.lst o xs] = (intsD xs).map fun ns => .int ns.sum := rfl
@[simp] theorem allD_lst : allD [.lst o xs] = (boolsD xs).map fun ns => .bl (ns.all id) := rfl
@[simp] theorem anyD_lst : anyD [.lst o xs] = (boolsD xs).map fun ns => .bl (ns.any id) := rfl
@[simp] theorem ixD_lst : ixD (.lst o xs) (.int a) = atI (D.frzs xs) a := rfl
@[simp] theorem ixD_tup : ixD (.tup xs) (.int a) = atI (D.frzs xs) a := rfl
@[simp] theorem ixO_tup : ixO (.tup xs) (.int a) = (atI (D.frzs xs) a).map fun x => (x, .tup (D.frzs xs)) := rfl
@[simp] theorem ixO_lf : ixO (.lst false xs) (.int a) = (atI xs a).map fun x => (x, .lst false xs) := rfl
@[simp] theorem ixO_lo : ixO (.lst true xs) (.int a) = (atI xs a).bind fun x => if x.imm = true then some (x, .lst true xs) else (atI (D.frzs xs) a).map fun y => (y, .lst false (D.frzs xs)) := by
  have e : ixO (.lst true xs) (.int a) = match atI xs a with
    | some x => if x.imm = true then some (x, .lst true xs) else (atI (D.frzs xs) a).map fun y => (y, .lst false (D.frzs xs))
    | none => none := rfl
  rw [e]
  cases atI xs a <;> rfl
@[simp] theorem ixO_scr {ns : List Int} : ixO (.scr ns) (.int a) = (atI ns a).map fun x => (.int x, .scr ns) := rfl
theorem atI_nat {α : Type} {xs : List α} {k : Nat} : atI xs (k : Int) = xs[k]? := by
  unfold atI ixN
  by_cases h : k < xs.length
  · simp [h]
  · simp [h]
@[simp] theorem atI_0 {α : Type} {x : α} {xs : List α} : atI (x :: xs) 0 = some x := by
  have := atI_nat (xs := x :: xs) (k := 0); simpa using this
@[simp] theorem atI_1 {α : Type} {x y : α} {xs : List α} : atI (x :: y :: xs) 1 = some y := by
  have := atI_nat (xs := x :: y :: xs) (k := 1); simpa using this
@[simp] theorem atI_2 {α : Type} {x y z : α} {xs : List α} : atI (x :: y :: z :: xs) 2 = some z := by
  have := atI_nat (xs := x :: y :: z :: xs) (k := 2); simpa using this
@[simp] theorem ixN_32 : ixN 3 2 = some 2 := rfl
@[simp] theorem ixN_31 : ixN 3 1 = some 1 := rfl
@[simp] theorem ixN_30 : ixN 3 0 = some 0 := rfl
@[simp] theorem ixN_0 {n : Nat} : ixN (n + 1) 0 = some 0 := by simp [ixN]
@[simp] theorem seqVs_nil : seqVs [] = some ([], []) := rfl
@[simp] theorem seqVs_cons : seqVs (d :: ds) = (seqV d).bind fun p => (seqVs ds).map fun q => (p.1 :: q.1, p.2 :: q.2) := by
  rw [seqVs]
  cases seqV d <;> cases seqVs ds <;> rfl
@[simp] theorem seqV_tup : seqV (.tup xs) = some (D.frzs xs, .tup (D.frzs xs)) := rfl
@[simp] theorem seqV_lst : seqV (.lst o xs) = some (D.frzs xs, .lst o (D.frzs xs)) := rfl
@[simp] theorem lentA_nil : lentA [] ds = [] := by cases ds <;> rfl
@[simp] theorem lentA_v : lentA (.inl d :: r) (n :: ds) = lentA r ds := rfl
@[simp] theorem lentA_s : lentA (.inr i :: r) (d :: ds) = (i, d) :: lentA r ds := rfl
@[simp] theorem comb1_one : comb1 [xs] = some xs := rfl
@[simp] theorem zip2D_two {s : Bool} : zip2D s [xs, ys] = if (s && xs.length != ys.length) = false then some (List.zipWith (fun x y => .tup [x, y]) xs ys) else none := by
  unfold zip2D
  cases h : (s && xs.length != ys.length) <;> simp_all
@[simp] theorem wipeS_nil : wipeS S [] = S := rfl
@[simp] theorem wipeS_cons {v : Nat} {vs : List Nat} : wipeS S (v :: vs) = (wipeS S vs).set v .un := rfl
@[simp] theorem backS_nil {A : S0} : backS A S [] = S := rfl
@[simp] theorem backS_cons {A : S0} {v : Nat} {vs : List Nat} : backS A S (v :: vs) = backS A (S.set v (A.getD v .un)) vs := rfl
@[simp] theorem restS_nil : restS [] S = S := rfl
@[simp] theorem restS_cons {l : List (Nat × D)} {x : Nat × D} : restS (x :: l) S = restS l (S.set x.1 x.2) := rfl
@[simp] theorem maskM_nil : maskM [] S = [] := by cases S <;> rfl
@[simp] theorem maskM_cons {b : Bool} {bs : List Bool} : maskM (b :: bs) (d :: S) = (if b = true then d else .un) :: maskM bs S := rfl
@[simp] theorem sliceD_lst {lo hi : Option Int} : sliceD (.lst o xs) lo hi = some (.lst true (cutD xs lo hi)) := rfl
@[simp] theorem sliceD_tup {lo hi : Option Int} : sliceD (.tup xs) lo hi = some (.tup (cutD xs lo hi)) := rfl
@[simp] theorem sliceD_scr {ns : List Int} {lo hi : Option Int} : sliceD (.scr ns) lo hi = some (.lst true (cutD (ns.map .int) lo hi)) := rfl
@[simp] theorem pick_nil' {α : Type} {x : α} {zs : List α} : pick x [] zs = [] := rfl
@[simp] theorem pick_cons' {α : Type} {x : α} {zs : List α} {k : Nat} {ks : List Nat} : pick x (k :: ks) zs = zs.getD k x :: pick x ks zs := rfl
end
end WF
namespace WF
open PySem L2
@[simp] theorem gx0 {α : Type} {x : α} {xs : List α} : (x :: xs)[0]? = some x := rfl
@[simp] theorem gx1 {α : Type} {x : α} {xs : List α} {n : Nat} : (x :: xs)[n + 1]? = xs[n]? := rfl
theorem rd_ex {α : Type} {o : Option α} {P : α → Prop} : rd o P ↔ ∃ d, o = some d ∧ P d := by unfold rd; exact Iff.rfl
theorem wG.mono {g : GM} {d : D} {S : S0} {Q Q' : S0 → Prop} (h : wG g d S Q) (q : ∀ S, Q S → Q' S) : wG g d S Q' := by
  unfold wG at h ⊢
  have h : WF0.oG (g d S) Q := h
  show WF0.oG (g d S) Q'
  cases e : g d S with
  | none => rw [e] at h; exact h
  | some S' => rw [e] at h; exact q S' h
theorem loop_ind {g : GM} {body : SM} {Q : Fl → S0 → Prop} (I : List D → S0 → Prop)
    (step : ∀ d ds S, I (d :: ds) S → wG g d S fun S => wS body S fun fl S => match fl with
      | .nx => I ds S
      | .ct => I ds S
      | .bk => Q .nx S
      | fl => Q fl S) (fin : ∀ S, I [] S → Q .nx S) : ∀ {ds : List D} {S : S0}, I ds S → wS (loopM g body ds) S Q
  | [], S, h => wS_loop0.mpr (fin S h)
  | d :: ds, S, h => by
    rw [wS_loop1]
    refine wG.mono (step d ds S h) fun S q => wS.mono q fun fl S q => ?_
    cases fl with
    | nx => exact loop_ind I step fin q
    | ct => exact loop_ind I step fin q
    | bk => exact q
    | rt d => exact q
    | ex x => exact q
theorem comp_ind0 {own : List Nat} {g : GM} {fe : EM} {Q : List D → S0 → Prop} (I : List D → List D → S0 → Prop)
    (step : ∀ d ds acc S, I (d :: ds) acc S → wG g d S fun S => wE fe S fun y S => acc.length < 1000000 ∧ I ds (acc ++ [y]) (wipeS S own)) (fin : ∀ acc S, I [] acc S → Q acc S) : ∀ {ds acc : List D} {S : S0}, I ds acc S → wC own g none fe ds S acc Q
  | [], acc, S, h => wC_nil.mpr (fin acc S h)
  | d :: ds, acc, S, h => by
    rw [wC_cons0]
    exact wG.mono (step d ds acc S h) fun S q => wE.mono q fun y S ⟨q1, q2⟩ => ⟨q1, comp_ind0 I step fin q2⟩
end WF
namespace WF
open PySem PySem.Spec PyProof.Rows L2
section
variable {prog : Program} {w : World} {A : Around} {E : Value → Shared → Prop} {s : Shared} {i : Nat} {z TI TO : Addr} {qs : List Sr} {old : Array Value} {strict f1 : Bool} {f0 : Value}
end
end WF
namespace WF
open PySem PySem.Spec PyProof.Rows L2
section
variable {prog : Program} {w : World} {A : Around} {E : Value → Shared → Prop} {s : Shared} {i : Nat} {e z TI TO : Addr} {qs : List Sr} {ol : Array Value} {strict f1 : Bool} {f0 old : Value}
end
end WF
namespace WF
open PySem PySem.Spec PyProof.Rows L2
section
variable {prog : Program} {w : World} {A : Around} {E : Value → Shared → Prop} {s : Shared}
end
end WF
namespace WF
open PySem PySem.Spec PyProof.Rows L2
section
variable {X : Cx} {pins : List (Addr × Obj)} {σ : L2.St} {H : Hp} {s : Shared}
variable {e : Expr} {es : List Expr} {p pos p2 pos2 tpos kpos cpos : Pos} {elts : List Expr} {kk j : Nat} {ta : TA}
end
end WF
namespace WF
open PySem PySem.Spec PyProof.Rows L2
def numD (R : List D) : List D := R.zipIdx.map fun p => .tup [.int (p.2 : Nat), p.1]
def enumZD (xss : List (List D)) : Option (List D) := (zip2D true xss).map numD
section
variable {K : PySem.W.Frag} {H : Hp} {ds : List D} {xss : List (List D)} {vs : List V} {Rr : List D}
end
section
variable {c : Cfg} {X : Cx} {p pos p2 pos2 tpos kpos cpos : Pos} {elts : List Expr} {kk j : Nat} {e1 e2 : Expr} {y1 y2 : Ar}
end
end WF
namespace WF
open PySem PySem.Spec PyProof.Rows L2
def frzM (fe : EM) : EM := bindM fe fun d => retM d.frz
theorem w_frz {c : Cfg} {X : Cx} {e : Expr} {fe : EM} (h : PE X e (T c fe)) : PE X e (T c (frzM fe)) := by
  refine pe_mono h fun σ H Q h => ?_
  obtain ⟨S, tm, j, p⟩ := h
  refine (post_bind j p).mono fun v H1 ⟨d, S1, j1, p1⟩ => ?_
  exact p1 v H1 (j1.put j1.take.freeze.drop)
@[simp] theorem wE_frz {fe : EM} {S : S0} {Q : D → S0 → Prop} : wE (frzM fe) S Q ↔ wE fe S fun d S => Q d.frz S := by
  rw [frzM, wE_bind]
  exact ⟨fun h => h.mono fun d S q => wE_ret.mp q, fun h => h.mono fun d S q => wE_ret.mpr q⟩
end WF
namespace WF
open PySem PySem.Spec PyProof.Rows L2
section
variable {K : PySem.W.Frag} {H H' : Hp} {L L' R : List Pr} {p : Addr} {ds ds' : List D} {vs vs' : List V}
end
def prM (f : S0 → Option (D × S0)) : EM := fun S => (f S).map fun p => (.ok p.1, p.2)
@[simp] theorem wE_pr {f : S0 → Option (D × S0)} {S : S0} {Q : D → S0 → Prop} : wE (prM f) S Q ↔ rd (f S) fun p => Q p.1 p.2 := by
  unfold wE rd
  show WF0.oE (prM f S) Q ↔ _
  unfold prM
  cases h : f S with
  | none => simp [WF0.oE, WF0.rd]
  | some p => simp [WF0.oE, WF0.rd]
def app2K (i j : Nat) (kd : D) : EM := prM fun S => (asI kd).bind fun k => (S[i]?.bind asO).bind fun xs => S[j]?.bind fun d => (ixN xs.length k).bind fun m => (xs[m]?.bind asO).bind fun ys =>
  if i ≠ j ∧ isUn d = false ∧ ys.length < 1000000 then some (.non, (S.set j d.frz).set i (.lst true (xs.set m (.lst true (ys ++ [d.frz]))))) else none
def app2M (i : Nat) (fb : EM) (j : Nat) : EM := lstS i (bindM fb (app2K i j))
section
variable {c : Cfg} {X : Cx} {S : S0} {tm tm0 : List Pr} {σ : L2.St} {H : Hp} {i j : Nat} {a b e o : Expr} {fa fb fe : EM} {pos apos : Pos}
@[simp] theorem wE_app2 {Q : D → S0 → Prop} : wE (app2M i fb j) S Q ↔ rd (S[i]?.bind asL) fun _ => wE fb S fun kd S => wE (app2K i j kd) S Q := by
  have e : wE (app2M i fb j) S Q ↔ rd (S[i]?.bind asL) fun _ => wE (bindM fb (app2K i j)) S Q := by
    unfold wE rd
    show WF0.oE (app2M i fb j S) Q ↔ WF0.rd _ (fun _ => WF0.oE (bindM fb (app2K i j) S) Q)
    unfold app2M lstS
    cases h : S[i]? with
    | none => simp [WF0.oE, WF0.rd]
    | some d => cases d <;> simp [WF0.oE, WF0.rd, asL, WF0.asL]
  rw [e]
  refine ⟨fun h => ?_, fun h => ?_⟩
  · obtain ⟨x, h1, h2⟩ := rd_ex.mp h
    exact rd_ex.mpr ⟨x, h1, wE_bind.mp h2⟩
  · obtain ⟨x, h1, h2⟩ := rd_ex.mp h
    exact rd_ex.mpr ⟨x, h1, wE_bind.mpr h2⟩
@[simp] theorem app2K_def {kd : D} {Q : D → S0 → Prop} : wE (app2K i j kd) S Q ↔ rd ((asI kd).bind fun k => (S[i]?.bind asO).bind fun xs => S[j]?.bind fun d => (ixN xs.length k).bind fun m => (xs[m]?.bind asO).bind fun ys =>
  if i ≠ j ∧ isUn d = false ∧ ys.length < 1000000 then some (.non, (S.set j d.frz).set i (.lst true (xs.set m (.lst true (ys ++ [d.frz]))))) else none) fun p => Q p.1 p.2 := wE_pr
end
end WF
namespace WF
open PySem PySem.Spec PyProof.Rows L2 RT
section
variable {K : PySem.W.Frag} {H : Hp} {R L : List Pr} {p : Addr} {vs : List V} {ds : List D}
end
section
variable {c : Cfg} {X : Cx} {S : S0} {tm tm0 : List Pr} {σ : L2.St} {H : Hp} {fe : EM} {e tg : Expr} {p pos : Pos}
def revI (fe : EM) : IM := bindI fe fun d => optI ((itemsD d).map List.reverse)
@[simp] theorem wI_rev {QI : List D → List (Nat × D) → S0 → Prop} : wI (revI fe) S QI ↔ wE fe S fun d S => rd (itemsD d) fun ds => QI ds.reverse [] S := by
  unfold wI wE rd
  show WF0.oI (revI fe S) QI ↔ WF0.oE (fe S) (fun d S => WF0.rd (itemsD d) fun ds => QI ds.reverse [] S)
  unfold revI bindI
  match fe S with
  | none => simp [WF0.oI, WF0.oE]
  | some (.ex _, _) => simp [WF0.oI, WF0.oE]
  | some (.ok d, S1) =>
    simp only [WF0.oE, optI]
    cases h : itemsD d with
    | none => simp [WF0.oI, WF0.rd]
    | some ds => simp [WF0.oI, WF0.rd]
@[simp] theorem enumZD_two {xs ys : List D} : enumZD [xs, ys] = if xs.length = ys.length then some (numD (List.zipWith (fun x y => .tup [x, y]) xs ys)) else none := by
  unfold enumZD
  by_cases h : xs.length = ys.length <;> simp [h]
end
@[simp] theorem wS_aug {i : Nat} {op : D → D → Option D} {fe : EM} {S : S0} {QS : Fl → S0 → Prop} : wS (augM i op fe) S QS ↔ rd (S[i]?.bind asI) fun n => wE fe S fun d S1 => rd (op (.int n) d) fun r => i < S1.length ∧ QS .nx (S1.set i r) := by
  unfold wS wE rd
  show WF0.oS (augM i op fe S) QS ↔ WF0.rd (S[i]?.bind asI) (fun n => WF0.oE (fe S) fun d S1 => WF0.rd (op (.int n) d) fun r => i < S1.length ∧ QS .nx (S1.set i r))
  unfold augM
  cases h : S[i]? with
  | none => simp [WF0.oS, WF0.rd]
  | some d =>
    cases d with
    | int n =>
      simp only [WF0.rd, Option.bind_some, asI, WF0.asI_int, Option.some.injEq, exists_eq_left']
      unfold bindS
      match fe S with
      | none => simp [WF0.oS, WF0.oE]
      | some (.ex _, _) => simp [WF0.oS, WF0.oE]
      | some (.ok d, S1) =>
        simp only [WF0.oE]
        cases h2 : op (.int n) d with
        | none => simp [WF0.oS]
        | some r =>
          by_cases h3 : i < S1.length
          · simp [h3, WF0.oS]
          · simp [h3, WF0.oS]
    | _ => simp [WF0.oS, WF0.rd, asI, WF0.asI]
def isBD (neg : Bool) (a b : D) : Option D := match a, b with
  | .bl a, .bl b => some (.bl (neg != decide (a = b)))
  | _, _ => none
@[simp] theorem isBD_bl {n a b : Bool} : isBD n (.bl a) (.bl b) = some (.bl (n != decide (a = b))) := rfl
end WF
namespace WF
open PySem PySem.Spec PyProof.Rows L2
open Classical in
section
variable {c : Cfg} {X : Cx} {S : S0} {σ : L2.St} {H : Hp} {fc : EM} {f : SM} {sts : List Stmt} {ce : Expr} {pos : Pos}
end
end WF
namespace WF
open PySem PySem.Spec PyProof.Rows L2 RT
section
variable {P : Program} {w : World} {A : Around} {E : Value → Shared → Prop} {s : Shared}
end
section
variable {X : Cx}
end
section
variable {c : Cfg} {X : Cx} {e : Expr} {fe : EM} {p p2 q pos : Pos}
def revlD : D → Option D
  | .lst _ xs => some (.lst true xs.reverse)
  | _ => none
def revlM (fe : EM) : EM := bindM fe fun d => optM (revlD d)
end
@[simp] theorem wE_revl {fe : EM} {S : S0} {Q : D → S0 → Prop} : wE (revlM fe) S Q ↔ wE fe S fun d S => wE (optM (revlD d)) S Q := by
  rw [revlM, wE_bind]
@[simp] theorem revlD_lst {o : Bool} {xs : List D} : revlD (.lst o xs) = some (.lst true xs.reverse) := rfl
end WF
namespace WF
open PySem PySem.Spec PyProof.Rows L2 RT
def callVM (i : Nat) (tbl : List (Addr × Fn)) (as : List Ar) : EM := fun S => match S[i]? with
  | some (.vl (.ref a)) => (match tbl.lookup a with
    | some m => callM m as S
    | none => none)
  | _ => none
section
variable {c : Cfg} {X : Cx} {n i : Nat} {tbl : List (Addr × Fn)} {x : Str} {p pos : Pos} {e : Expr} {es : List Expr} {as : List Ar}
structure DefAt (X : Cx) (c : Cfg) (n : Nat) (a : Addr) (m : Fn) : Prop where
  ex : ∃ (k : Nat) (fd : FuncData) (ps : List Str), FnOk X.prog X.w X.K X.mg X.base (L2.CX X.prog X.w) k a fd ps (spOf c.K n m) ∧ Room k X.A ∧ PySem.W.keepIn X.K (.ref a) = true ∧ Binds X.K fd ps []
end
@[simp] theorem wE_callV {i : Nat} {tbl : List (Addr × Fn)} {as : List Ar} {S : S0} {Q : D → S0 → Prop} : wE (callVM i tbl as) S Q ↔ (match S[i]? with
    | some (.vl (.ref a)) => (match tbl.lookup a with
      | some m => wE (callM m as) S Q
      | none => False)
    | _ => False) := by
  unfold wE
  show WF0.oE (callVM i tbl as S) Q ↔ _
  unfold callVM
  split
  · split
    · exact Iff.rfl
    · exact Iff.rfl
  · exact Iff.rfl
end WF
namespace WF
open PySem PySem.Spec PyProof.Rows L2
def ltL : List Int → List Int → Bool
  | [], [] => false
  | [], _ :: _ => true
  | _ :: _, [] => false
  | a :: as, b :: bs => if a = b then ltL as bs else decide (a < b)
section
variable {prog : Program} {w : World} {A : Around} {E : Value → Shared → Prop} {s : Shared} {Q : Bool → Shared → Prop}
end
def leL (a b : List Int) : Bool := !ltL b a
def sortT (ps : List (List Int)) : List (List Int) := ps.mergeSort leL
def tpD (ns : List Int) : D := .tup (ns.map .int)
section
variable {K : PySem.W.Frag} {H : Hp} {R : List Pr}
end
theorem ext0 {i : Nat} {fe : EM} {S : S0} {Q : D → S0 → Prop} : WF0.wE (extM i fe) S Q ↔ WF0.rd (S[i]?.bind asL) fun _ => WF0.wE fe S fun d S => WF0.rd (asL d) fun ys => WF0.rd (S[i]?.bind asO) fun xs => xs.length + ys.length < 1000000 ∧ Q .non (S.set i (.lst true (xs ++ ys))) := by
  simp only [WF0.wE, extM, lstS]
  cases h : S[i]? with
  | none => simp [WF0.oE, WF0.rd]
  | some d =>
    cases d with
    | lst o xs =>
      simp [WF0.asL, bindM]
      cases hf : fe S with
      | none => simp [WF0.oE]
      | some r =>
        obtain ⟨r, S'⟩ := r
        cases r with
        | ex x => simp [WF0.oE]
        | ok d =>
          simp only [WF0.oE, modS]
          cases h2 : S'[i]? with
          | none => cases d <;> simp [WF0.rd]
          | some y =>
            cases y with
            | lst o2 zs =>
              cases o2
              · cases d <;> simp [WF0.rd, WF0.asO]
              · cases d with
                | lst o3 ys =>
                  by_cases hl : zs.length + ys.length < 1000000
                  · simp [WF0.rd, WF0.asO, WF0.asL, hl]
                  · simp [WF0.rd, WF0.asO, WF0.asL, hl]
                | _ => simp [WF0.rd, WF0.asL]
            | _ => cases d <;> simp [WF0.rd, WF0.asO]
    | _ => simp [WF0.oE, WF0.rd, WF0.asL]
@[simp] theorem wE_ext {i : Nat} {fe : EM} {S : S0} {Q : D → S0 → Prop} : wE (extM i fe) S Q ↔ rd (S[i]?.bind asL) fun _ => wE fe S fun d S => rd (asL d) fun ys => rd (S[i]?.bind asO) fun xs => xs.length + ys.length < 1000000 ∧ Q .non (S.set i (.lst true (xs ++ ys))) := by
  (try unfold wE); (try unfold rd)
  exact ext0
end WF
namespace WF
open PySem PySem.Spec PyProof.Rows L2
section
variable {prog : Program} {w : World} {A : Around} {E : Value → Shared → Prop} {s : Shared} {l : Addr} {its : List Value} {ns : List Int} {Q : Value → Shared → Prop}
end
def sumTD : List D → Option D
  | [.tup xs] => (intsD xs).map fun ns => .int ns.sum
  | _ => none
@[simp] theorem sumTD_tup {xs : List D} : sumTD [.tup xs] = (intsD xs).map fun ns => .int ns.sum := rfl
end WF
namespace WF
open PySem PySem.Spec PyProof.Rows L2
def keyK : D → Option Key
  | .int i => some (.inl i)
  | .str x => some (.inr x)
  | _ => none
def keysD : List D → Option (List Key)
  | [] => some []
  | d :: ds => (keyK d).bind fun k => (keysD ds).map (k :: ·)
def keyT : D → Option (List Key)
  | .tup ds => keysD ds
  | _ => none
section
variable {K : PySem.W.Frag} {H H' : Hp} {R : List Pr} {p : Addr}
theorem Joint.keyK {v : V} {d : D} {k : Key} (j : Joint K H ((v, d) :: R)) (h : keyK d = some k) : v = kV k := by
  cases d with
  | int i => simp [WF.keyK] at h; subst h; exact j.is_int
  | str i => simp [WF.keyK] at h; subst h; exact j.is_str
  | _ => simp [WF.keyK] at h
theorem Joint.keysD : ∀ {vs : List V} {ds : List D} {ks : List Key}, vs.length = ds.length → Joint K H (vs.zip ds ++ R) → keysD ds = some ks → vs = ks.map kV
  | [], [], ks, _, _, h => by simp [WF.keysD] at h; subst h; rfl
  | v :: vs, d :: ds, ks, hl, j, h => by
    simp [WF.keysD, Option.bind_eq_some_iff] at h
    obtain ⟨k, h1, ks', h2, rfl⟩ := h
    have j0 : Joint K H ((v, d) :: (vs.zip ds ++ R)) := j
    rw [j0.keyK h1, Joint.keysD (by simpa using hl) j0.drop h2]
    rfl
  | [], _ :: _, _, h, _, _ => by simp at h
  | _ :: _, [], _, h, _, _ => by simp at h
theorem Joint.keyT {v : V} {d : D} {ks : List Key} (j : Joint K H ((v, d) :: R)) (h : keyT d = some ks) : ∃ b, v = .ref b ∧ H b = some (.tup (ks.map kV)) := by
  cases d with
  | tup ds =>
    obtain ⟨b, rfl⟩ := j.is_tup
    obtain ⟨vs, e, hl, k⟩ := j.untup
    refine ⟨b, rfl, ?_⟩
    rw [e, Joint.keysD hl k h]
  | _ => simp [WF.keyT] at h
end
section
variable {κ α β : Type} [DecidableEq κ]
def lk : List κ → List α → κ → Option α
  | k :: ks, x :: xs, q => if k = q then some x else lk ks xs q
  | _, _, _ => none
def rp : List κ → List α → κ → α → List α
  | k :: ks, x :: xs, q, v => (if k = q then v else x) :: rp ks xs q v
  | _, xs, _, _ => xs
def pkK (ks : List κ) (q : κ) : List κ := if q ∈ ks then ks else ks ++ [q]
def pkV (ks : List κ) (xs : List α) (q : κ) (v : α) : List α := if q ∈ ks then rp ks xs q v else xs ++ [v]
end
section
variable {K : PySem.W.Frag} {H H' : Hp} {R : List Pr} {p : Addr} {ds ds' : List D} {vs vs' : List V}
theorem Reps.some {G : Hp} {C C' : List Pr} (r : Reps K G H C []) (h : ∀ x ∈ C', x ∈ C) : Reps K G H C' [] := by
  induction C' with
  | nil => exact .nil
  | cons x C' ih =>
    obtain ⟨n, hn, e⟩ := List.getElem_of_mem (h x List.mem_cons_self)
    have q := reps_get r (List.getElem?_eq_some_iff.mpr ⟨hn, e⟩)
    exact Reps.append (L := [x]) (fp := []) q (ih fun y hy => h y (List.mem_cons_of_mem _ hy))
theorem JX.pick {C C' : List Pr} (j : JX K H p (C ++ R)) (hf : ∀ x ∈ C, x.2.frz = x.2) (hs : ∀ x ∈ C', x ∈ C) : JX K H p (C' ++ R) := by
  obtain ⟨G, fp, g, r, n, z, gp, np⟩ := j
  obtain ⟨f1, f2, rfl, r1, r2⟩ := r.unappend
  have e := r1.pure hf
  subst e
  exact ⟨G, f2, g, Reps.append (fp := []) (r1.some hs) r2, n, z, gp, np⟩
mutual
def D.pur : D → Bool
  | .non => true
  | .bl _ => true
  | .int _ => true
  | .str _ => true
  | .tup xs => D.purs xs
  | .lst false xs => D.purs xs
  | .dic false _ xs => D.purs xs
  | .dtk false _ xs => D.purs xs
  | _ => false
def D.purs : List D → Bool
  | [] => true
  | x :: xs => x.pur && D.purs xs
end
mutual
theorem D.pur_frz : ∀ d : D, d.pur = true → d.frz = d
  | .non, _ => rfl
  | .bl _, _ => rfl
  | .int _, _ => rfl
  | .str _, _ => rfl
  | .tup xs, h => by simp only [D.pur] at h; simp only [D.frz, D.purs_frz xs h]
  | .lst false xs, h => by simp only [D.pur] at h; simp only [D.frz, D.purs_frz xs h]
  | .dic false _ xs, h => by simp only [D.pur] at h; simp only [D.frz, D.purs_frz xs h]
  | .dtk false _ xs, h => by simp only [D.pur] at h; simp only [D.frz, D.purs_frz xs h]
  | .lst true _, h => by cases h
  | .dic true _ _, h => by cases h
  | .dtk true _ _, h => by cases h
  | .un, h => by cases h
  | .vl _, h => by cases h
  | .scr _, h => by cases h
  | .hld _, h => by cases h
  | .con _, h => by cases h
  | .exn _ _ _, h => by cases h
  | .tab _, h => by cases h
  | .obj _ _ _ _, h => by cases h
theorem D.purs_frz : ∀ ds : List D, D.purs ds = true → D.frzs ds = ds
  | [], _ => rfl
  | d :: ds, h => by
    simp only [D.purs, Bool.and_eq_true] at h
    simp only [D.frzs, D.pur_frz d h.1, D.purs_frz ds h.2]
end
abbrev D.Pal (ds : List D) : Prop := D.imms ds = true ∨ D.purs ds = true
abbrev D.Pa (d : D) : Prop := d.imm = true ∨ d.pur = true
theorem D.Pa.frz {d : D} (h : d.Pa) : d.frz = d := h.elim (D.imm_frz d) (D.pur_frz d)
end
end WF
namespace WF
open PySem PySem.Spec PyProof.Rows L2
def dGetD : D → D → Option (Option D)
  | .dtk _ ks xs, k => if D.Pal xs then (keyT k).map fun q => lk ks xs q else none
  | .dic _ ks xs, k => if D.Pal xs then (keyK k).map fun q => lk ks xs q else none
  | _, _ => none
def dPutD : D → D → D → Option D
  | .dtk true ks xs, k, v => if D.Pal xs ∧ v.Pa ∧ ks.length < 1000000 then (keyT k).map fun q => .dtk true (pkK ks q) (pkV ks xs q v) else none
  | .dic true ks xs, k, v => if D.Pal xs ∧ v.Pa ∧ ks.length < 1000000 then (keyK k).map fun q => .dic true (pkK ks q) (pkV ks xs q v) else none
  | _, _, _ => none
def isDic : D → Bool
  | .dtk _ _ _ => true
  | .dic _ _ _ => true
  | _ => false
section
variable {K : PySem.W.Frag} {H H' : Hp} {R : List Pr} {v kv : V} {d k : D}
theorem Joint.is_dtk {o : Bool} {ks : List (List Key)} {xs : List D} (j : Joint K H ((v, .dtk o ks xs) :: R)) : ∃ a kvs, v = .ref a ∧ H a = some (.dT kvs) := by
  obtain ⟨G, fp, g, r, n, z⟩ := j
  cases r with
  | tf a e b c r1 r2 => exact ⟨_, _, rfl, g _ _ a⟩
  | to a e b c r1 r2 => exact ⟨_, _, rfl, a⟩
theorem Joint.is_dic {o : Bool} {ks : List Key} {xs : List D} (j : Joint K H ((v, .dic o ks xs) :: R)) : ∃ a kvs, v = .ref a ∧ H a = some (.dK kvs) := by
  obtain ⟨G, fp, g, r, n, z⟩ := j
  cases r with
  | kf a e b c r1 r2 => exact ⟨_, _, rfl, g _ _ a⟩
  | ko a e b c r1 r2 => exact ⟨_, _, rfl, a⟩
theorem Joint.isD (j : Joint K H ((v, d) :: R)) (h : isDic d = true) : ∃ a, v = .ref a ∧ IsD H a := by
  cases d with
  | dtk o ks xs =>
    obtain ⟨a, kvs, e, h⟩ := j.is_dtk
    exact ⟨a, e, .inr ⟨kvs, .inl h⟩⟩
  | dic o ks xs =>
    obtain ⟨a, kvs, e, h⟩ := j.is_dic
    exact ⟨a, e, .inl ⟨kvs, .inl h⟩⟩
  | _ => cases h
end
def dicS (i : Nat) (f : EM) : EM := fun S => match S[i]? with
  | some d => if isDic d = true then f S else none
  | none => none
def dicSS (i : Nat) (f : SM) : SM := fun S => match S[i]? with
  | some d => if isDic d = true then f S else none
  | none => none
def prS (f : S0 → Option S0) : SM := fun S => (f S).map fun S' => (.nx, S')
def dgetK (i : Nat) (k : D) : EM := prM fun S => S[i]?.bind fun d => (dGetD d k).bind fun o => o.map fun x => (x, S)
def dgetM (i : Nat) (fk : EM) : EM := dicS i (bindM fk (dgetK i))
def dinK (neg : Bool) (i : Nat) (k : D) : EM := prM fun S => S[i]?.bind fun d => (dGetD d k).map fun o => (.bl (if neg = true then !o.isSome else o.isSome), S)
def dinM (neg : Bool) (i : Nat) (fk : EM) : EM := bindM fk fun k => dicS i (dinK neg i k)
def dget2K (i : Nat) (k x : D) : EM := prM fun S => S[i]?.bind fun d => (dGetD d k).map fun o => (o.getD x, S)
def dget2M (i : Nat) (fk fx : EM) : EM := dicS i (bindM fk fun k => bindM fx fun x => dget2K i k x)
def dputK (i : Nat) (v k : D) : SM := prS fun S => (S[i]?.bind fun d => dPutD d k v).map fun d' => S.set i d'
def dputM (i : Nat) (fk fv : EM) : SM := bindS fv fun v => dicSS i (bindS fk (dputK i v))
def daugM (i : Nat) (fk : EM) (op : D → D → Option D) (fv : EM) : SM := dicSS i (bindS fk fun k => bindS (dgetK i k) fun x => bindS fv fun y => bindS (optM (op x y)) fun z => dputK i z k)
section
variable {c : Cfg} {X : Cx} {S : S0} {tm tm0 : List Pr} {σ : L2.St} {H : Hp} {a b e g : Expr} {fa fb fe fk fx fv : EM} {pos pos' apos cpos : Pos} {i : Nat} {E : Ends}
end
end WF
namespace WF
open PySem PySem.Spec PyProof.Rows L2
def asDic (d : D) : Option D := if isDic d = true then some d else none
section
variable {S : S0} {Q : D → S0 → Prop} {QS : Fl → S0 → Prop} {f fk fx fv : EM} {i : Nat} {k x d v : D} {o : Bool} {xs : List D}
@[simp] theorem asDic_dtk {ks : List (List Key)} : asDic (.dtk o ks xs) = some (.dtk o ks xs) := rfl
@[simp] theorem asDic_dic {ks : List Key} : asDic (.dic o ks xs) = some (.dic o ks xs) := rfl
@[simp] theorem isUn_dtk {ks : List (List Key)} : isUn (.dtk o ks xs) = false := rfl
@[simp] theorem isUn_dic {ks : List Key} : isUn (.dic o ks xs) = false := rfl
@[simp] theorem frz_dtk {ks : List (List Key)} : D.frz (.dtk o ks xs) = .dtk false ks (D.frzs xs) := rfl
@[simp] theorem frz_dic {ks : List Key} : D.frz (.dic o ks xs) = .dic false ks (D.frzs xs) := rfl
@[simp] theorem wE_dicS : wE (dicS i f) S Q ↔ rd (S[i]?.bind asDic) fun _ => wE f S Q := by
  unfold wE rd
  show WF0.oE (dicS i f S) Q ↔ _
  unfold dicS asDic
  cases h : S[i]? with
  | none => simp [WF0.oE, WF0.rd]
  | some d => cases hd : isDic d <;> simp [hd, WF0.oE, WF0.rd, WF0.wE]
@[simp] theorem wS_dicSS {f : SM} : wS (dicSS i f) S QS ↔ rd (S[i]?.bind asDic) fun _ => wS f S QS := by
  unfold wS rd
  show WF0.oS (dicSS i f S) QS ↔ _
  unfold dicSS asDic
  cases h : S[i]? with
  | none => simp [WF0.oS, WF0.rd]
  | some d => cases hd : isDic d <;> simp [hd, WF0.oS, WF0.rd, WF0.wS]
@[simp] theorem wS_prS {f : S0 → Option S0} : wS (prS f) S QS ↔ rd (f S) fun S => QS .nx S := by
  unfold wS rd
  show WF0.oS (prS f S) QS ↔ _
  unfold prS
  cases h : f S with
  | none => simp [WF0.oS, WF0.rd]
  | some d => simp [WF0.oS, WF0.rd]
@[simp] theorem wE_dgetK : wE (dgetK i k) S Q ↔ rd (S[i]?.bind fun d => (dGetD d k).bind fun o => o.map fun x => (x, S)) fun p => Q p.1 p.2 := wE_pr
@[simp] theorem wE_dget : wE (dgetM i fk) S Q ↔ wE (dicS i (bindM fk (dgetK i))) S Q := Iff.rfl
@[simp] theorem wE_dinK {neg : Bool} : wE (dinK neg i k) S Q ↔ rd (S[i]?.bind fun d => (dGetD d k).map fun o => (D.bl (if neg = true then !o.isSome else o.isSome), S)) fun p => Q p.1 p.2 := wE_pr
@[simp] theorem wE_din {neg : Bool} : wE (dinM neg i fk) S Q ↔ wE (bindM fk fun k => dicS i (dinK neg i k)) S Q := Iff.rfl
@[simp] theorem wE_dget2K : wE (dget2K i k x) S Q ↔ rd (S[i]?.bind fun d => (dGetD d k).map fun o => (o.getD x, S)) fun p => Q p.1 p.2 := wE_pr
@[simp] theorem wE_dget2 : wE (dget2M i fk fx) S Q ↔ wE (dicS i (bindM fk fun k => bindM fx fun x => dget2K i k x)) S Q := Iff.rfl
@[simp] theorem wS_dputK : wS (dputK i v k) S QS ↔ rd ((S[i]?.bind fun d => dPutD d k v).map fun d' => S.set i d') fun S => QS .nx S := wS_prS
@[simp] theorem wS_dput : wS (dputM i fk fv) S QS ↔ wS (bindS fv fun v => dicSS i (bindS fk (dputK i v))) S QS := Iff.rfl
@[simp] theorem wS_daug {op : D → D → Option D} : wS (daugM i fk op fv) S QS ↔ wS (dicSS i (bindS fk fun k => bindS (dgetK i k) fun x => bindS fv fun y => bindS (optM (op x y)) fun z => dputK i z k)) S QS := Iff.rfl
@[simp] theorem dGetD_dtk {ks : List (List Key)} : dGetD (.dtk o ks xs) k = if D.imms xs = true ∨ D.purs xs = true then (keyT k).map fun q => lk ks xs q else none := rfl
@[simp] theorem dGetD_dic {ks : List Key} : dGetD (.dic o ks xs) k = if D.imms xs = true ∨ D.purs xs = true then (keyK k).map fun q => lk ks xs q else none := rfl
@[simp] theorem dPutD_dtk {ks : List (List Key)} : dPutD (.dtk true ks xs) k v = if (D.imms xs = true ∨ D.purs xs = true) ∧ (v.imm = true ∨ v.pur = true) ∧ ks.length < 1000000 then (keyT k).map fun q => .dtk true (pkK ks q) (pkV ks xs q v) else none := rfl
@[simp] theorem dPutD_dic {ks : List Key} : dPutD (.dic true ks xs) k v = if (D.imms xs = true ∨ D.purs xs = true) ∧ (v.imm = true ∨ v.pur = true) ∧ ks.length < 1000000 then (keyK k).map fun q => .dic true (pkK ks q) (pkV ks xs q v) else none := rfl
@[simp] theorem keyK_int {a : Int} : keyK (.int a) = some (.inl a) := rfl
@[simp] theorem keyT_tup : keyT (.tup xs) = keysD xs := rfl
@[simp] theorem keysD_nil : keysD [] = some [] := rfl
@[simp] theorem keysD_cons : keysD (x :: xs) = (keyK x).bind fun k => (keysD xs).map (k :: ·) := rfl
end
section
variable {c : Cfg} {X : Cx} {pos : Pos} {a b : Expr} {fa fb : EM}
def dispM (k v : EM) : EM := bindM k fun x => bindM v fun y => optM ((keyK x).bind fun q => if y.imm = true ∨ y.pur = true then some (.dic true [q] [y]) else none)
@[simp] theorem wE_disp {S : S0} {Q : D → S0 → Prop} : wE (dispM fa fb) S Q ↔ wE (bindM fa fun x => bindM fb fun y => optM ((keyK x).bind fun q => if y.imm = true ∨ y.pur = true then some (.dic true [q] [y]) else none)) S Q := Iff.rfl
end
end WF
namespace WF
open PySem PySem.Spec PyProof.Rows L2
def lgetK (i : Nat) (k : D) : EM := prM fun S => (asI k).bind fun n => (S[i]?.bind asO).bind fun xs => if 0 ≤ n then (atI xs n).bind fun x => if x.imm = true then some (x, S) else none else none
def lputK (i : Nat) (k z : D) : SM := prS fun S => (asI k).bind fun n => (S[i]?.bind asO).bind fun xs => (ixN xs.length n).map fun m => S.set i (.lst true (xs.set m z))
def lstSS (i : Nat) (f : SM) : SM := fun S => match S[i]? with
  | some (.lst true _) => f S
  | _ => none
def laugM (i : Nat) (fk : EM) (op : D → D → Option D) (fv : EM) : SM := lstSS i (bindS fk fun k => bindS (lgetK i k) fun x => bindS fv fun y => bindS (optM (op x y)) fun z => lputK i k z)
section
variable {c : Cfg} {X : Cx} {S : S0} {tm tm0 : List Pr} {σ : L2.St} {H : Hp} {a b e g : Expr} {fa fb fe fk fx fv : EM} {pos pos' : Pos} {i : Nat} {E : Ends}
@[simp] theorem wS_lstSS {f : SM} {QS : Fl → S0 → Prop} : wS (lstSS i f) S QS ↔ rd (S[i]?.bind asO) fun _ => wS f S QS := by
  unfold wS rd
  show WF0.oS (lstSS i f S) QS ↔ _
  unfold lstSS
  cases h : S[i]? with
  | none => simp [WF0.oS, WF0.rd]
  | some d =>
    cases d with
    | lst o xs => cases o <;> simp [WF0.oS, WF0.rd, WF0.wS, asO, WF0.asO]
    | _ => simp [WF0.oS, WF0.rd, WF0.wS, asO, WF0.asO]
@[simp] theorem wE_lgetK {k : D} {Q : D → S0 → Prop} : wE (lgetK i k) S Q ↔ rd ((asI k).bind fun n => (S[i]?.bind asO).bind fun xs => if 0 ≤ n then (atI xs n).bind fun x => if x.imm = true then some (x, S) else none else none) fun p => Q p.1 p.2 := wE_pr
@[simp] theorem wS_lputK {k z : D} {QS : Fl → S0 → Prop} : wS (lputK i k z) S QS ↔ rd ((asI k).bind fun n => (S[i]?.bind asO).bind fun xs => (ixN xs.length n).map fun m => S.set i (.lst true (xs.set m z))) fun S => QS .nx S := wS_prS
@[simp] theorem wS_laug {op : D → D → Option D} {QS : Fl → S0 → Prop} : wS (laugM i fk op fv) S QS ↔ wS (lstSS i (bindS fk fun k => bindS (lgetK i k) fun x => bindS fv fun y => bindS (optM (op x y)) fun z => lputK i k z)) S QS := Iff.rfl
end
def lenDD : List D → Option D
  | [.dtk _ ks _] => some (.int ks.length)
  | [.dic _ ks _] => some (.int ks.length)
  | _ => none
section
variable {K : PySem.W.Frag} {H : Hp} {R : List Pr} {p : Addr} {ds : List D} {o : Bool}
end
@[simp] theorem lenDD_dtk {o : Bool} {ks : List (List Key)} {xs : List D} : lenDD [.dtk o ks xs] = some (.int ks.length) := rfl
@[simp] theorem lenDD_dic {o : Bool} {ks : List Key} {xs : List D} : lenDD [.dic o ks xs] = some (.int ks.length) := rfl
def intKeys : List Key → Option (List Int)
  | [] => some []
  | .inl i :: ks => (intKeys ks).map (i :: ·)
  | _ => none
def sortKD : List D → Option D
  | [.dic _ ks _] => (intKeys ks).bind fun ns => if ns.length < 64 then some (.lst true ((sortI ns).map .int)) else none
  | _ => none
@[simp] theorem intKeys_of {ns : List Int} : intKeys (ns.map Sum.inl) = some ns := by
  induction ns with
  | nil => rfl
  | cons n ns ih => rw [List.map_cons, intKeys, ih]; rfl
@[simp] theorem sortKD_dic {o : Bool} {ks : List Key} {xs : List D} : sortKD [.dic o ks xs] = (intKeys ks).bind fun ns => if ns.length < 64 then some (.lst true ((sortI ns).map .int)) else none := rfl
end WF
namespace WF
open PySem PySem.Spec PyProof.Rows L2
theorem hu1 {k : Nat} {A : Around} (r : Room k A) : A.units + 1 < cLine := by have := r.un; omega
section
variable {K : PySem.W.Frag} {G H H' : Hp} {L R : List Pr} {p b : Addr} {ds : List D}
theorem Reps.own {fp : List Addr} (r : Reps K G H L fp) : ∀ a ∈ fp, ∀ xs, H a ≠ Option.some (HO.tup xs) := by
  induction r with
  | nil => intro a m; cases m
  | un _ ih => exact ih
  | non _ ih => exact ih
  | bl _ ih => exact ih
  | int _ ih => exact ih
  | str _ ih => exact ih
  | vl _ ih => exact ih
  | hld q h _ ih => intro a m xs e; rcases List.mem_cons.mp m with rfl | m; (rw [h] at e; exact q.1 xs (Option.some.inj e)); exact ih a m xs e
  | con _ _ _ ih => exact ih
  | tab h _ ih => intro a m xs e; rcases List.mem_cons.mp m with rfl | m; (obtain ⟨ps, h, _⟩ := h; rw [h] at e; cases e); exact ih a m xs e
  | of _ _ _ _ _ _ _ ih1 ih2 => exact ih2
  | oo h h2 _ _ _ _ _ ih1 ih2 => intro a m xs e; rcases List.mem_cons.mp m with rfl | m; (rw [h] at e; cases e); rcases List.mem_cons.mp m with rfl | m; (rw [h2] at e; cases e); rcases List.mem_append.mp m with m | m; exact ih1 a m xs e; exact ih2 a m xs e
  | scr _ _ ih => exact ih
  | tup _ _ _ _ _ ih1 ih2 => intro a m; rcases List.mem_append.mp m with m | m; exact ih1 a m; exact ih2 a m
  | exn _ _ _ _ _ _ _ ih1 ih2 => exact ih2
  | lf _ _ _ _ _ ih1 ih2 => exact ih2
  | lo h _ _ _ _ ih1 ih2 => intro a m xs e; rcases List.mem_cons.mp m with rfl | m; (rw [h] at e; cases e); rcases List.mem_append.mp m with m | m; exact ih1 a m xs e; exact ih2 a m xs e
  | kf _ _ _ _ _ _ ih1 ih2 => exact ih2
  | ko h _ _ _ _ _ ih1 ih2 => intro a m xs e; rcases List.mem_cons.mp m with rfl | m; (rw [h] at e; cases e); rcases List.mem_append.mp m with m | m; exact ih1 a m xs e; exact ih2 a m xs e
  | tf _ _ _ _ _ _ ih1 ih2 => exact ih2
  | to h _ _ _ _ _ ih1 ih2 => intro a m xs e; rcases List.mem_cons.mp m with rfl | m; (rw [h] at e; cases e); rcases List.mem_append.mp m with m | m; exact ih1 a m xs e; exact ih2 a m xs e
theorem reps_ints {ns : List Int} : Reps K G H ((ns.map V.int).zip (ns.map D.int)) [] := by
  induction ns with
  | nil => exact .nil
  | cons n ns ih => exact .int ih
end
section
variable {X : Cx} {c : Cfg} {a b : Expr} {pos : Pos} {tk tv : TE} {fa fb : EM}
def dispT (k v : EM) : EM := bindM k fun x => bindM v fun y => optM ((keyT x).bind fun q => if y.imm = true ∨ y.pur = true then some (.dtk true [q] [y]) else none)
@[simp] theorem wE_dispT {S : S0} {Q : D → S0 → Prop} : wE (dispT fa fb) S Q ↔ wE (bindM fa fun x => bindM fb fun y => optM ((keyT x).bind fun q => if y.imm = true ∨ y.pur = true then some (.dtk true [q] [y]) else none)) S Q := Iff.rfl
end
end WF
namespace WF
open PySem PySem.Spec PyProof.Rows L2
section
variable {X : Cx} {c : Cfg} {e : Expr} {td : TE} {apos cpos : Pos} {i : Nat}
end
end WF
namespace WF
open PySem PySem.Spec PyProof.Rows L2
def ksI : List (List Key) → Option (List (List Int))
  | [] => some []
  | k :: r => (intKeys k).bind fun ks => (ksI r).map (ks :: ·)
def kvR (p : List Int × Int) : List Key × V := (p.1.map Sum.inl, .int p.2)
def itD (p : List Int × Int) : D := .tup [.tup (p.1.map .int), .int p.2]
@[simp] theorem ksI_of : ∀ {l : List (List Int)}, ksI (l.map fun k => k.map Sum.inl) = some l
  | [] => rfl
  | p :: l => by
    show ((intKeys (p.map Sum.inl)).bind fun ks => (ksI (l.map fun k => k.map Sum.inl)).map (ks :: ·)) = _
    rw [intKeys_of, ksI_of]
    rfl
def itI (i : Nat) : IM := fun S => match S[i]? with
  | some (.dtk true ks xs) => (ksI ks).bind fun kss => (intsD xs).bind fun ns => if kss.length = ns.length then some (.ok ((kss.zip ns).map itD) [(i, .dtk true ks xs)], S.set i .un) else none
  | _ => none
section
variable {K : PySem.W.Frag} {H H' : Hp} {R : List Pr} {p : Addr} {ns : List Int} {u : HO}
theorem JX.ints (j : JX K H p R) : JX K H p ((ns.map V.int).zip (ns.map D.int) ++ R) := by
  obtain ⟨G, fp, g, r, n, z, gp, np⟩ := j
  exact ⟨G, fp, g, Reps.append (fp := []) reps_ints r, n, z, gp, np⟩
end
section
variable {c : Cfg} {X : Cx} {S : S0} {tm : List Pr} {σ : L2.St} {H : Hp} {e : Expr} {apos cpos : Pos} {i : Nat}
end
def asDT : D → Option (List (List Key) × List D)
  | .dtk true ks xs => some (ks, xs)
  | _ => none
@[simp] theorem asDT_dtk {ks : List (List Key)} {xs : List D} : asDT (.dtk true ks xs) = some (ks, xs) := rfl
@[simp] theorem wI_itI {i : Nat} {S : S0} {Q : List D → List (Nat × D) → S0 → Prop} : wI (itI i) S Q ↔ rd ((S[i]?.bind asDT).bind fun p => (ksI p.1).bind fun kss => (intsD p.2).bind fun ns => if kss.length = ns.length then some ((kss.zip ns).map itD, p) else none) fun r => Q r.1 [(i, .dtk true r.2.1 r.2.2)] (S.set i .un) := by
  unfold wI rd
  show WF0.oI (itI i S) Q ↔ _
  unfold itI
  cases h : S[i]? with
  | none => simp [WF0.oI, WF0.rd]
  | some d =>
    cases d with
    | dtk o ks xs =>
      cases o with
      | false => simp [WF0.oI, WF0.rd, asDT]
      | true =>
        simp only [Option.bind_some, asDT_dtk]
        cases hk : ksI ks with
        | none => simp [WF0.oI, WF0.rd]
        | some kss =>
          simp only [Option.bind_some]
          cases hn : intsD xs with
          | none => simp [WF0.oI, WF0.rd]
          | some ns =>
            simp only [Option.bind_some]
            by_cases hl : kss.length = ns.length
            · simp [hl, WF0.oI, WF0.rd]
            · simp [hl, WF0.oI, WF0.rd]
    | _ => simp [WF0.oI, WF0.rd, asDT]
end WF
namespace WF
open PySem PySem.Spec PyProof.Rows L2
def inTD (neg : Bool) : D → D → Option D
  | .int a, .tup xs => (intsD xs).map fun ns => .bl (if neg = true then !decide (a ∈ ns) else decide (a ∈ ns))
  | _, _ => none
section
variable {K : PySem.W.Frag}
@[simp] theorem inTD_tup {neg : Bool} {a : Int} {xs : List D} : inTD neg (.int a) (.tup xs) = (intsD xs).map fun ns => .bl (if neg = true then !decide (a ∈ ns) else decide (a ∈ ns)) := rfl
end
end WF
namespace WF
open PySem PySem.Spec PyProof.Rows L2
def kyD (p : List Int × Int) : D := .tup (p.1.map .int)
def kyI (i : Nat) : IM := fun S => match S[i]? with
  | some (.dtk true ks xs) => (ksI ks).bind fun kss => (intsD xs).bind fun ns => if kss.length = ns.length then some (.ok ((kss.zip ns).map kyD) [(i, .dtk true ks xs)], S.set i .un) else none
  | _ => none
section
variable {K : PySem.W.Frag} {H H' : Hp} {R : List Pr} {p : Addr} {ns : List Int} {u : HO}
end
section
variable {c : Cfg} {X : Cx} {S : S0} {tm : List Pr} {σ : L2.St} {H : Hp} {e : Expr} {apos cpos : Pos} {i : Nat}
end
@[simp] theorem wI_kyI {i : Nat} {S : S0} {Q : List D → List (Nat × D) → S0 → Prop} : wI (kyI i) S Q ↔ rd ((S[i]?.bind asDT).bind fun p => (ksI p.1).bind fun kss => (intsD p.2).bind fun ns => if kss.length = ns.length then some ((kss.zip ns).map kyD, p) else none) fun r => Q r.1 [(i, .dtk true r.2.1 r.2.2)] (S.set i .un) := by
  unfold wI rd
  show WF0.oI (kyI i S) Q ↔ _
  unfold kyI
  cases h : S[i]? with
  | none => simp [WF0.oI, WF0.rd]
  | some d =>
    cases d with
    | dtk o ks xs =>
      cases o with
      | false => simp [WF0.oI, WF0.rd, asDT]
      | true =>
        simp only [Option.bind_some, asDT_dtk]
        cases hk : ksI ks with
        | none => simp [WF0.oI, WF0.rd]
        | some kss =>
          simp only [Option.bind_some]
          cases hn : intsD xs with
          | none => simp [WF0.oI, WF0.rd]
          | some ns =>
            simp only [Option.bind_some]
            by_cases hl : kss.length = ns.length
            · simp [hl, WF0.oI, WF0.rd]
            · simp [hl, WF0.oI, WF0.rd]
    | _ => simp [WF0.oI, WF0.rd, asDT]
end WF
namespace WF
open PySem PySem.Spec PyProof.Rows L2
section
variable {c : Cfg} {X : Cx}
end
end WF
namespace WF
open PySem PySem.Spec PyProof.Rows L2
section
variable {c : Cfg} {X : Cx} {σ : L2.St} {H : Hp} {i : Nat} {fi : IM} {v : Int}
end
end WF
namespace WF
open PySem PySem.Spec PyProof.Rows L2 NdefX
def outOk (K : PySem.W.Frag) (o : Option (Out × List D)) (n : Nat) (vs : List V) (rs : List Pr) (Q : VK) (E : XK) : Prop := match o with
  | some (.ok r, ds') => ds'.length = n ∧ ∀ v H', Joint K H' ((v, r) :: (vs.zip ds' ++ rs)) → Q v H'
  | some (.ex x, ds') => ds'.length = n ∧ ∀ cls dd H', XF K x (vs.zip ds' ++ rs) cls dd H' → E cls dd H'
  | none => False
section
variable {K : PySem.W.Frag} {H : Hp} {vs : List V} {ds : List D} {rs rs' : List Pr} {Q : VK} {E : XK} {mask : List Bool} {fb : SM} {kN : Nat}
theorem outOk.perm {o : Option (Out × List D)} {n : Nat} (p : rs.Perm rs') (h : outOk K o n vs rs Q E) : outOk K o n vs rs' Q E := by
  unfold outOk at h ⊢
  split at h
  · exact ⟨h.1, fun v H' k => h.2 v H' (k.perm (List.Perm.cons _ (List.Perm.append_left _ p.symm)))⟩
  · exact ⟨h.1, fun cls dd H' ⟨fv, x1, x2, x3, k⟩ => h.2 cls dd H' ⟨fv, x1, x2, x3, k.perm (List.Perm.append_left _ (List.Perm.append_left _ p.symm))⟩⟩
  · exact h.elim
theorem outOk.more {o : Option (Out × List D)} {n : Nat} {L : List Pr} (h : outOk K o n vs rs Q E) : outOk K o n vs (L ++ rs) Q E := by
  unfold outOk at h ⊢
  split at h
  · refine ⟨h.1, fun v H' k => h.2 v H' ?_⟩
    have k2 : Joint K H' (L ++ ((v, _) :: (vs.zip _ ++ rs))) := k.perm ((List.Perm.cons _ perm_sw).trans perm_take.symm)
    exact k2.dropL
  · refine ⟨h.1, fun cls dd H' ⟨fv, x1, x2, x3, k⟩ => h.2 cls dd H' ⟨fv, x1, x2, x3, ?_⟩⟩
    have k2 : Joint K H' (L ++ (fv ++ (vs.zip _ ++ rs))) := k.perm ((List.Perm.append_left _ perm_sw).trans perm_sw)
    exact k2.dropL
  · exact h.elim
end
def spOfR (K : PySem.W.Frag) (R : List Pr) (n : Nat) (m : Fn) : Sp := fun vs H Q E => vs.length = n ∧ ∃ ds rs, (∃ Z, rs.Perm (R ++ Z)) ∧ ds.length = n ∧ Joint K H (vs.zip ds ++ rs) ∧ outOk K (m ds) n vs rs Q E
theorem spOfR.sub {K : PySem.W.Frag} {R Z : List Pr} {n : Nat} {m : Fn} {vs : List V} {H : Hp} {Q : VK} {E : XK} (h : spOfR K (R ++ Z) n m vs H Q E) : spOfR K R n m vs H Q E := by
  obtain ⟨h1, ds, rs, ⟨Z', p⟩, h2⟩ := h
  exact ⟨h1, ds, rs, ⟨Z ++ Z', by rw [List.append_assoc] at p; exact p⟩, h2⟩
theorem spOfR.sp {K : PySem.W.Frag} {R : List Pr} {n : Nat} {m : Fn} {vs : List V} {H : Hp} {Q : VK} {E : XK} (h : spOfR K R n m vs H Q E) : spOf K n m vs H Q E := by
  obtain ⟨h1, ds, rs, _, h2, h3, h4⟩ := h
  exact ⟨h1, ds, rs, h2, h3, h4⟩
section
variable {P : Program} {w : World} {K : PySem.W.Frag} {mg : Str → Option Value} {base : Heap}
end
section
variable {c : Cfg} {X : Cx} {k : Nat} {f : Addr} {fd : FuncData} {ps : List Str} {n : Nat} {m : Fn} {x : Str} {p pos : Pos} {e : Expr} {es : List Expr} {as : List Ar} {R : List Pr}
end
end WF
namespace WF
open PySem PySem.Spec PyProof.Rows L2 NdefX
section
variable {K : PySem.W.Frag} {G H : Hp} {L R : List Pr} {fp : List Addr}
structure Tbs (K : PySem.W.Frag) (G H : Hp) (L : List Pr) (fp : List Addr) (l : List NTab) : Prop where
  sub : (l.map Prod.fst).Sublist fp
  tab : ∀ p ∈ l, TabG G H p.1 p.2
  mem : ∀ P nm, (V.ref P, D.tab nm) ∈ L → (P, nm) ∈ l
  own : ∀ a ∈ fp, ∃ o, H a = some o ∧ (∀ φ, o ≠ .ext φ) ∧ ((∀ ps, o ≠ .tbl ps) ∨ a ∈ l.map Prod.fst)
  re : ∀ G' H', GSub G G' → (∀ a o, a ∈ fp → H a = some o → (∀ ps, o ≠ .tbl ps) → H' a = some o) → (∀ p ∈ l, TabG G' H' p.1 p.2) → Reps K G' H' L fp
theorem Tbs.step {x : Pr} {l : List NTab} (t : Tbs K G H L fp l) (hx : ∀ P nm, x ≠ (V.ref P, D.tab nm)) (hr : ∀ G' H', GSub G G' → Reps K G' H' L fp → Reps K G' H' (x :: L) fp) : Tbs K G H (x :: L) fp l :=
  ⟨t.sub, t.tab, fun P nm h => by
    rcases List.mem_cons.mp h with e | e
    · exact (hx P nm e.symm).elim
    · exact t.mem P nm e, t.own, fun G' H' g h t' => hr G' H' g (t.re G' H' g h t')⟩
theorem Tbs.two {x : Pr} {C : List Pr} {f : List Addr} {l1 l2 : List NTab} {os : List Addr} (t1 : Tbs K G H C f l1) (t2 : Tbs K G H L fp l2) (hx : ∀ P nm, x ≠ (V.ref P, D.tab nm)) (ho : ∀ a ∈ os, ∃ o, H a = some o ∧ (∀ φ, o ≠ .ext φ) ∧ ∀ ps, o ≠ .tbl ps)
    (hr : ∀ G' H', GSub G G' → (∀ a o, a ∈ os → H a = some o → H' a = some o) → Reps K G' H' C f → Reps K G' H' L fp → Reps K G' H' (x :: L) (os ++ (f ++ fp))) : Tbs K G H (x :: L) (os ++ (f ++ fp)) (l1 ++ l2) :=
  ⟨by rw [List.map_append]; exact (t1.sub.append t2.sub).trans (List.sublist_append_right _ _), fun p hp => (List.mem_append.mp hp).elim (t1.tab p) (t2.tab p), fun P nm h => by
    rcases List.mem_cons.mp h with e | e
    · exact (hx P nm e.symm).elim
    · exact List.mem_append_right _ (t2.mem P nm e), fun a h => by
    rcases List.mem_append.mp h with h | h
    · obtain ⟨o, h1, h2, h3⟩ := ho a h
      exact ⟨o, h1, h2, .inl h3⟩
    · rcases List.mem_append.mp h with h | h
      · obtain ⟨o, h1, h2, h3⟩ := t1.own a h
        exact ⟨o, h1, h2, h3.imp id fun z => by rw [List.map_append]; exact List.mem_append_left _ z⟩
      · obtain ⟨o, h1, h2, h3⟩ := t2.own a h
        exact ⟨o, h1, h2, h3.imp id fun z => by rw [List.map_append]; exact List.mem_append_right _ z⟩, fun G' H' g h t' =>
    hr G' H' g (fun a o m e => by
      obtain ⟨o', h1, _, h3⟩ := ho a m
      rw [e] at h1
      cases h1
      exact h a o (List.mem_append_left _ m) e h3) (t1.re G' H' g (fun a o m => h a o (List.mem_append_right _ (List.mem_append_left _ m))) fun p hp => t' p (List.mem_append_left _ hp))
      (t2.re G' H' g (fun a o m => h a o (List.mem_append_right _ (List.mem_append_right _ m))) fun p hp => t' p (List.mem_append_right _ hp))⟩
theorem Reps.tabs (r : Reps K G H L fp) : ∃ l, Tbs K G H L fp l := by
  induction r with
  | nil => exact ⟨[], List.Sublist.slnil, (fun _ h => nomatch h), (fun _ _ h => nomatch h), (fun _ h => nomatch h), fun _ _ _ _ _ => Reps.nil⟩
  | un _ ih => obtain ⟨l, t⟩ := ih; exact ⟨l, t.step (fun _ _ e => by cases e) fun _ _ _ r => .un r⟩
  | non _ ih => obtain ⟨l, t⟩ := ih; exact ⟨l, t.step (fun _ _ e => by cases e) fun _ _ _ r => .non r⟩
  | bl _ ih => obtain ⟨l, t⟩ := ih; exact ⟨l, t.step (fun _ _ e => by cases e) fun _ _ _ r => .bl r⟩
  | int _ ih => obtain ⟨l, t⟩ := ih; exact ⟨l, t.step (fun _ _ e => by cases e) fun _ _ _ r => .int r⟩
  | str _ ih => obtain ⟨l, t⟩ := ih; exact ⟨l, t.step (fun _ _ e => by cases e) fun _ _ _ r => .str r⟩
  | vl _ ih => obtain ⟨l, t⟩ := ih; exact ⟨l, t.step (fun _ _ e => by cases e) fun _ _ _ r => .vl r⟩
  | con q a _ ih => obtain ⟨l, t⟩ := ih; exact ⟨l, t.step (fun _ _ e => by cases e) fun _ _ g r => .con q (g _ _ a) r⟩
  | scr a _ ih => obtain ⟨l, t⟩ := ih; exact ⟨l, t.step (fun _ _ e => by cases e) fun _ _ g r => .scr (sqL_mono g a) r⟩
  | @hld p u L fp q a _ ih =>
    obtain ⟨l, t⟩ := ih
    refine ⟨l, t.sub.cons _, t.tab, fun P nm h => ?_, fun b h => ?_, fun G' H' g h t' => .hld q (h _ _ List.mem_cons_self a q.2.1) (t.re G' H' g (fun b o m => h b o (List.mem_cons_of_mem _ m)) t')⟩
    · rcases List.mem_cons.mp h with e | e
      · cases e
      · exact t.mem P nm e
    · rcases List.mem_cons.mp h with rfl | h
      · exact ⟨_, a, q.2.2.1, .inl q.2.1⟩
      · exact t.own b h
  | @tab p nm L fp a _ ih =>
    obtain ⟨l, t⟩ := ih
    refine ⟨(p, nm) :: l, t.sub.cons₂ _, fun q hq => ?_, fun P nm' h => ?_, fun b h => ?_, fun G' H' g h t' => .tab (t' _ List.mem_cons_self) (t.re G' H' g (fun b o m => h b o (List.mem_cons_of_mem _ m)) fun q hq => t' q (List.mem_cons_of_mem _ hq))⟩
    · rcases List.mem_cons.mp hq with rfl | hq
      · exact a
      · exact t.tab q hq
    · rcases List.mem_cons.mp h with e | e
      · cases e; exact List.mem_cons_self
      · exact List.mem_cons_of_mem _ (t.mem P nm' e)
    · rcases List.mem_cons.mp h with rfl | h
      · obtain ⟨ps, a, _⟩ := a
        exact ⟨_, a, (fun _ z => by cases z), .inr List.mem_cons_self⟩
      · obtain ⟨o, h1, h2, h3⟩ := t.own b h
        exact ⟨o, h1, h2, h3.imp id fun z => List.mem_cons_of_mem _ z⟩
  | tup a b c _ _ ih1 ih2 =>
    obtain ⟨l1, t1⟩ := ih1; obtain ⟨l2, t2⟩ := ih2
    exact ⟨_, t1.two (os := []) t2 (fun _ _ e => by cases e) (fun _ h => nomatch h) fun _ _ g _ r1 r2 => by have q := Reps.tup (g _ _ a) b c r1 r2; exact q⟩
  | exn a a2 e b c _ _ ih1 ih2 =>
    obtain ⟨l1, t1⟩ := ih1; obtain ⟨l2, t2⟩ := ih2
    exact ⟨_, t1.two (os := []) t2 (fun _ _ e => by cases e) (fun _ h => nomatch h) fun _ _ g _ r1 r2 => by have q := Reps.exn (g _ _ a) (a2.imp id fun ⟨dx, e1, e2⟩ => ⟨dx, e1, g _ _ e2⟩) e b c r1 r2; exact q⟩
  | lf a b c _ _ ih1 ih2 =>
    obtain ⟨l1, t1⟩ := ih1; obtain ⟨l2, t2⟩ := ih2
    exact ⟨_, t1.two (os := []) t2 (fun _ _ e => by cases e) (fun _ h => nomatch h) fun _ _ g _ r1 r2 => by have q := Reps.lf (g _ _ a) b c r1 r2; exact q⟩
  | kf a e b c _ _ ih1 ih2 =>
    obtain ⟨l1, t1⟩ := ih1; obtain ⟨l2, t2⟩ := ih2
    exact ⟨_, t1.two (os := []) t2 (fun _ _ e => by cases e) (fun _ h => nomatch h) fun _ _ g _ r1 r2 => by have q := Reps.kf (g _ _ a) e b c r1 r2; exact q⟩
  | tf a e b c _ _ ih1 ih2 =>
    obtain ⟨l1, t1⟩ := ih1; obtain ⟨l2, t2⟩ := ih2
    exact ⟨_, t1.two (os := []) t2 (fun _ _ e => by cases e) (fun _ h => nomatch h) fun _ _ g _ r1 r2 => by have q := Reps.tf (g _ _ a) e b c r1 r2; exact q⟩
  | of a a2 e b c _ _ ih1 ih2 =>
    obtain ⟨l1, t1⟩ := ih1; obtain ⟨l2, t2⟩ := ih2
    exact ⟨_, t1.two (os := []) t2 (fun _ _ e => by cases e) (fun _ h => nomatch h) fun _ _ g _ r1 r2 => by have q := Reps.of (g _ _ a) (g _ _ a2) e b c r1 r2; exact q⟩
  | lo a b c _ _ ih1 ih2 =>
    obtain ⟨l1, t1⟩ := ih1; obtain ⟨l2, t2⟩ := ih2
    exact ⟨_, t1.two (os := [_]) t2 (fun _ _ e => by cases e) (fun x h => by obtain rfl := List.mem_singleton.mp h; exact ⟨_, a, (fun _ z => by cases z), fun _ z => by cases z⟩) fun _ _ g k r1 r2 => by have q := Reps.lo (k _ _ List.mem_cons_self a) b c r1 r2; exact q⟩
  | ko a e b c _ _ ih1 ih2 =>
    obtain ⟨l1, t1⟩ := ih1; obtain ⟨l2, t2⟩ := ih2
    exact ⟨_, t1.two (os := [_]) t2 (fun _ _ e => by cases e) (fun x h => by obtain rfl := List.mem_singleton.mp h; exact ⟨_, a, (fun _ z => by cases z), fun _ z => by cases z⟩) fun _ _ g k r1 r2 => by have q := Reps.ko (k _ _ List.mem_cons_self a) e b c r1 r2; exact q⟩
  | to a e b c _ _ ih1 ih2 =>
    obtain ⟨l1, t1⟩ := ih1; obtain ⟨l2, t2⟩ := ih2
    exact ⟨_, t1.two (os := [_]) t2 (fun _ _ e => by cases e) (fun x h => by obtain rfl := List.mem_singleton.mp h; exact ⟨_, a, (fun _ z => by cases z), fun _ z => by cases z⟩) fun _ _ g k r1 r2 => by have q := Reps.to (k _ _ List.mem_cons_self a) e b c r1 r2; exact q⟩
  | oo a a2 e b c _ _ ih1 ih2 =>
    obtain ⟨l1, t1⟩ := ih1; obtain ⟨l2, t2⟩ := ih2
    exact ⟨_, t1.two (os := [_, _]) t2 (fun _ _ e => by cases e) (fun x h => by
      rcases List.mem_cons.mp h with rfl | h
      · exact ⟨_, a, (fun _ z => by cases z), fun _ z => by cases z⟩
      · obtain rfl := List.mem_singleton.mp h; exact ⟨_, a2, (fun _ z => by cases z), fun _ z => by cases z⟩) fun _ _ g k r1 r2 => by have q := Reps.oo (k _ _ List.mem_cons_self a) (k _ _ (List.mem_cons_of_mem _ List.mem_cons_self) a2) e b c r1 r2; exact q⟩
theorem Joint.con {p : Addr} {φ : Heap → Prop} (j : Joint K H L) (h : H p = some (.ext φ)) : Joint K H ((.ref p, .con (.ext φ)) :: L) := by
  obtain ⟨G, fp, g, r, n, z⟩ := j
  obtain ⟨l, t⟩ := r.tabs
  have hp : p ∉ fp := fun m => by
    obtain ⟨o, h1, h2, _⟩ := t.own p m
    rw [h] at h1
    exact h2 φ (Option.some.inj h1).symm
  have gg : GSub G (upd G p (.ext φ)) := fun a o e => by
    by_cases ha : a = p
    · subst ha
      rw [upd_same, ← h]
      exact g a o e
    · rw [upd_ne ha]; exact e
  refine ⟨upd G p (.ext φ), fp, fun a o e => ?_, .con (fun _ q => by cases q) upd_same (r.mono gg fun _ _ _ e => e), n, fun a m => ?_⟩
  · by_cases ha : a = p
    · subst ha
      rw [upd_same] at e
      rw [← e]; exact h
    · rw [upd_ne ha] at e; exact g a o e
  · rw [upd_ne (fun q => hp (by rw [← q]; exact m))]
    exact z a m
end
def spN (K : PySem.W.Frag) (n : Nat) (m : Fn) (ws : List (Option V)) : Sp := fun vs H Q E => vs.length = n ∧ ∃ wv ds dw rs, ws = wv.map some ∧ ds.length = n ∧ dw.length = wv.length ∧ Joint K H ((vs ++ wv).zip (ds ++ dw) ++ rs) ∧ outOk K (m (ds ++ dw)) (n + wv.length) (vs ++ wv) rs Q E
section
variable {P : Program} {w : World} {K : PySem.W.Frag} {mg : Str → Option Value} {base : Heap} {N nps fr : List Str} {F : NF} {f : Addr} {k : Nat} {mask : List Bool} {fb : SM}
end
end WF
namespace WF
open PySem PySem.Spec PyProof.Rows L2 NdefX
def gmF (g : Fn) (dw : List D) : Fn := fun ds => match g (ds ++ dw) with
  | some (o, ds') => if ds'.length = ds.length + dw.length then some (o, ds'.take ds.length) else none
  | none => none
structure Clo (X : Cx) (c : Cfg) (y : Str) (n : Nat) (gm : Fn) : Prop where
  pe : ∀ {p pos : Pos} {e : Expr} {es : List Expr} {as : List Ar}, PA X (e :: es) (tArgsA c as) → as.length = n → starEach (e :: es) X.env = (false, eval e X.env) :: starEach es X.env → (backTo pos (starEach es X.env)).any (·.1) = false →
    PE X (.Call (.Name y p) (e :: es) [] pos) (T c (callM gm as))
section
variable {X : Cx} {c : Cfg} {y : Str} {n : Nat} {gm : Fn}
end
structure GetsOk (P : Program) (w : World) (K : PySem.W.Frag) (mg : Str → Option Value) (base : Heap) (k : Nat) (fsl : Addr) (fd : FuncData) (ps : List Str) (n i : Nat) (m : Fn → Fn) : Prop where
  run : ∀ {A : Around} {outer : List Env} {s : Shared} {H : Hp} {args : Args} {us : List Value} {vs : List V} {Q : VK} {E : XK} {F : NF} {f : Addr} {nps fr : List Str} {wv : List V} {ds dw : List D} {rs : List Pr} {g : Fn} {k1 : Nat},
    Room (k + 1) A → Env0 P w K mg base A outer s H → BindsTo s fd args (ps.zip us) → Vals vs us → vs.length = ps.length → NOk P w K mg base (L2.CX P w) k1 f F nps fr (spN K n g) → k1 ≤ k → CellsAt F.cl fr (wv.map some) s.heap H →
    (∀ y c, F.cl.lookup y = some c → c ∉ frs outer) → vs[i]? = some (.ref f) → H f = some (FnO f F) → H F.c = some (LamX.CodeO F.c F.qual) → ds.length = ps.length → D.frzs dw = dw → dw.length = wv.length → Joint K H (vs.zip ds ++ (wv.zip dw ++ rs)) →
    outOk K (m (gmF g dw) ds) ps.length vs (wv.zip dw ++ rs) Q E → codeAny (model P w) A (.call (.ref fsl) args) (CR (L2.CX P w) outer P w H s Q E) s
section
variable {P : Program} {w : World} {K : PySem.W.Frag} {mg : Str → Option Value} {base : Heap}
end
def capD (S : S0) : List Nat → Option (List D)
  | [] => some []
  | i :: r => match S[i]? with
    | some d => if isUn d then none else (capD S r).map (d.frz :: ·)
    | none => none
def frzAt (S : S0) : List Nat → S0
  | [] => S
  | i :: r => (frzAt S r).set i ((S.getD i .un).frz)
def cloM (m : Fn → Fn) (g : Fn) (cap : List Nat) (fe : EM) : EM := bindM fe fun d S => match capD S cap with
  | some dw => (match m (gmF g dw) [d, .un] with
    | some (o, ds') => if ds'.length = 2 then some (o, frzAt S cap) else none
    | none => none)
  | none => none
def cloS (i : Nat) (m : Fn → Fn) (g : Fn) (cap : List Nat) (fe : EM) : SM := fun S => retS (cloM m g cap fe) (S.set i .un)
section
variable {c : Cfg} {S : S0} {tm : List Pr} {σ : L2.St} {H : Hp}
end
section
variable {X : Cx} {c : Cfg} {i k n : Nat} {x y : Str} {fsl cc Pt : Addr} {fd : FuncData} {ps nps fr : List Str} {m : Fn → Fn} {g : Fn} {cap : List Nat} {nst : Stmt} {fe : EM} {e : Expr} {npos p q pos pos2 : Pos} {nmf : Nat → Nat → Str} {k1 : Nat}
end
end WF
namespace WF
open PySem PySem.Spec PyProof.Rows L2 NdefX
section
variable {P : Program} {w : World} {K : PySem.W.Frag} {mg : Str → Option Value} {base : Heap}
end
section
variable {K : PySem.W.Frag} {H : Hp}
end
section
variable {c : Cfg} {X : Cx} {k : Nat} {f : Addr} {fd : FuncData} {ps : List Str} {n : Nat} {m : Fn} {x : Str} {p pos : Pos} {e : Expr} {es : List Expr} {as bs : List Ar} {ks : List Str} {kws : List Keyword} {R : List Pr}
variable {ix inv : List Nat} {dvs : List V} {dd : List D} {its : List Value}
end
theorem wE_cl {m : Fn → Fn} {g : Fn} {cap : List Nat} {d : D} {S : S0} {Q : D → S0 → Prop} : wE (fun S => match capD S cap with
    | some dw => (match m (gmF g dw) [d, .un] with
      | some (o, ds') => if ds'.length = 2 then some (o, frzAt S cap) else none
      | none => none)
    | none => none) S Q ↔ ∃ dw, capD S cap = some dw ∧ wF (m (gmF g dw)) [d, .un] fun r ds => ds.length = 2 ∧ Q r (frzAt S cap) := by
  unfold wE wF
  show WF0.oE _ Q ↔ ∃ dw, _ ∧ WF0.oE _ _
  cases h : capD S cap with
  | none => simp [WF0.oE, h]
  | some dw =>
    cases h2 : m (gmF g dw) [d, .un] with
    | none => simp [WF0.oE, h, h2]
    | some o =>
      obtain ⟨o, ds'⟩ := o
      by_cases hl : ds'.length = 2
      · cases o <;> simp [WF0.oE, h, h2, hl]
      · cases o <;> simp [WF0.oE, h, h2, hl]
@[simp] theorem wS_clo {i : Nat} {m : Fn → Fn} {g : Fn} {cap : List Nat} {fe : EM} {S : S0} {Q : Fl → S0 → Prop} : wS (cloS i m g cap fe) S Q ↔ wE fe (S.set i .un) fun d S => ∃ dw, capD S cap = some dw ∧ wF (m (gmF g dw)) [d, .un] fun r ds => ds.length = 2 ∧ Q (.rt r) (frzAt S cap) := by
  have e : wS (cloS i m g cap fe) S Q ↔ wS (retS (cloM m g cap fe)) (S.set i .un) Q := by
    unfold wS
    exact Iff.rfl
  rw [e, wS_ret, cloM, wE_bind]
  have e2 : (fun d S => wE ((fun d S => match capD S cap with
    | some dw => (match m (gmF g dw) [d, .un] with
      | some (o, ds') => if ds'.length = 2 then some (o, frzAt S cap) else none
      | none => none)
    | none => none) d) S fun d S => Q (.rt d) S) = fun d S => ∃ dw, capD S cap = some dw ∧ wF (m (gmF g dw)) [d, .un] fun r ds => ds.length = 2 ∧ Q (.rt r) (frzAt S cap) := by
    funext d S
    exact propext wE_cl
  exact Iff.of_eq (congrArg (fun q => wE fe (S.set i .un) q) e2)
end WF
namespace WC
open WF PySem
noncomputable def b__law_draw (m : Fn) : SM := (seqM (ifS (roM (op2 gtD) [.v (hasM 0 (ixS 0 (retM (.int 0)))), .v (retM (.int 0))]) (seqM (asgM (cbM divmodD [(hasM 0 (ixS 0 (retM (.int 0)))), (varM 1)]) (gTupM 2 (gConsM (gSubM 0 (retM (.int 0))) (gConsM (gSetM 2) gNilM))))
    (retS (takeM 2))) skipM)
    (seqM (ifS (roM (op2 gtD) [.s 1, .v (binM powD (retM (.int 10)) (retM (.int 7)))]) (retS (binM modD (binM addD (callM m [.s 0, .v (frzM (binM powD (retM (.int 10)) (retM (.int 7))))]) (binM mulD2 (binM powD (retM (.int 10)) (retM (.int 7))) (callM m [.s 0, .v (frzM (binM addD (binM fdivD (binM subD (varM 1) (retM (.int 1))) (binM powD (retM (.int 10)) (retM (.int 7)))) (retM (.int 1))))]))) (varM 1))) skipM)
    (seqM (asgM (binM addD (hasM 0 (ixS 0 (retM (.int 2)))) (retM (.int 1))) (gSubM 0 (retM (.int 2))))
    (seqM (asgM (binM addD (retM (.int 69621)) (binM mulD2 (hasM 0 (ixS 0 (retM (.int 2)))) (hasM 0 (ixS 0 (retM (.int 2)))))) (gSetM 3))
    (seqM (asgM (binM modD (binM mulD2 (binM addD (hasM 0 (ixS 0 (retM (.int 1)))) (binM mulD2 (retM (.int 39373)) (hasM 0 (ixS 0 (retM (.int 2)))))) (varM 3)) (retM (.int 2147483587))) (gSetM 4))
    (seqM (asgM (binM modD (binM addD (binM mulD2 (varM 4) (binM addD (binM modD (varM 4) (retM (.int 30011))) (retM (.int 5)))) (hasM 0 (ixS 0 (retM (.int 2))))) (retM (.int 2147483563))) (gSetM 5))
    (retS (binM modD (binM fdivD (binM modD (binM mulD2 (varM 5) (binM addD (binM modD (varM 5) (retM (.int 1013))) (retM (.int 3)))) (retM (.int 998244353))) (retM (.int 16))) (varM 1)))))))))
noncomputable def m__law_draw : Nat → Fn
  | 0 => fun _ => none
  | n + 1 => defM [true, true] 6 (b__law_draw (m__law_draw n))
noncomputable def b__law_fold : SM := (seqM (asgM (cbM listD [(sliceM (varM 0) none (some (varM 1)))]) (gSetM 2))
    (seqM (forM (walkM enumD [.v (sliceM (varM 0) (some (varM 1)) (some (retM (.int 63))))]) (gTupM 2 (gConsM (gSetM 3) (gConsM (gSetM 4) gNilM)))
    (asgM (binM addD (hasM 2 (ixS 2 (binM modD (varM 3) (varM 1)))) (binM mulD2 (varM 4) (binM addD (varM 3) (retM (.int 2))))) (gSubM 2 (binM modD (varM 3) (varM 1)))))
    (retS (takeM 2))))
noncomputable def m__law_fold : Fn := defM [true, true] 5 b__law_fold
noncomputable def b__law_stream : SM := (seqM (asgM (ifM (roM (op2 ltD) [.s 1, .v (roM lenD [.s 0])]) (hasM 0 (ixS 0 (varM 1))) (retM (.int 0))) (gSetM 2))
    (retS (lstM [(binM mulD2 (roM absD [.s 2]) (roM intD1 [.v (roM (op2 geD) [.v (roM absD [.s 2]), .v (binM powD (retM (.int 10)) (retM (.int 18)))])])), (binM modD (binM mulD2 (binM addD (binM addD (binM modD (varM 2) (retM (.int 2147483629))) (binM mulD2 (retM (.int 32452843)) (varM 1))) (retM (.int 61))) (retM (.int 48271))) (retM (.int 2147483647))), (retM (.int 0))])))
noncomputable def m__law_stream : Fn := defM [true, true] 3 b__law_stream
end WC
namespace WF
open PySem PySem.Spec PyProof.Rows L2
end WF
namespace WF
open PySem PySem.Spec PyProof.Rows L2
section
variable {X : Cx}
end
end WF
namespace WF
open PySem PySem.Spec PyProof.Rows L2
def dctL (own : List Nat) (g : GM) (fk fv : EM) : List D → S0 → D → Option (D × S0)
  | [], S, acc => some (acc, S)
  | d :: ds, S, acc => match g d S with
    | none => none
    | some S1 => match fk S1 with
      | some (.ok k, S2) => match fv S2 with
        | some (.ok v, S3) => match dPutD acc k v with
          | some acc' => dctL own g fk fv ds (wipeS S3 own) acc'
          | none => none
        | _ => none
      | _ => none
def dctM (own : List Nat) (fi : IM) (g : GM) (fk fv : EM) : EM := fun S => match fi S with
  | some (.ok ds lent, S1) => if own.all (fun k => decide (k < S1.length)) then match dctL own g fk fv ds (wipeS S1 own) (.dtk true [] []) with
      | some (acc, S2) => some (.ok acc, restS lent (backS S1 S2 own))
      | none => none
    else none
  | some (.ex x, S1) => some (.ex x, S1)
  | none => none
section
variable {c : Cfg} {X : Cx} {σ : L2.St} {H : Hp} {own : List Nat}
end
end WF
namespace WF
open PySem PySem.Spec PyProof.Rows L2
def sortTK : List D → Option D
  | [.dtk _ ks xs] => if D.imms xs = true ∨ D.purs xs = true then (ksI ks).bind fun kss => if kss.all (fun k => !k.isEmpty) = true then some (.lst true ((sortT kss).map tpD)) else none else none
  | _ => none
@[simp] theorem sortTK_dtk {o : Bool} {ks : List (List Key)} {xs : List D} : sortTK [.dtk o ks xs] = if D.imms xs = true ∨ D.purs xs = true then (ksI ks).bind fun kss => if kss.all (fun k => !k.isEmpty) = true then some (.lst true ((sortT kss).map tpD)) else none else none := rfl
end WF
namespace WF
open PySem PySem.Spec PyProof.Rows L2
section
variable {KK : Type} [DecidableEq KK] {prog : Program} {w : World} {knd : HeapKind prog w KK}
end
def dtkS (i : Nat) (f : EM) : EM := fun S => match S[i]? with
  | some (.dtk true _ _) => f S
  | _ => none
section
variable {c : Cfg} {X : Cx} {S : S0} {tm tm0 : List Pr} {σ : L2.St} {H : Hp} {i : Nat} {e : Expr} {fk : EM}
end
end WF
namespace WF
open PySem PySem.Spec PyProof.Rows L2
section
variable {c : Cfg} {X : Cx} {σ : L2.St} {H : Hp} {r : List V → Hp → VK → Prop} {op : List D → Option D} {as : List Ar} {e : Expr} {es : List Expr} {x : Str} {id : String} {p pos : Pos}
end
end WF
namespace WF
open PySem PySem.Spec PyProof.Rows L2
def wD (own : List Nat) (g : GM) (fk fv : EM) (ds : List D) (S : S0) (acc : D) (Q : D → S0 → Prop) : Prop := match dctL own g fk fv ds S acc with
  | some (a, S') => Q a S'
  | none => False
section
variable {own : List Nat} {fi : IM} {g : GM} {fk fv : EM} {S : S0} {i : Nat} {Q : D → S0 → Prop}
@[simp] theorem wE_dct : wE (dctM own fi g fk fv) S Q ↔ wI fi S fun ds l S1 => own.all (fun k => decide (k < S1.length)) = true ∧ wD own g fk fv ds (wipeS S1 own) (.dtk true [] []) fun acc S2 => Q acc (restS l (backS S1 S2 own)) := by
  unfold wE wI
  simp only [WF0.wE, dctM, WF0.wI, wD]
  match fi S with
  | none => exact Iff.rfl
  | some (.ex _, _) => exact Iff.rfl
  | some (.ok ds l, S1) =>
    simp only [WF0.oI]
    by_cases h : own.all (fun k => decide (k < S1.length)) = true
    · simp only [h, if_true, true_and]
      match dctL own g fk fv ds (wipeS S1 own) (.dtk true [] []) with
      | none => exact Iff.rfl
      | some (acc, S2) => exact Iff.rfl
    · simp [h, WF0.oE]
@[simp] theorem wE_dtkS {f : EM} {ks : List (List Key)} {xs : List D} (h : S[i]? = some (.dtk true ks xs)) : wE (dtkS i f) S Q ↔ wE f S Q := by
  unfold wE
  simp only [WF0.wE, dtkS, h]
end
end WF
namespace WF
open PySem PySem.Spec PyProof.Rows L2
structure IterV (K : PySem.W.Frag) (J : It) (hold : Nat → List Pr) (ds : List D) : Prop where
  go : ∀ i H L, i < ds.length → Joint K H (hold i ++ L) → J.go i H
  yld : ∀ i H L d x H', ds[i]? = some d → Joint K H (hold i ++ L) → J.yld i H x H' → Joint K H' ((x, d) :: (hold (i + 1) ++ L))
  stop : ∀ H L, Joint K H (hold ds.length ++ L) → J.stop ds.length H
section
variable {c : Cfg} {X : Cx} {S : S0} {tm tm0 : List Pr} {σ σ2 : L2.St} {H : Hp} {own : List Nat}
end
section
variable {K : PySem.W.Frag} {G H H' : Hp} {R L : List Pr} {p q : Addr} {ds xs : List D} {vs : List V} {v : V} {d : D} {m : Nat}
theorem at_perm {α : Type} : ∀ {l : List α} {a : Nat} {x : α}, l[a]? = some x → ∃ Z, l.Perm (x :: Z) ∧ ∀ y, (l.set a y).Perm (y :: Z)
  | x :: l, 0, y, h => by cases h; exact ⟨l, .refl _, fun _ => .refl _⟩
  | x :: l, a + 1, y, h => by
    obtain ⟨Z, p1, p2⟩ := at_perm (l := l) (a := a) (x := y) (by simpa using h)
    exact ⟨x :: Z, (List.Perm.cons _ p1).trans (List.Perm.swap _ _ _), fun z => (List.Perm.cons _ (p2 z)).trans (List.Perm.swap _ _ _)⟩
  | [], _, _, h => by simp at h
def rowI : D → Option (List Int)
  | .lst true xs => intsD xs
  | _ => none
def rowsI : List D → Option (List (List Int))
  | [] => some []
  | d :: ds => (rowI d).bind fun r => (rowsI ds).map (r :: ·)
def nestI : D → Option (List (List Int))
  | .lst true ds => rowsI ds
  | _ => none
def rwD (r : List Int) : D := .lst true (r.map .int)
theorem rowsI_map : ∀ {rs : List (List Int)}, rowsI (rs.map rwD) = some rs
  | [] => rfl
  | r :: rs => by
    have e : rowI (rwD r) = some r := by
      show intsD (r.map .int) = some r
      induction r with
      | nil => rfl
      | cons a r ih => rw [List.map_cons, intsD, ih]; rfl
    rw [List.map_cons, rowsI, e, rowsI_map]; rfl
theorem Joint.rows {rs : List (List Int)} (j : Joint K H ((v, .lst true (rs.map rwD)) :: R)) : ∃ p vs, v = .ref p ∧ H p = some (.lst vs) ∧ vs.length = rs.length ∧ ∀ (k : Nat) u r, vs[k]? = some u → rs[k]? = some r → ∃ q, u = .ref q ∧ H q = some (.lst (r.map V.int)) := by
  obtain ⟨p, rfl⟩ := j.is_lst
  obtain ⟨vs, hp, hl, k⟩ := j.unlst
  refine ⟨p, vs, rfl, hp, by simpa using hl, fun i u r hu hr => ?_⟩
  have hz : (vs.zip (rs.map rwD))[i]? = some (u, rwD r) := by
    rw [List.getElem?_zip_eq_some, List.getElem?_map, hr]; exact ⟨hu, rfl⟩
  obtain ⟨Z, p1, _⟩ := at_perm hz
  have k2 : Joint K H ((u, rwD r) :: (Z ++ R)) := k.perm (List.Perm.append_right R p1)
  obtain ⟨q, rfl⟩ := k2.is_lst
  obtain ⟨ws, hq, lw, k3⟩ := k2.unlst
  refine ⟨q, rfl, ?_⟩
  rw [hq]
  congr 2
  have key : ∀ {ws : List V} {r : List Int} {Z : List Pr}, ws.length = (r.map D.int).length → Joint K H (ws.zip (r.map D.int) ++ Z) → ws = r.map V.int := fun {ws} {r} {Z} hl k => by
    induction ws generalizing r with
    | nil => cases r with | nil => rfl | cons _ _ => simp at hl
    | cons w ws ih => cases r with
      | nil => simp at hl
      | cons a r =>
        have k : Joint K H ((w, D.int a) :: (ws.zip (r.map D.int) ++ Z)) := k
        rw [k.is_int, ih (by simpa using hl) k.drop]; rfl
  exact key lw k3
theorem Joint.ne {ys : List D} (j : Joint K H ((.ref q, .lst true xs) :: (.ref p, .lst true ys) :: R)) : q ≠ p := by
  obtain ⟨G, fp, g, r, n, z⟩ := j
  cases r with
  | @lo q C vs ds f L fp2 a b e r1 r2 =>
    cases r2 with
    | @lo p C2 vs2 ds2 f2 L2 fp3 a2 b2 e2 r3 r4 =>
      intro e
      subst e
      exact (List.nodup_cons.mp n).1 (List.mem_append_right _ List.mem_cons_self)
end
end WF
namespace WF
open PySem PySem.Spec PyProof.Rows L2
def mvI (i : Nat) : IM := fun S => match S[i]? with
  | some (.lst true ds) => some (.ok ds [], S.set i .un)
  | _ => none
def nixM (i : Nat) (a b : Int) : EM := fun S => match S[i]? with
  | some d => match (nestI d).bind fun rs => (atI rs a).bind fun r => atI r b with
    | some n => some (.ok (.int n), S)
    | none => none
  | none => none
def gSub2M (i a b : Nat) : GM := fun d S => match S[i]? with
  | some (.lst true ds) => match ds[a]? with
    | some (.lst true xs) => if b < xs.length then some (S.set i (.lst true (ds.set a (.lst true (xs.set b d))))) else none
    | _ => none
  | _ => none
def ixAll (k : Int) : List (List Int) → Option (List Int)
  | [] => some []
  | r :: rs => (atI r k).bind fun n => (ixAll k rs).map (n :: ·)
def mapIxM (i : Nat) (k : Int) : EM := fun S => match S[i]? with
  | some d => match (nestI d).bind fun rs => if rs.length < 1000000 then ixAll k rs else none with
    | some ns => some (.ok (.lst true (ns.map .int)), S)
    | none => none
  | none => none
section
variable {c : Cfg} {X : Cx} {S : S0} {tm tm0 : List Pr} {σ : L2.St} {H : Hp} {i : Nat} {e tg : Expr} {pos : Pos}
end
end WF
namespace WF
open PySem PySem.Spec PyProof.Rows L2
def asLo : D → Option (List D)
  | .lst true ds => some ds
  | _ => none
def set2 (a b : Nat) (d : D) : D → Option D
  | .lst true ds => match ds[a]? with
    | some (.lst true xs) => if b < xs.length then some (.lst true (ds.set a (.lst true (xs.set b d)))) else none
    | _ => none
  | _ => none
def mapIx (k : Int) (d : D) : Option (List Int) := (nestI d).bind fun rs => if rs.length < 1000000 then ixAll k rs else none
section
variable {S : S0} {Q : D → S0 → Prop} {i a b : Nat}
@[simp] theorem nestI_rw {rs : List (List Int)} : nestI (.lst true (rs.map rwD)) = some rs := rowsI_map
@[simp] theorem asLo_lst {ds : List D} : asLo (.lst true ds) = some ds := rfl
@[simp] theorem wI_mv {QI : List D → List (Nat × D) → S0 → Prop} : wI (mvI i) S QI ↔ rd (S[i]?.bind asLo) fun ds => QI ds [] (S.set i .un) := by
  unfold wI rd
  show WF0.oI (mvI i S) QI ↔ _
  unfold mvI
  cases h : S[i]? with
  | none => simp [WF0.oI, WF0.rd]
  | some d => cases d with
    | lst o ds => cases o <;> simp [asLo, WF0.oI, WF0.rd]
    | _ => simp [asLo, WF0.oI, WF0.rd]
@[simp] theorem wE_nix {a b : Int} : wE (nixM i a b) S Q ↔ rd (S[i]?.bind fun d => (nestI d).bind fun rs => (atI rs a).bind fun r => atI r b) fun n => Q (.int n) S := by
  unfold wE rd
  show WF0.oE (nixM i a b S) Q ↔ _
  unfold nixM
  cases h : S[i]? with
  | none => simp [WF0.oE, WF0.rd]
  | some d =>
    simp only [Option.bind_some]
    cases h2 : ((nestI d).bind fun rs => (atI rs a).bind fun r => atI r b) <;> simp [WF0.oE, WF0.rd]
@[simp] theorem wE_mapIx {k : Int} : wE (mapIxM i k) S Q ↔ rd (S[i]?.bind (mapIx k)) fun ns => Q (.lst true (ns.map .int)) S := by
  unfold wE rd
  show WF0.oE (mapIxM i k S) Q ↔ _
  unfold mapIxM
  cases h : S[i]? with
  | none => simp [WF0.oE, WF0.rd]
  | some d =>
    simp only [Option.bind_some]
    show WF0.oE (match mapIx k d with
      | some ns => some (.ok (.lst true (ns.map .int)), S)
      | none => none) Q ↔ _
    cases h2 : mapIx k d <;> simp [WF0.oE, WF0.rd]
@[simp] theorem wG_sub2 {d : D} {QG : S0 → Prop} : wG (gSub2M i a b) d S QG ↔ rd (S[i]?.bind (set2 a b d)) fun x => QG (S.set i x) := by
  unfold wG rd
  show WF0.oG (gSub2M i a b d S) QG ↔ _
  unfold gSub2M set2
  cases h : S[i]? with
  | none => simp [WF0.oG, WF0.rd]
  | some x => cases x with
    | lst o ds =>
      cases o with
      | false => simp [WF0.oG, WF0.rd]
      | true =>
        simp only [Option.bind_some]
        cases h2 : ds[a]? with
        | none => simp [WF0.oG, WF0.rd]
        | some y => cases y with
          | lst o xs => cases o with
            | false => simp [WF0.oG, WF0.rd]
            | true => by_cases hb : b < xs.length <;> simp [hb, WF0.oG, WF0.rd]
          | _ => simp [WF0.oG, WF0.rd]
    | _ => simp [WF0.oG, WF0.rd]
end
end WF
namespace WF
open PySem PySem.Spec PyProof.Rows L2
def cntD : D → D → Option D
  | .lst _ xs, .int k => (intsD xs).map fun ns => .int (ns.count k : Nat)
  | _, _ => none
def cntM (i : Nat) (fk : EM) : EM := lstS i (bindM fk fun k S => match S[i]? with
  | some d => match cntD d k with
    | some r => some (.ok r, S)
    | none => none
  | none => none)
def insM (i : Nat) (fk fy : EM) : EM := lstS i (bindM fk fun k => bindM fy fun y => modS i fun xs => match k with
  | .int k => if xs.length < 1000000 ∧ 0 ≤ k ∧ k < 2 ^ 62 then some (.non, xs.take k.toNat ++ [y] ++ xs.drop k.toNat) else none
  | _ => none)
section
variable {c : Cfg} {X : Cx} {S : S0} {tm tm0 : List Pr} {σ : L2.St} {H : Hp} {i : Nat} {e : Expr} {fk fy : EM}
end
section
variable {S : S0} {Q : D → S0 → Prop} {i : Nat} {fk fy : EM}
def isL : D → Option Unit
  | .lst _ _ => some ()
  | _ => none
def insD (k y : D) : D → Option D
  | .lst true xs => match k with
    | .int k => if xs.length < 1000000 ∧ 0 ≤ k ∧ k < 2 ^ 62 then some (.lst true (xs.take k.toNat ++ [y] ++ xs.drop k.toNat)) else none
    | _ => none
  | _ => none
@[simp] theorem isL_lst {o : Bool} {xs : List D} : isL (.lst o xs) = some () := rfl
theorem lstS_rd {f : EM} : wE (lstS i f) S Q ↔ rd (S[i]?.bind isL) fun _ => wE f S Q := by
  unfold wE rd
  simp only [WF0.wE, lstS]
  cases h : S[i]? with
  | none => simp [WF0.rd, WF0.oE]
  | some d => cases d <;> simp [isL, WF0.rd, WF0.oE]
@[simp] theorem wE_cnt : wE (cntM i fk) S Q ↔ rd (S[i]?.bind isL) fun _ => wE fk S fun k S => rd (S[i]?.bind fun d => cntD d k) fun r => Q r S := by
  unfold cntM
  rw [lstS_rd]
  have e : ∀ (k : D) (S : S0), wE (fun S => match S[i]? with
    | some d => match cntD d k with
      | some r => some (.ok r, S)
      | none => none
    | none => none) S Q ↔ rd (S[i]?.bind fun d => cntD d k) fun r => Q r S := fun k S => by
    unfold wE rd
    simp only [WF0.wE]
    cases h : S[i]? with
    | none => simp [WF0.rd, WF0.oE]
    | some d =>
      simp only [Option.bind_some]
      cases h2 : cntD d k <;> simp [WF0.rd, WF0.oE]
  exact iff_of_eq (congrArg (fun F => rd (S[i]?.bind isL) fun _ => F) (propext (wE_bind.trans (iff_of_eq (congrArg (fun F => wE fk S F) (funext fun k => funext fun S => propext (e k S)))))))
@[simp] theorem wE_ins : wE (insM i fk fy) S Q ↔ rd (S[i]?.bind isL) fun _ => wE fk S fun k S => wE fy S fun y S => rd (S[i]?.bind (insD k y)) fun d => Q .non (S.set i d) := by
  unfold insM
  rw [lstS_rd]
  have e : ∀ (k y : D) (S : S0), wE (modS i fun xs => match k with
    | .int k => if xs.length < 1000000 ∧ 0 ≤ k ∧ k < 2 ^ 62 then some (.non, xs.take k.toNat ++ [y] ++ xs.drop k.toNat) else none
    | _ => none) S Q ↔ rd (S[i]?.bind (insD k y)) fun d => Q .non (S.set i d) := fun k y S => by
    unfold wE rd
    simp only [WF0.wE, modS]
    cases h : S[i]? with
    | none => simp [WF0.rd, WF0.oE]
    | some d => cases d with
      | lst o xs => cases o with
        | false => simp [insD, WF0.rd, WF0.oE]
        | true => cases k with
          | int k =>
            simp only [insD, Option.bind_some]
            by_cases c : xs.length < 1000000 ∧ 0 ≤ k ∧ k < 2 ^ 62
            · rw [if_pos c, if_pos c]; simp [WF0.rd, WF0.oE]
            · rw [if_neg c, if_neg c]; simp [WF0.rd, WF0.oE]
          | _ => simp [insD, WF0.rd, WF0.oE]
      | _ => simp [insD, WF0.rd, WF0.oE]
  exact iff_of_eq (congrArg (fun F => rd (S[i]?.bind isL) fun _ => F) (propext (wE_bind.trans (iff_of_eq (congrArg (fun F => wE fk S F) (funext fun k => funext fun S => propext (wE_bind.trans (iff_of_eq (congrArg (fun F => wE fy S F) (funext fun y => funext fun S => propext (e k y S)))))))))))
@[simp] theorem cntD_ints {o : Bool} {ns : List Int} {k : Int} : cntD (.lst o (ns.map .int)) (.int k) = some (.int (ns.count k : Nat)) := by
  show (intsD (ns.map .int)).map _ = _
  have : intsD (ns.map .int) = some ns := by
    induction ns with
    | nil => rfl
    | cons a r ih => rw [List.map_cons, intsD, ih]; rfl
  rw [this]; rfl
end
end WF
namespace WF
open PySem PySem.Spec PyProof.Rows L2
structure FnOkG (P : Program) (w : World) (K : PySem.W.Frag) (mg : Str → Option Value) (base : Heap) (CX : CXT) (k : Nat) (f : Addr) (fd : FuncData) (ps : List Str) (sp : Sp) : Prop where
  len : ∀ ws Hp0 QQ EE, sp ws Hp0 QQ EE → ws.length = ps.length
  runG : ∀ (A : Around) (ou : List Env) (s : Shared) (H : Hp) (ar : Args) (us : List Value) (ws : List V) (QQ : VK) (EE : XK), A.guards = some [] → Room k A → Env0 P w K mg base A ou s H → BindsTo s fd ar (ps.zip us) → Vals ws us → sp ws H QQ EE →
    codeAny (model P w) A (.call (.ref f) ar) (CR CX ou P w H s QQ EE) s
section
variable {P : Program} {w : World} {K : PySem.W.Frag} {mg : Str → Option Value} {base : Heap} {CX : CXT}
end
section
variable {P : Program} {w : World} {K : PySem.W.Frag} {mg : Str → Option Value} {base : Heap}
end
section
variable {X : Cx} {c : Cfg} {k n : Nat} {f : Addr} {fd : FuncData} {ps : List Str} {m : Fn} {as : List Ar} {x : Str} {p pos : Pos} {e : Expr} {es : List Expr} {sp : Sp} {E : XK} {t : TA}
end
end WF
namespace WF
open PySem PySem.Spec PyProof.Rows L2
section
variable {prog : Program} {w : World} {A : Around} {E : Value → Shared → Prop} {s : Shared} {i : Nat} {z TI TO : Addr} {qs : List Sr} {old : Array Value} {f1 : Bool} {f0 : Value}
end
section
variable {X : Cx} {c : Cfg} {e e1 e2 : Expr} {es : List Expr} {p pos npos : Pos} {nx : Str} {ta : TA} {y1 y2 : Ar}
end
end WF
namespace WF
open PySem PySem.Spec PyProof.Rows L2
section
variable {prog : Program} {w : World} {A : Around} {E : Value → Shared → Prop} {s : Shared} {Q : Value → Shared → Prop} {l : Addr} {its : List Value} {ns : List Int}
end
end WF
namespace WF
open PySem PySem.Spec PyProof.Rows L2
def oiV : Option Int → V
  | none => .non
  | some n => .int n
def oiE : Option Int → D
  | none => .non
  | some n => .int n
@[simp] theorem oiE_none : oiE none = .non := rfl
@[simp] theorem oiE_some {n : Int} : oiE (some n) = .int n := rfl
def xsO : List D → Option (List (Option Int))
  | [] => some []
  | .int n :: r => (xsO r).map (some n :: ·)
  | .non :: r => (xsO r).map (none :: ·)
  | _ => none
@[simp] theorem xsO_of : ∀ {l : List (Option Int)}, xsO (l.map oiE) = some l
  | [] => rfl
  | none :: l => by
    show (xsO (l.map oiE)).map (none :: ·) = _
    rw [xsO_of]; rfl
  | some n :: l => by
    show (xsO (l.map oiE)).map (some n :: ·) = _
    rw [xsO_of]; rfl
def itK (f : Int × Option Int → D) (i : Nat) : IM := fun S => match S[i]? with
  | some (.dic true ks xs) => (intKeys ks).bind fun kss => (xsO xs).bind fun ns => if kss.length = ns.length then some (.ok ((kss.zip ns).map f) [(i, .dic true ks xs)], S.set i .un) else none
  | _ => none
section
variable {K : PySem.W.Frag} {H H' : Hp} {R : List Pr} {p : Addr} {ns : List (Option Int)} {u : HO}
theorem Joint.oi {v : V} {x : Option Int} (j : Joint K H ((v, oiE x) :: R)) : v = oiV x := by
  cases x with
  | none =>
    have := j.dp (y := .none) rfl
    cases this; rfl
  | some n =>
    have := j.dp (y := .int n) rfl
    cases this; rfl
end
section
variable {c : Cfg} {X : Cx} {S : S0} {tm : List Pr} {σ : L2.St} {H : Hp} {e tg : Expr} {apos cpos : Pos} {i : Nat}
end
def asDK : D → Option (List Key × List D)
  | .dic true ks xs => some (ks, xs)
  | _ => none
@[simp] theorem asDK_dic {ks : List Key} {xs : List D} : asDK (.dic true ks xs) = some (ks, xs) := rfl
@[simp] theorem wI_itK {f : Int × Option Int → D} {i : Nat} {S : S0} {Q : List D → List (Nat × D) → S0 → Prop} : wI (itK f i) S Q ↔ rd ((S[i]?.bind asDK).bind fun p => (intKeys p.1).bind fun kss => (xsO p.2).bind fun ns => if kss.length = ns.length then some ((kss.zip ns).map f, p) else none) fun r => Q r.1 [(i, .dic true r.2.1 r.2.2)] (S.set i .un) := by
  unfold wI rd
  show WF0.oI (itK f i S) Q ↔ _
  unfold itK
  cases h : S[i]? with
  | none => simp [WF0.oI, WF0.rd]
  | some d =>
    cases d with
    | dic o ks xs =>
      cases o with
      | false => simp [WF0.oI, WF0.rd, asDK]
      | true =>
        simp only [Option.bind_some, asDK_dic]
        cases hk : intKeys ks with
        | none => simp [WF0.oI, WF0.rd]
        | some kss =>
          simp only [Option.bind_some]
          cases hn : xsO xs with
          | none => simp [WF0.oI, WF0.rd]
          | some ns =>
            simp only [Option.bind_some]
            by_cases hl : kss.length = ns.length
            · simp [hl, WF0.oI, WF0.rd]
            · simp [hl, WF0.oI, WF0.rd]
    | _ => simp [WF0.oI, WF0.rd, asDK]
end WF
namespace WF
open PySem PySem.Spec PyProof.Rows L2
section
variable {c : Cfg} {X : Cx}
end
end WF
namespace WF
open PySem PySem.Spec PyProof.Rows L2
def compKM (own : List Nat) (i : Nat) (g : GM) (fe : List (List Int × Int) → EM) : EM := fun S => match S[i]? with
  | some (.dtk true ks xs) => match ksI ks, intsD xs with
    | some kss, some ns => compM own (kyI i) g none (fe (kss.zip ns)) S
    | _, _ => none
  | _ => none
def Cfg.hl (c : Cfg) (d : Addr) (o : Obj) (l : List (List Int × Int)) : Cfg := { c with rs := (.ref d, .hld (.frz o (.dT (l.map kvR)))) :: c.rs }
section
variable {c : Cfg} {X : Cx} {S : S0} {tm tm0 tm' : List Pr} {σ σ2 : L2.St} {H : Hp} {own : List Nat} {d : Addr} {o : Obj} {l : List (List Int × Int)}
def hfind (l : List (List Int × Int)) (ks : List Key) : Option D := match valV (l.map kvR) ks with
  | some (.int n) => some (.int n)
  | _ => none
def hgetM (l : List (List Int × Int)) (fk : EM) : EM := bindM fk fun k => optM ((keyT k).bind fun ks => hfind l ks)
end
@[simp] theorem wE_compKM {own : List Nat} {i : Nat} {g : GM} {fe : List (List Int × Int) → EM} {S : S0} {Q : D → S0 → Prop} : wE (compKM own i g fe) S Q ↔ rd ((S[i]?.bind asDT).bind fun p => (ksI p.1).bind fun kss => (intsD p.2).bind fun ns => some (kss.zip ns)) fun l => wE (compM own (kyI i) g none (fe l)) S Q := by
  unfold wE rd
  show WF0.oE (compKM own i g fe S) Q ↔ _
  unfold compKM
  cases h : S[i]? with
  | none => simp [WF0.oE, WF0.rd]
  | some d =>
    cases d with
    | dtk o ks xs =>
      cases o with
      | false => simp [WF0.oE, WF0.rd, asDT]
      | true =>
        simp only [Option.bind_some, asDT_dtk]
        cases hk : ksI ks with
        | none => simp [WF0.oE, WF0.rd]
        | some kss =>
          cases hn : intsD xs with
          | none => simp [WF0.oE, WF0.rd]
          | some ns => simp [WF0.rd, WF0.wE]
    | _ => simp [WF0.oE, WF0.rd, asDT]
@[simp] theorem wE_hget {l : List (List Int × Int)} {fk : EM} {S : S0} {Q : D → S0 → Prop} : wE (hgetM l fk) S Q ↔ wE (bindM fk fun k => optM ((keyT k).bind fun ks => hfind l ks)) S Q := Iff.rfl
end WF
namespace WF
open PySem PySem.Spec PyProof.Rows L2
section
variable {X : Cx} {pins : List (Addr × Obj)} {σ : L2.St} {A : Around} {z TI TO : Addr} {ts : List Addr} {xs : List (Addr × Bool)}
end
section
variable {X : Cx} {c : Cfg} {pins : List (Addr × Obj)} {σ : L2.St} {A1 : Around} {z TI TO q : Addr} {ts : List Addr} {xs : List (Addr × Bool)} {S1 : S0} {tm hold : List Pr} {rows : List D} {Rs : Result → Shared → Prop}
end
def listZM (comb : List (List D) → Option (List D)) (as : List Ar) : EM := fun S => match walkM comb as S with
  | some (.ok rows [], S1) => if rows.length ≤ 1000000 then some (.ok (.lst true rows), S1) else none
  | _ => none
section
variable {X : Cx} {c : Cfg} {e e1 e2 e3 : Expr} {es : List Expr} {p pos p2 pos2 : Pos} {as : List Ar} {y1 y2 y3 : Ar} {comb : List (List D) → Option (List D)}
end
@[simp] theorem wE_listZM {comb : List (List D) → Option (List D)} {as : List Ar} {S : S0} {Q : D → S0 → Prop} : wE (listZM comb as) S Q ↔ wI (walkM comb as) S fun rows lent S1 => lent = [] ∧ rows.length ≤ 1000000 ∧ Q (.lst true rows) S1 := by
  unfold wE wI
  show WF0.oE (listZM comb as S) Q ↔ WF0.oI (walkM comb as S) _
  unfold listZM
  cases h : walkM comb as S with
  | none => simp [WF0.oE, WF0.oI]
  | some o =>
    obtain ⟨o, S1⟩ := o
    cases o with
    | ex x => simp [WF0.oE, WF0.oI]
    | ok rows lent =>
      cases lent with
      | nil =>
        by_cases hl : rows.length ≤ 1000000
        · simp [hl, WF0.oE, WF0.oI]
        · simp [hl, WF0.oE, WF0.oI]
      | cons _ _ => simp [WF0.oE, WF0.oI]
end WF
namespace WF
open PySem PySem.Spec PyProof.Rows L2
section
variable {c : Cfg} {X : Cx} {e : Expr} {fe : EM} {p p2 q pos : Pos}
end
end WF
namespace WF
open PySem PySem.Spec PyProof.Rows L2
abbrev TbN := Addr × (Nat → Nat → Str)
structure Pins (K : PySem.W.Frag) (G H : Hp) (L : List Pr) (fp U F : List Addr) (T : List TbN) : Prop where
  pm : fp.Perm (F ++ T.map Prod.fst)
  u : ∀ a ∈ U, ∃ u, G a = some u ∧ ∀ ps, u ≠ .tbl ps
  o : ∀ a ∈ F, ∃ u, H a = some u ∧ HldOk u
  t : ∀ x ∈ T, TabG G H x.1 x.2
  back : ∀ G2 H2 : Hp, (∀ a ∈ U, G2 a = G a) → (∀ a ∈ F, H2 a = H a) → (∀ x ∈ T, TabG G2 H2 x.1 x.2) → Reps K G2 H2 L fp
  fz : ∀ G2 H2 : Hp, (∀ a ∈ U, G2 a = G a) → (∀ a ∈ F, G2 a = H a) → Reps K G2 H2 (L.map fun x => (x.1, x.2.frz)) []
section
variable {K : PySem.W.Frag} {G H : Hp} {C L L' : List Pr} {f fp U1 F1 U2 F2 : List Addr} {T1 T2 : List TbN}
theorem Pins.none : Pins K G H [] [] [] [] [] where
  pm := .refl _
  u := fun _ m => nomatch m
  o := fun _ m => nomatch m
  t := fun _ m => nomatch m
  back := fun _ _ _ _ _ => .nil
  fz := fun _ _ _ _ => .nil
theorem Pins.mk2 (P1 : Pins K G H C f U1 F1 T1) (P2 : Pins K G H L fp U2 F2 T2) (E W : List Addr) (hE : ∀ a ∈ E, ∃ u, G a = some u ∧ ∀ ps, u ≠ .tbl ps) (hW : ∀ a ∈ W, ∃ u, H a = some u ∧ HldOk u)
    (back : ∀ G2 H2 : Hp, (∀ a ∈ E, G2 a = G a) → (∀ a ∈ W, H2 a = H a) → Reps K G2 H2 C f → Reps K G2 H2 L fp → Reps K G2 H2 L' (W ++ (f ++ fp)))
    (fz : ∀ G2 H2 : Hp, (∀ a ∈ E, G2 a = G a) → (∀ a ∈ W, G2 a = H a) → Reps K G2 H2 (C.map fun x => (x.1, x.2.frz)) [] → Reps K G2 H2 (L.map fun x => (x.1, x.2.frz)) [] → Reps K G2 H2 (L'.map fun x => (x.1, x.2.frz)) []) :
    ∃ U F T, Pins K G H L' (W ++ (f ++ fp)) U F T := by
  refine ⟨E ++ (U1 ++ U2), W ++ (F1 ++ F2), T1 ++ T2, ?_, fun a m => ?_, fun a m => ?_, fun x m => ?_, fun G2 H2 h1 h2 h3 => ?_, fun G2 H2 h1 h2 => ?_⟩
  · rw [List.append_assoc]
    refine List.Perm.append_left _ ((P1.pm.append P2.pm).trans ?_)
    rw [List.map_append]
    exact List.perm_iff_count.mpr fun a => by simp only [List.count_append]; omega
  · rcases List.mem_append.mp m with m | m
    · exact hE a m
    · rcases List.mem_append.mp m with m | m
      · exact P1.u a m
      · exact P2.u a m
  · rcases List.mem_append.mp m with m | m
    · exact hW a m
    · rcases List.mem_append.mp m with m | m
      · exact P1.o a m
      · exact P2.o a m
  · rcases List.mem_append.mp m with m | m
    · exact P1.t x m
    · exact P2.t x m
  · refine back G2 H2 (fun a m => h1 a (List.mem_append_left _ m)) (fun a m => h2 a (List.mem_append_left _ m)) (P1.back G2 H2 (fun a m => h1 a ?_) (fun a m => h2 a ?_) fun x m => h3 x (List.mem_append_left _ m)) (P2.back G2 H2 (fun a m => h1 a ?_) (fun a m => h2 a ?_) fun x m => h3 x (List.mem_append_right _ m)) <;> simp [m]
  · refine fz G2 H2 (fun a m => h1 a (List.mem_append_left _ m)) (fun a m => h2 a (List.mem_append_left _ m)) (P1.fz G2 H2 (fun a m => h1 a ?_) fun a m => h2 a ?_) (P2.fz G2 H2 (fun a m => h1 a ?_) fun a m => h2 a ?_) <;> simp [m]
theorem hk_lst {xs : List V} : HldOk (.lst xs) := ⟨(fun _ e => by cases e), (fun _ e => by cases e), (fun _ e => by cases e), (fun _ e => by cases e)⟩
theorem hk_dK {xs : List (Key × V)} : HldOk (.dK xs) := ⟨(fun _ e => by cases e), (fun _ e => by cases e), (fun _ e => by cases e), (fun _ e => by cases e)⟩
theorem hk_dT {xs : List (List Key × V)} : HldOk (.dT xs) := ⟨(fun _ e => by cases e), (fun _ e => by cases e), (fun _ e => by cases e), (fun _ e => by cases e)⟩
theorem hk_ins {a : Addr} {dx : Addr} {kvs : List (Str × V)} : HldOk (.ins a dx kvs) := ⟨(fun _ e => by cases e), (fun _ e => by cases e), (fun _ e => by cases e), (fun _ e => by cases e)⟩
theorem hk_own {a : Addr} : HldOk (.own a) := ⟨(fun _ e => by cases e), (fun _ e => by cases e), (fun _ e => by cases e), (fun _ e => by cases e)⟩
theorem e1_of {p : Addr} {u : HO} (h : G p = some u) (n : ∀ ps, u ≠ .tbl ps) : ∀ a ∈ [p], ∃ u, G a = some u ∧ ∀ ps, u ≠ .tbl ps := fun a m => by
  rw [List.mem_singleton.mp m]; exact ⟨u, h, n⟩
theorem w1_of {p : Addr} {u : HO} (h : H p = some u) (n : HldOk u) : ∀ a ∈ [p], ∃ u, H a = some u ∧ HldOk u := fun a m => by
  rw [List.mem_singleton.mp m]; exact ⟨u, h, n⟩
theorem nl_of {P : Addr → Prop} : ∀ a ∈ ([] : List Addr), P a := fun _ m => nomatch m
theorem m1 {C : List Pr} {vs : List V} (e : C.map Prod.fst = vs) : (C.map fun x : Pr => (x.1, x.2.frz)).map Prod.fst = vs := by
  rw [← e, List.map_map]; rfl
theorem m2 {C : List Pr} {ds : List D} (e : C.map Prod.snd = ds) : (C.map fun x : Pr => (x.1, x.2.frz)).map Prod.snd = D.frzs ds := by
  rw [← e, List.map_map, D.frzs_map, List.map_map]; rfl
theorem Reps.pins (r : Reps K G H L fp) : ∃ U F T, Pins K G H L fp U F T := by
  induction r with
  | nil => exact ⟨_, _, _, .none⟩
  | un _ ih => obtain ⟨U, F, T, P⟩ := ih; exact Pins.none.mk2 P [] [] nl_of nl_of (fun _ _ _ _ _ r => .un r) fun _ _ _ _ _ r => .un r
  | non _ ih => obtain ⟨U, F, T, P⟩ := ih; exact Pins.none.mk2 P [] [] nl_of nl_of (fun _ _ _ _ _ r => .non r) fun _ _ _ _ _ r => .non r
  | bl _ ih => obtain ⟨U, F, T, P⟩ := ih; exact Pins.none.mk2 P [] [] nl_of nl_of (fun _ _ _ _ _ r => .bl r) fun _ _ _ _ _ r => .bl r
  | int _ ih => obtain ⟨U, F, T, P⟩ := ih; exact Pins.none.mk2 P [] [] nl_of nl_of (fun _ _ _ _ _ r => .int r) fun _ _ _ _ _ r => .int r
  | str _ ih => obtain ⟨U, F, T, P⟩ := ih; exact Pins.none.mk2 P [] [] nl_of nl_of (fun _ _ _ _ _ r => .str r) fun _ _ _ _ _ r => .str r
  | vl _ ih => obtain ⟨U, F, T, P⟩ := ih; exact Pins.none.mk2 P [] [] nl_of nl_of (fun _ _ _ _ _ r => .vl r) fun _ _ _ _ _ r => .vl r
  | @hld p u L fp q a _ ih =>
    obtain ⟨U, F, T, P⟩ := ih
    exact Pins.none.mk2 P [] [p] nl_of (w1_of a q) (fun _ H2 _ h _ r => .hld q (by rw [h p List.mem_cons_self]; exact a) r) fun _ _ _ _ _ r => .un r
  | @con p u L fp q a _ ih =>
    obtain ⟨U, F, T, P⟩ := ih
    exact Pins.none.mk2 P [p] [] (e1_of a q) nl_of (fun G2 _ h _ _ r => .con q (by rw [h p List.mem_cons_self]; exact a) r) fun G2 _ h _ _ r => .con q (by rw [h p List.mem_cons_self]; exact a) r
  | @tab p nm L fp a _ ih =>
    obtain ⟨U, F, T, P⟩ := ih
    refine ⟨U, F, (p, nm) :: T, ?_, P.u, P.o, fun x m => ?_, fun G2 H2 h1 h2 h3 => .tab (h3 _ List.mem_cons_self) (P.back G2 H2 h1 h2 fun x m => h3 x (List.mem_cons_of_mem _ m)), fun G2 H2 h1 h2 => .un (P.fz G2 H2 h1 h2)⟩
    · rw [List.map_cons]
      exact (P.pm.cons p).trans List.perm_middle.symm
    · rcases List.mem_cons.mp m with rfl | m
      · exact a
      · exact P.t x m
  | @«of» p dx c fs kvs C ds L fp a a2 e b c' _ _ ih1 ih2 =>
    obtain ⟨U1, F1, T1, P1⟩ := ih1
    obtain ⟨U2, F2, T2, P2⟩ := ih2
    refine P1.mk2 P2 [p, dx] [] (fun x m => ?_) nl_of (fun G2 _ h _ r1 r2 => .of (by rw [h p (by simp)]; exact a) (by rw [h dx (by simp)]; exact a2) e b c' r1 r2) fun G2 _ h _ r1 r2 => .of (by rw [h p (by simp)]; exact a) (by rw [h dx (by simp)]; exact a2) e (m1 b) (m2 c') r1 r2
    simp only [List.mem_cons, List.not_mem_nil, or_false] at m
    rcases m with rfl | rfl
    · exact ⟨_, a, fun _ e => by cases e⟩
    · exact ⟨_, a2, fun _ e => by cases e⟩
  | @oo p dx c fs kvs C ds f L fp a a2 e b c' _ _ ih1 ih2 =>
    obtain ⟨U1, F1, T1, P1⟩ := ih1
    obtain ⟨U2, F2, T2, P2⟩ := ih2
    refine P1.mk2 P2 [] [p, dx] nl_of (fun x m => ?_) (fun _ H2 _ h r1 r2 => Reps.oo (f := f) (fp := fp) (by rw [h p (by simp)]; exact a) (by rw [h dx (by simp)]; exact a2) e b c' r1 r2) fun G2 _ _ h r1 r2 => .of (by rw [h p (by simp)]; exact a) (by rw [h dx (by simp)]; exact a2) e (m1 b) (m2 c') r1 r2
    simp only [List.mem_cons, List.not_mem_nil, or_false] at m
    rcases m with rfl | rfl
    · exact ⟨_, a, hk_ins⟩
    · exact ⟨_, a2, hk_own⟩
  | @scr p ns L fp a _ ih =>
    obtain ⟨U, F, T, P⟩ := ih
    rcases a with (a | ⟨o, a⟩) | a
    · exact Pins.none.mk2 P [p] [] (e1_of a fun _ e => by cases e) nl_of (fun G2 _ h _ _ r => .scr (.inl (.inl (by rw [h p List.mem_cons_self]; exact a))) r) fun G2 _ h _ _ r => .scr (.inl (.inl (by rw [h p List.mem_cons_self]; exact a))) r
    · exact Pins.none.mk2 P [p] [] (e1_of a fun _ e => by cases e) nl_of (fun G2 _ h _ _ r => .scr (.inl (.inr ⟨o, by rw [h p List.mem_cons_self]; exact a⟩)) r) fun G2 _ h _ _ r => .scr (.inl (.inr ⟨o, by rw [h p List.mem_cons_self]; exact a⟩)) r
    · exact Pins.none.mk2 P [] [] nl_of nl_of (fun G2 _ h _ _ r => .scr (.inr a) r) fun G2 _ h _ _ r => .scr (.inr a) r
  | @tup p C vs ds f L fp a b c _ _ ih1 ih2 =>
    obtain ⟨U1, F1, T1, P1⟩ := ih1
    obtain ⟨U2, F2, T2, P2⟩ := ih2
    exact P1.mk2 P2 [p] [] (e1_of a fun _ e => by cases e) nl_of (fun G2 _ h _ r1 r2 => Reps.tup (f := f) (fp := fp) (by rw [h p List.mem_cons_self]; exact a) b c r1 r2) fun G2 _ h _ r1 r2 => Reps.tup (f := []) (by rw [h p List.mem_cons_self]; exact a) (m1 b) (m2 c) r1 r2
  | @exn p dd c fs kvs C ds L fp a a2 e b c' _ _ ih1 ih2 =>
    obtain ⟨U1, F1, T1, P1⟩ := ih1
    obtain ⟨U2, F2, T2, P2⟩ := ih2
    rcases a2 with a2 | ⟨dx, z, a2⟩
    · exact P1.mk2 P2 [p] [] (e1_of a fun _ e => by cases e) nl_of (fun G2 _ h _ r1 r2 => .exn (by rw [h p List.mem_cons_self]; exact a) (.inl a2) e b c' r1 r2) fun G2 _ h _ r1 r2 => .exn (by rw [h p List.mem_cons_self]; exact a) (.inl a2) e (m1 b) (m2 c') r1 r2
    · refine P1.mk2 P2 [p, dx] [] (fun x m => ?_) nl_of (fun G2 _ h _ r1 r2 => .exn (by rw [h p (by simp)]; exact a) (.inr ⟨dx, z, by rw [h dx (by simp)]; exact a2⟩) e b c' r1 r2) fun G2 _ h _ r1 r2 => .exn (by rw [h p (by simp)]; exact a) (.inr ⟨dx, z, by rw [h dx (by simp)]; exact a2⟩) e (m1 b) (m2 c') r1 r2
      simp only [List.mem_cons, List.not_mem_nil, or_false] at m
      rcases m with rfl | rfl
      · exact ⟨_, a, fun _ e => by cases e⟩
      · exact ⟨_, a2, fun _ e => by cases e⟩
  | @lf p C vs ds L fp a b c _ _ ih1 ih2 =>
    obtain ⟨U1, F1, T1, P1⟩ := ih1
    obtain ⟨U2, F2, T2, P2⟩ := ih2
    exact P1.mk2 P2 [p] [] (e1_of a fun _ e => by cases e) nl_of (fun G2 _ h _ r1 r2 => .lf (by rw [h p List.mem_cons_self]; exact a) b c r1 r2) fun G2 _ h _ r1 r2 => .lf (by rw [h p List.mem_cons_self]; exact a) (m1 b) (m2 c) r1 r2
  | @lo p C vs ds f L fp a b c _ _ ih1 ih2 =>
    obtain ⟨U1, F1, T1, P1⟩ := ih1
    obtain ⟨U2, F2, T2, P2⟩ := ih2
    exact P1.mk2 P2 [] [p] nl_of (w1_of a hk_lst) (fun _ H2 _ h r1 r2 => Reps.lo (f := f) (fp := fp) (by rw [h p List.mem_cons_self]; exact a) b c r1 r2) fun G2 _ _ h r1 r2 => .lf (by rw [h p List.mem_cons_self]; exact a) (m1 b) (m2 c) r1 r2
  | @kf p C ks ds kvs L fp a e b c _ _ ih1 ih2 =>
    obtain ⟨U1, F1, T1, P1⟩ := ih1
    obtain ⟨U2, F2, T2, P2⟩ := ih2
    exact P1.mk2 P2 [p] [] (e1_of a fun _ e => by cases e) nl_of (fun G2 _ h _ r1 r2 => .kf (by rw [h p List.mem_cons_self]; exact a) e b c r1 r2) fun G2 _ h _ r1 r2 => .kf (by rw [h p List.mem_cons_self]; exact a) e (m1 b) (m2 c) r1 r2
  | @ko p C ks ds kvs f L fp a e b c _ _ ih1 ih2 =>
    obtain ⟨U1, F1, T1, P1⟩ := ih1
    obtain ⟨U2, F2, T2, P2⟩ := ih2
    exact P1.mk2 P2 [] [p] nl_of (w1_of a hk_dK) (fun _ H2 _ h r1 r2 => Reps.ko (f := f) (fp := fp) (by rw [h p List.mem_cons_self]; exact a) e b c r1 r2) fun G2 _ _ h r1 r2 => .kf (by rw [h p List.mem_cons_self]; exact a) e (m1 b) (m2 c) r1 r2
  | @tf p C ks ds kvs L fp a e b c _ _ ih1 ih2 =>
    obtain ⟨U1, F1, T1, P1⟩ := ih1
    obtain ⟨U2, F2, T2, P2⟩ := ih2
    exact P1.mk2 P2 [p] [] (e1_of a fun _ e => by cases e) nl_of (fun G2 _ h _ r1 r2 => .tf (by rw [h p List.mem_cons_self]; exact a) e b c r1 r2) fun G2 _ h _ r1 r2 => .tf (by rw [h p List.mem_cons_self]; exact a) e (m1 b) (m2 c) r1 r2
  | @to p C ks ds kvs f L fp a e b c _ _ ih1 ih2 =>
    obtain ⟨U1, F1, T1, P1⟩ := ih1
    obtain ⟨U2, F2, T2, P2⟩ := ih2
    exact P1.mk2 P2 [] [p] nl_of (w1_of a hk_dT) (fun _ H2 _ h r1 r2 => Reps.to (f := f) (fp := fp) (by rw [h p List.mem_cons_self]; exact a) e b c r1 r2) fun G2 _ _ h r1 r2 => .tf (by rw [h p List.mem_cons_self]; exact a) e (m1 b) (m2 c) r1 r2
end
section
variable {K : PySem.W.Frag} {G H J : Hp}
end
section
variable {c : Cfg} {X : Cx} {k : Nat} {f : Addr} {fd : FuncData} {ps : List Str} {n : Nat} {m : Fn} {x : Str} {p pos : Pos} {e : Expr} {es : List Expr} {as : List Ar}
end
end WF
namespace WF
open PySem PySem.Spec PyProof.Rows L2
section
variable {K : PySem.W.Frag} {G H J : Hp}
end
section
variable {c : Cfg} {X : Cx} {k : Nat} {f : Addr} {fd : FuncData} {ps : List Str} {n : Nat} {m : Fn} {x : Str} {p pos : Pos} {e : Expr} {es : List Expr} {as : List Ar}
end
end WF
namespace WF
open PySem PySem.Spec PyProof.Rows L2
def cntDD : D → D → Option D
  | .lst _ xs, k => match k.py, D.pys xs with
    | some x, some ys => if SeqAt.shaped x && SeqAt.shaped (.list ys) then some (.int (ys.countP fun z => PyData.eqv z x : Nat)) else none
    | _, _ => none
  | _, _ => none
def cntDM (i : Nat) (fk : EM) : EM := lstS i (bindM fk fun k S => match S[i]? with
  | some d => match cntDD d k with
    | some r => some (.ok r, S)
    | none => none
  | none => none)
section
variable {c : Cfg} {X : Cx} {S : S0} {tm tm0 : List Pr} {σ : L2.St} {H : Hp} {i : Nat} {e : Expr} {fk : EM}
end
section
variable {S : S0} {Q : D → S0 → Prop} {i : Nat} {fk : EM}
@[simp] theorem wE_cntD : wE (cntDM i fk) S Q ↔ rd (S[i]?.bind isL) fun _ => wE fk S fun k S => rd (S[i]?.bind fun d => cntDD d k) fun r => Q r S := by
  unfold cntDM
  rw [lstS_rd]
  have e : ∀ (k : D) (S : S0), wE (fun S => match S[i]? with
    | some d => match cntDD d k with
      | some r => some (.ok r, S)
      | none => none
    | none => none) S Q ↔ rd (S[i]?.bind fun d => cntDD d k) fun r => Q r S := fun k S => by
    unfold wE rd
    simp only [WF0.wE]
    cases h : S[i]? with
    | none => simp [WF0.rd, WF0.oE]
    | some d =>
      simp only [Option.bind_some]
      cases h2 : cntDD d k <;> simp [WF0.rd, WF0.oE]
  exact iff_of_eq (congrArg (fun F => rd (S[i]?.bind isL) fun _ => F) (propext (wE_bind.trans (iff_of_eq (congrArg (fun F => wE fk S F) (funext fun k => funext fun S => propext (e k S)))))))
end
end WF
namespace WF
open PySem PySem.Spec PyProof.Rows L2
section
variable {c : Cfg} {X : Cx} {σ : L2.St} {H : Hp}
end
section
variable {c : Cfg} {X : Cx} {k kk : Nat} {f : Addr} {fd : FuncData} {ps : List Str} {n i : Nat} {m : Fn} {x : Str} {p pos : Pos} {e : Expr} {es : List Expr} {as : List Ar}
end
end WF
namespace WF
open PySem PySem.Spec PyProof.Rows L2
section
variable {K : PySem.W.Frag} {H : Hp} {R : List Pr} {p : Addr} {ds xs : List D} {v : V} {d : D}
end
def apc (a : Nat) (d : D) : D → Option D
  | .lst true ds => match ds[a]? with
    | some (.lst true xs) => if xs.length < 1000000 then some (.lst true (ds.set a (.lst true (xs ++ [d])))) else none
    | _ => none
  | _ => none
def apcM (i a : Nat) (d : D) : EM := fun S => match S[i]? with
  | some x => match apc a d x with
    | some y => some (.ok .non, S.set i y)
    | none => none
  | none => none
section
variable {c : Cfg} {X : Cx} {S : S0} {tm tm0 : List Pr} {σ : L2.St} {H : Hp} {i a : Nat} {e : Expr} {v : V} {d : D}
end
@[simp] theorem wE_apc {S : S0} {Q : D → S0 → Prop} {i a : Nat} {d : D} : wE (apcM i a d) S Q ↔ rd (S[i]?.bind (apc a d)) fun x => Q .non (S.set i x) := by
  unfold wE rd
  show WF0.oE (apcM i a d S) Q ↔ _
  unfold apcM
  cases h : S[i]? with
  | none => simp [WF0.oE, WF0.rd]
  | some x =>
    simp only [Option.bind_some]
    cases h2 : apc a d x <;> simp [WF0.oE, WF0.rd]
end WF
namespace WF
open PySem PySem.Spec PyProof.Rows L2
section
variable {prog : Program} {w : World} {A : Around} {E : Value → Shared → Prop}
theorem key_keep {h h' : Heap} {ks : List Key} {a : Addr} (x : (tupleKind (mixKind prog w)).is h ks a) (k : ∀ o, h.get? a = some o → h'.get? a = some o) : (tupleKind (mixKind prog w)).is h' ks a := by
  obtain ⟨o, its, n, h1, h2⟩ := x
  exact ⟨o, its, n, k o h1, h2⟩
end
section
variable {X : Cx}
end
end WF
namespace WF
open PySem PySem.Spec PyProof.Rows L2
def keyI (ns : List Int) : List Key := ns.map Sum.inl
section
variable {K : PySem.W.Frag} {H : Hp} {R : List Pr} {p : Addr}
end
end WF
namespace WF
open PySem PySem.Spec PyProof.Rows L2
def compKFM (own : List Nat) (i : Nat) (g : GM) (fm fe : List (List Int × Int) → EM) : EM := fun S => match S[i]? with
  | some (.dtk true ks xs) => match ksI ks, intsD xs with
    | some kss, some ns => compM own (kyI i) g (some (fm (kss.zip ns))) (fe (kss.zip ns)) S
    | _, _ => none
  | _ => none
section
variable {c : Cfg} {X : Cx} {S : S0} {tm tm0 tm' : List Pr} {σ σ2 : L2.St} {H : Hp} {own : List Nat} {d : Addr} {o : Obj} {l : List (List Int × Int)}
end
@[simp] theorem wE_compKFM {own : List Nat} {i : Nat} {g : GM} {fm fe : List (List Int × Int) → EM} {S : S0} {Q : D → S0 → Prop} : wE (compKFM own i g fm fe) S Q ↔ rd ((S[i]?.bind asDT).bind fun p => (ksI p.1).bind fun kss => (intsD p.2).bind fun ns => some (kss.zip ns)) fun l => wE (compM own (kyI i) g (some (fm l)) (fe l)) S Q := by
  unfold wE rd
  show WF0.oE (compKFM own i g fm fe S) Q ↔ _
  unfold compKFM
  cases h : S[i]? with
  | none => simp [WF0.oE, WF0.rd]
  | some d =>
    cases d with
    | dtk o ks xs =>
      cases o with
      | false => simp [WF0.oE, WF0.rd, asDT]
      | true =>
        simp only [Option.bind_some, asDT_dtk]
        cases hk : ksI ks with
        | none => simp [WF0.oE, WF0.rd]
        | some kss =>
          cases hn : intsD xs with
          | none => simp [WF0.oE, WF0.rd]
          | some ns => simp [WF0.rd, WF0.wE]
    | _ => simp [WF0.oE, WF0.rd, asDT]
end WF
namespace WF
open PySem PySem.Spec PyProof.Rows L2
section
variable {prog : Program} {w : World} {A : Around} {E : Value → Shared → Prop} {s : Shared}
end
section
variable {X : Cx} {K : PySem.W.Frag}
def neT0D : D → D → Option D
  | .dtk _ ks _, .dtk _ ls _ => if ls.isEmpty then some (.bl (!ks.isEmpty)) else none
  | _, _ => none
end
def gDputM (i : Nat) (fk : EM) : GM := fun d S => match S[i]? with
  | some d0 => if isDic d0 = true then (match fk S with
    | some (.ok k, S1) => match S1[i]? with
      | some d1 => (dPutD d1 k d).map fun d' => S1.set i d'
      | none => none
    | _ => none) else none
  | none => none
section
variable {c : Cfg} {X : Cx} {i : Nat} {pos : Pos}
end
section
variable {S : S0} {QG : S0 → Prop} {i : Nat}
@[simp] theorem wG_dput {fk : EM} {d : D} : wG (gDputM i fk) d S QG ↔ rd (S[i]?.bind asDic) fun _ => wE fk S fun k S => rd ((S[i]?.bind fun d1 => dPutD d1 k d).map fun d' => S.set i d') fun S => QG S := by
  unfold wG wE rd
  show WF0.oG (gDputM i fk d S) QG ↔ _
  unfold gDputM asDic
  cases h : S[i]? with
  | none => simp [WF0.oG, WF0.rd]
  | some x =>
    cases hd : isDic x with
    | false => simp [hd, WF0.oG, WF0.rd]
    | true =>
      simp only [hd, if_true, Option.bind_some, WF0.rd_some, WF0.wE]
      match h2 : fk S with
      | none => simp [WF0.oG, WF0.oE]
      | some (.ex e, S1) => simp [WF0.oG, WF0.oE]
      | some (.ok k, S1) =>
        simp only [WF0.oE]
        cases h3 : S1[i]? with
        | none => simp [WF0.oG]
        | some d1 =>
          simp only [Option.bind_some]
          cases h4 : dPutD d1 k d <;> simp [WF0.oG]
@[simp] theorem neT0_dtk {o o' : Bool} {ks ls : List (List Key)} {xs ys : List D} : neT0D (.dtk o ks xs) (.dtk o' ls ys) = if ls.isEmpty then some (.bl (!ks.isEmpty)) else none := rfl
end
end WF
namespace WF
open PySem PySem.Spec PyProof.Rows L2
section
variable {P : Program} {w : World} {A : Around} {E : Value → Shared → Prop}
end
section
variable {c : Cfg} {X : Cx} {e : Expr} {fe : EM} {p p2 q pos : Pos}
end
end WF
namespace WF
open PySem PySem.Spec PyProof.Rows L2
def popAt (k : D) (xs : List D) : Option (D × List D) := match k with
  | .int k => (ixN xs.length k).bind fun m => if xs.length < 1000000 then xs[m]?.map fun y => (y, xs.eraseIdx m) else none
  | _ => none
def popIxM (i : Nat) (fk : EM) : EM := lstS i (bindM fk fun k => modS i (popAt k))
section
variable {c : Cfg} {X : Cx} {S : S0} {tm tm0 : List Pr} {σ : L2.St} {H : Hp} {i : Nat} {e : Expr} {fk fy : EM}
end
section
variable {S : S0} {Q : D → S0 → Prop} {i : Nat} {fk : EM}
def popD (k : D) : D → Option (D × List D)
  | .lst true xs => popAt k xs
  | _ => none
@[simp] theorem wE_popIx : wE (popIxM i fk) S Q ↔ rd (S[i]?.bind isL) fun _ => wE fk S fun k S => rd (S[i]?.bind (popD k)) fun r => Q r.1 (S.set i (.lst true r.2)) := by
  unfold popIxM
  rw [lstS_rd]
  have e : ∀ (k : D) (S : S0), wE (modS i (popAt k)) S Q ↔ rd (S[i]?.bind (popD k)) fun r => Q r.1 (S.set i (.lst true r.2)) := fun k S => by
    unfold wE rd
    simp only [WF0.wE, modS]
    cases h : S[i]? with
    | none => simp [WF0.rd, WF0.oE]
    | some d => cases d with
      | lst o xs => cases o with
        | false => simp [popD, WF0.rd, WF0.oE]
        | true =>
          simp only [Option.bind_some, popD]
          cases hp : popAt k xs <;> simp [WF0.rd, WF0.oE]
      | _ => simp [popD, WF0.rd, WF0.oE]
  exact iff_of_eq (congrArg (fun F => rd (S[i]?.bind isL) fun _ => F) (propext (wE_bind.trans (iff_of_eq (congrArg (fun F => wE fk S F) (funext fun k => funext fun S => propext (e k S)))))))
end
end WF
namespace WF
open PySem PySem.Spec PyProof.Rows L2
open Classical in
noncomputable def ixOF (d k : D) : Option (D × D) := match d, k with
  | .lst true xs, .int i => match atI xs i with
    | some x => if x.frz = x then some (x, .lst true xs) else none
    | none => none
  | _, _ => none
noncomputable def ixSF (i : Nat) (fb : EM) : EM := bindM fb fun k S => match S[i]? with
  | some d => match ixOF d k with
    | some (x, d') => if isUn d then none else some (.ok x, S.set i d')
    | none => none
  | none => none
section
variable {K : PySem.W.Frag} {H : Hp} {R : List Pr}
end
section
variable {c : Cfg} {X : Cx} {S : S0} {tm tm0 : List Pr} {σ : L2.St} {H : Hp} {a b e : Expr} {fa fb fe : EM} {pos : Pos} {i : Nat}
end
section
variable {S : S0} {Q : D → S0 → Prop} {i : Nat} {fb : EM} {xs : List D} {k : Int} {x : D}
@[simp] theorem wE_ixSF : wE (ixSF i fb) S Q ↔ wE fb S fun k S => rd S[i]? fun d => rd (ixOF d k) fun p => isUn d = false ∧ Q p.1 (S.set i p.2) := by
  unfold ixSF
  have e : ∀ (k : D) (S : S0), wE (fun S => match S[i]? with
    | some d => match ixOF d k with
      | some (x, d') => if isUn d then none else some (.ok x, S.set i d')
      | none => none
    | none => none) S Q ↔ rd S[i]? fun d => rd (ixOF d k) fun p => isUn d = false ∧ Q p.1 (S.set i p.2) := fun k S => by
    unfold wE rd
    simp only [WF0.wE]
    cases h : S[i]? with
    | none => simp [WF0.rd, WF0.oE]
    | some d =>
      cases h2 : ixOF d k with
      | none => simp [h2, WF0.rd, WF0.oE]
      | some r =>
        obtain ⟨x, d'⟩ := r
        cases hu : isUn d
        · simp [h2, hu, WF0.rd, WF0.oE]
          exact ⟨fun q => ⟨x, d', ⟨rfl, rfl⟩, q⟩, fun ⟨_, _, ⟨e1, e2⟩, q⟩ => by cases e1; cases e2; exact q⟩
        · simp [h2, hu, WF0.rd, WF0.oE]
  exact wE_bind.trans (iff_of_eq (congrArg (fun F => wE fb S F) (funext fun k => funext fun S => propext (e k S))))
end
end WF
namespace WF
open PySem PySem.Spec PyProof.Rows L2
section
variable {X : Cx} {K : PySem.W.Frag}
def arN (f : Int → Int → Int) : D → D → Option D
  | .int a, .int b => some (.int (f a b))
  | .bl p, .int b => some (.int (f (if p = true then (1 : Int) else 0) b))
  | .int a, .bl p => some (.int (f a (if p = true then (1 : Int) else 0)))
  | _, _ => none
end
def rgI (a b : Int) : List Int := (List.range (b - a).toNat).map fun (i : Nat) => a + (i : Int)
def mkRg (t : Bool) (a b : D) : Option D := match a, b with
  | .int a, .int b => if 0 ≤ a ∧ a ≤ 1000000 ∧ 0 ≤ b ∧ b ≤ 1000000 then some (if t = true then .tup ((rgI a b).map .int) else .lst true ((rgI a b).map .int)) else none
  | _, _ => none
def rgM2 (t : Bool) (fa fb : EM) : EM := bindM fa fun a => bindM fb fun b => optM (mkRg t a b)
def rgM1 (t : Bool) (fb : EM) : EM := bindM fb fun b => optM (mkRg t (.int 0) b)
section
variable {c : Cfg} {X : Cx} {e e2 : Expr} {fa fb : EM} {p p2 q pos : Pos} {H : Hp} {R : List Pr}
end
section
variable {f : Int → Int → Int} {a b : Int} {p : Bool} {fa fb : EM} {S : S0} {Q : D → S0 → Prop} {t : Bool} {x y : D}
@[simp] theorem arN_ii : arN f (.int a) (.int b) = some (.int (f a b)) := rfl
@[simp] theorem arN_bi : arN f (.bl p) (.int b) = some (.int (f (if p = true then (1 : Int) else 0) b)) := rfl
@[simp] theorem arN_ib : arN f (.int a) (.bl p) = some (.int (f a (if p = true then (1 : Int) else 0))) := rfl
@[simp] theorem wE_rgM2 : wE (rgM2 t fa fb) S Q ↔ wE (bindM fa fun a => bindM fb fun b => optM (mkRg t a b)) S Q := Iff.rfl
@[simp] theorem wE_rgM1 : wE (rgM1 t fb) S Q ↔ wE (bindM fb fun b => optM (mkRg t (.int 0) b)) S Q := Iff.rfl
@[simp] theorem mkRg_ii : mkRg t (.int a) (.int b) = if 0 ≤ a ∧ a ≤ 1000000 ∧ 0 ≤ b ∧ b ≤ 1000000 then some (if t = true then .tup ((rgI a b).map .int) else .lst true ((rgI a b).map .int)) else none := rfl
end
end WF
namespace WF
open PySem PySem.Spec PyProof.Rows L2
open HT
section
variable {prog : Program} {w : World} {A : Around} {E : Value → Shared → Prop} {s : Shared}
end
section
variable {X : Cx} {e : Expr}
end
def revtD : D → Option D
  | .tup xs => some (.tup xs.reverse)
  | _ => none
@[simp] theorem revtD_tup {xs : List D} : revtD (.tup xs) = some (.tup xs.reverse) := rfl
def revtM (fe : EM) : EM := bindM fe fun d => optM (revtD d)
@[simp] theorem wE_revt {fe : EM} {S : S0} {Q : D → S0 → Prop} : wE (revtM fe) S Q ↔ wE fe S fun d S => wE (optM (revtD d)) S Q := by
  rw [revtM, wE_bind]
section
variable {c : Cfg} {X : Cx} {e : Expr} {fe : EM}
end
end WF
namespace WF
open PySem PySem.Spec PyProof.Rows L2
section
variable {prog : Program} {w : World} {A : Around} {E : Value → Shared → Prop} {s : Shared} {Q : Bool → Shared → Prop}
def IsPT (prog : Program) (w : World) (h : Heap) (v : Value) (k : List Int) : Prop := ∃ a o n t b z ns, v = .ref a ∧ k = z :: ns ∧ h.get? a = some o ∧ o.cls = .type "tuple" ∧ o.data = .seq #[.int z t, .ref b] n ∧
  (tupleKind (mixKind prog w)).is h (ns.map Sum.inl) b ∧ ∃ its : Array Value, IsTup h b its ∧ IntsAre its.toList ns
theorem IsPT.keeps {h h' : Heap} {v : Value} {k : List Int} (x : IsPT prog w h v k) (kp : ∀ b o, h.get? b = some o → o.cls = .type "tuple" → h'.get? b = some o) : IsPT prog w h' v k := by
  obtain ⟨a, o, n, t, b, z, ns, e1, e2, e3, e4, e5, e6, its, e7, e8⟩ := x
  have e6' := e6
  obtain ⟨ob, ho, hc, hr⟩ := e7
  exact ⟨a, o, n, t, b, z, ns, e1, e2, kp _ _ e3 e4, e4, e5, key_keep e6' fun o' q => by
    have : o' = ob := by rw [ho] at q; exact (Option.some.inj q).symm
    subst this
    exact kp _ _ ho hc, its, ⟨ob, kp _ _ ho hc, hc, hr⟩, e8⟩
end
def ptD (k : List Int) : D := .tup [.int (k.headD 0), .tup (k.tail.map .int)]
def ptsD : List D → Option (List (List Int))
  | [] => some []
  | .tup [.int z, .tup xs] :: r => match intsD xs, ptsD r with
    | some ns, some l => some ((z :: ns) :: l)
    | _, _ => none
  | _ => none
def sortPT : List D → Option D
  | [.lst _ xs] => (ptsD xs).map fun ps => .lst true ((sortT ps).map ptD)
  | _ => none
section
variable {K : PySem.W.Frag} {H : Hp} {R : List Pr}
end
section
variable {c : Cfg} {X : Cx} {e e2 : Expr} {fa fb : EM} {p p2 q pos : Pos}
end
@[simp] theorem sortPT_lst {o : Bool} {xs : List D} : sortPT [.lst o xs] = (ptsD xs).map fun ps => .lst true ((sortT ps).map ptD) := rfl
end WF
namespace WF
open PySem PySem.Spec PyProof.Rows L2
section
variable {X : Cx} {tg e : Expr} {td : TE}
end
def keysN : D → Option (List D)
  | .dtk true ks xs => (ksI ks).bind fun kss => (intsD xs).bind fun ns => if kss.length = ns.length then some ((kss.zip ns).map kyD) else none
  | _ => none
def keyN (fe : EM) : IM := bindI fe fun d => optI (keysN d)
section
variable {c : Cfg} {X : Cx} {fe : EM} {tg e : Expr}
end
section
variable {fe : EM} {S : S0} {Q : List D → List (Nat × D) → S0 → Prop}
@[simp] theorem keysN_dtk {ks : List (List Key)} {xs : List D} : keysN (.dtk true ks xs) = (ksI ks).bind fun kss => (intsD xs).bind fun ns => if kss.length = ns.length then some ((kss.zip ns).map kyD) else none := rfl
@[simp] theorem wI_keyN : wI (keyN fe) S Q ↔ wE fe S fun d S => rd (keysN d) fun ds => Q ds [] S := by
  unfold wI wE rd
  show WF0.oI (bindI fe (fun d => optI (keysN d)) S) Q ↔ _
  unfold WF0.wE bindI
  cases h : fe S with
  | none => simp [WF0.oI, WF0.oE]
  | some r =>
    obtain ⟨r, S'⟩ := r
    cases r with
    | ex x => simp [WF0.oI, WF0.oE]
    | ok d =>
      simp only [WF0.oE, optI]
      cases keysN d with
      | none => simp [WF0.oI, WF0.rd]
      | some ds => simp [WF0.oI, WF0.rd]
end
end WF
namespace WF
open PySem PySem.Spec PyProof.Rows L2
open HT (eqAt_int)
section
open PySem.SeqAt
open PySem.AutoSeq1 (wpAny_loadPart')
open PySem.MeetsSeq PySem.MeetsSeq2 PySem.MeetsSeq3
end
section
variable {prog : Program} {w : World} {A : Around} {E : Value → Shared → Prop} {s : Shared}
end
def bestK (kss : List (List Int)) : Nat := argBest (fun i j => ltL (kss.getD j []) (kss.getD i [])) (kss.length - 1)
def maxTK : List D → Option D
  | [.dtk _ ks xs] => if D.imms xs = true ∨ D.purs xs = true then (ksI ks).bind fun kss => if 0 < kss.length then some (tpD (kss.getD (bestK kss) [])) else none else none
  | _ => none
@[simp] theorem maxTK_dtk {o : Bool} {ks : List (List Key)} {xs : List D} : maxTK [.dtk o ks xs] = if D.imms xs = true ∨ D.purs xs = true then (ksI ks).bind fun kss => if 0 < kss.length then some (tpD (kss.getD (bestK kss) [])) else none else none := rfl
end WF
namespace WF
open PySem PySem.Spec PyProof.Rows L2
def kyG (q : List Int × D) : D := .tup (q.1.map .int)
def keysG (l : List (List Int × D)) : List (List Key) := l.map fun q => q.1.map Sum.inl
def kyIG (i : Nat) : IM := fun S => match S[i]? with
  | some (.dtk true ks xs) => (ksI ks).bind fun kss => if kss.length = xs.length then some (.ok ((kss.zip xs).map kyG) [(i, .dtk true ks xs)], S.set i .un) else none
  | _ => none
def compKGM (own : List Nat) (i : Nat) (g : GM) (fm fe : List (List Int × D) → EM) : EM := fun S => match S[i]? with
  | some (.dtk true ks xs) => if D.purs xs = true then match ksI ks with
    | some kss => compM own (kyIG i) g (some (fm (kss.zip xs))) (fe (kss.zip xs)) S
    | none => none
    else none
  | _ => none
section
variable {c : Cfg} {X : Cx} {S : S0} {tm tm0 tm' : List Pr} {σ σ2 : L2.St} {H : Hp} {own : List Nat} {d : Addr} {o : Obj} {l : List (List Int × D)} {vs : List V}
def dinE (neg : Bool) (fk fd : EM) : EM := bindM fk fun x => bindM fd fun d => optM ((dGetD d x).map fun o => .bl (if neg = true then !o.isSome else o.isSome))
def lkG (l : List (List Int × D)) (ks : List Key) : Option D := (lk (keysG l) (l.map Prod.snd) ks).bind fun x => if x.pur = true then some x else none
def hgetG (l : List (List Int × D)) (fk : EM) : EM := bindM fk fun k => optM ((keyT k).bind fun ks => lkG l ks)
end
@[simp] theorem wE_compKGM {own : List Nat} {i : Nat} {g : GM} {fm fe : List (List Int × D) → EM} {S : S0} {Q : D → S0 → Prop} : wE (compKGM own i g fm fe) S Q ↔ rd ((S[i]?.bind asDT).bind fun p => if D.purs p.2 = true then (ksI p.1).map fun kss => kss.zip p.2 else none) fun l => wE (compM own (kyIG i) g (some (fm l)) (fe l)) S Q := by
  unfold wE rd
  show WF0.oE (compKGM own i g fm fe S) Q ↔ _
  unfold compKGM
  cases h : S[i]? with
  | none => simp [WF0.oE, WF0.rd]
  | some d =>
    cases d with
    | dtk o ks xs =>
      cases o with
      | false => simp [WF0.oE, WF0.rd, asDT]
      | true =>
        simp only [Option.bind_some, asDT_dtk]
        by_cases hp : D.purs xs = true
        · simp only [hp, if_true]
          cases hk : ksI ks with
          | none => simp [WF0.oE, WF0.rd]
          | some kss => simp [WF0.rd, WF0.wE]
        · simp [hp, WF0.oE, WF0.rd]
    | _ => simp [WF0.oE, WF0.rd, asDT]
@[simp] theorem wI_kyIG {i : Nat} {S : S0} {Q : List D → List (Nat × D) → S0 → Prop} : wI (kyIG i) S Q ↔ rd ((S[i]?.bind asDT).bind fun p => (ksI p.1).bind fun kss => if kss.length = p.2.length then some (kss.zip p.2, p) else none) fun r => Q (r.1.map kyG) [(i, .dtk true r.2.1 r.2.2)] (S.set i .un) := by
  unfold wI rd
  show WF0.oI (kyIG i S) Q ↔ _
  unfold kyIG
  cases h : S[i]? with
  | none => simp [WF0.oI, WF0.rd]
  | some d =>
    cases d with
    | dtk o ks xs =>
      cases o with
      | false => simp [WF0.oI, WF0.rd, asDT]
      | true =>
        simp only [Option.bind_some, asDT_dtk]
        cases hk : ksI ks with
        | none => simp [WF0.oI, WF0.rd]
        | some kss =>
          simp only [Option.bind_some]
          by_cases hl : kss.length = xs.length
          · simp [hl, WF0.oI, WF0.rd]
          · simp [hl, WF0.oI, WF0.rd]
    | _ => simp [WF0.oI, WF0.rd, asDT]
@[simp] theorem wE_dinE {neg : Bool} {fk fd : EM} {S : S0} {Q : D → S0 → Prop} : wE (dinE neg fk fd) S Q ↔ wE (bindM fk fun x => bindM fd fun d => optM ((dGetD d x).map fun o => .bl (if neg = true then !o.isSome else o.isSome))) S Q := Iff.rfl
@[simp] theorem wE_hgetG {l : List (List Int × D)} {fk : EM} {S : S0} {Q : D → S0 → Prop} : wE (hgetG l fk) S Q ↔ wE (bindM fk fun k => optM ((keyT k).bind fun ks => lkG l ks)) S Q := Iff.rfl
end WF
namespace WF
open PySem PySem.Spec PyProof.Rows L2
def pairsG : List D → Option (List (List Int × D))
  | [] => some []
  | .tup [.tup ks, v] :: r => if v.pur = true then match intsD ks, pairsG r with
    | some ns, some l => some ((ns, v) :: l)
    | _, _ => none
    else none
  | _ => none
def mgG (ks : List (List Key)) (ds : List D) : List (List Int × D) → List (List Key) × List D
  | [] => (ks, ds)
  | q :: r => mgG (pkK ks (keyI q.1)) (pkV ks ds (keyI q.1) q.2) r
def dictGD : List D → Option D
  | [.lst _ xs] => match pairsG xs with
    | some l => some (.dtk true (mgG [] [] l).1 (mgG [] [] l).2)
    | none => none
  | _ => none
section
variable {K : PySem.W.Frag} {H : Hp} {R : List Pr} {p : Addr}
end
@[simp] theorem dictGD_lst {o : Bool} {xs : List D} : dictGD [.lst o xs] = (pairsG xs).map fun l => .dtk true (mgG [] [] l).1 (mgG [] [] l).2 := by
  simp only [dictGD]
  cases pairsG xs <;> rfl
end WF
namespace WF
open PySem PySem.Spec PyProof.Rows L2 PySem.HandSPX
structure BaseX (B newId initId : String) (bmB : List Value) : Prop where
  F : ExcBaseFacts B newId initId bmB
  S : StoreFacts B bmB "object.__setattr__" "object"
  ty : typeOf (.type B) = pure (.type "type")
  stub : Manifest.isStub B = false
  hin : PySem.W.handedIn (.builtin initId) = true
  bt : bootBuiltins (Str.ofString B) = some (.type B)
abbrev mroVE : List Value := [.type "ValueError", .type "Exception", .type "BaseException", .type "object"]
abbrev mroLE : List Value := [.type "LookupError", .type "Exception", .type "BaseException", .type "object"]
abbrev mroRE : List Value := [.type "RuntimeError", .type "Exception", .type "BaseException", .type "object"]
abbrev mroOE : List Value := [.type "OverflowError", .type "ArithmeticError", .type "Exception", .type "BaseException", .type "object"]
theorem base_VE : BaseX "ValueError" "ValueError.__new__" "ValueError.__init__" mroVE := ⟨F.excBase_ValueError, F.store_ValueError, by kernel_rfl, by decide +kernel, by decide +kernel, by kernel_rfl⟩
theorem base_LE : BaseX "LookupError" "LookupError.__new__" "LookupError.__init__" mroLE := ⟨F.excBase_LookupError, F.store_LookupError, by kernel_rfl, by decide +kernel, by decide +kernel, by kernel_rfl⟩
theorem base_RE : BaseX "RuntimeError" "RuntimeError.__new__" "RuntimeError.__init__" mroRE := ⟨F.excBase_RuntimeError, F.store_RuntimeError, by kernel_rfl, by decide +kernel, by decide +kernel, by kernel_rfl⟩
theorem base_OE : BaseX "OverflowError" "OverflowError.__new__" "OverflowError.__init__" mroOE := ⟨F.excBase_OverflowError, F.store_OverflowError, by kernel_rfl, by decide +kernel, by decide +kernel, by kernel_rfl⟩
structure OexB (K : PySem.W.Frag) (C : Addr) (newId : String) (bmB : List Value) : Prop where
  cls : ∃ nm q N bs sn sub ab col dd k0 k1 k2 k3 k5, K.lookup C = some (excClassObj nm q C N bs bmB true sn sub ab col dd k0 k1 k2 k3 k5 newId)
  sa : PySem.W.findIn K (.ref C) "__setattr__" = some (some (.builtin "object.__setattr__"))
  exC : PySem.W.subIn K (.ref C) (.type "BaseException") = some true
  tyC : PySem.W.typeIn K (.ref C) = some (.type "type")
  kC : PySem.W.keepIn K (.ref C) = true
section
open Builtin Builtin.ObjectAttr
variable {prog : Program} {w : World} {A : Around} {E : Value → Shared → Prop} {R : Result → Shared → Prop} {hp : Heap} {g : Array GenState} {d : Drawn} {t : Nat} {os : OsState}
theorem osa_new {K : W.Frag} {nmS : Str} {tk : Tok} {val : Value} {e C : Addr} {fv : Array Value} {cd : ClassData} {B newId initId : String} {bmB : List Value} (b : BaseX B newId initId bmB)
    (KX : K.In hp) (he : hp.get? e = some { cls := .ref C, data := .fields fv }) (hcd : W.clsIn K C = some cd) (hm : cd.mro = .ref C :: bmB) (hh : cd.hasDict = true) (ha : W.findIn K (.ref C) nmS = some none)
    (hq : ∀ h' tk' dx, (∀ b o, b ≠ e → hp.get? b = some o → h'.get? b = some o) → hp.objs.size ≤ dx → dx ≠ e → h'.get? e = some { cls := .ref C, dict := some dx, data := .fields fv } →
      h'.Ns1 dx (fun y => if y = nmS then some val else none) → R (.ok (.ret .none)) ⟨h', g, d, tk', os⟩) :
    codeAny (model prog w) A (.call (.builtin "object.__setattr__") ⟨[.ref e, .str nmS tk, val], []⟩) R ⟨hp, g, d, t, os⟩ := by
  have ia : W.InstAt hp e { cls := .ref C, data := .fields fv } C none := ⟨he, rfl, rfl, trivial⟩
  have so := F.store_object
  have nemp : cd.mro.isEmpty = false := by rw [hm] <;> rfl
  have hasO : cd.mro.contains (.type "object") = true := by rw [hm, List.contains_cons, b.S.hasOwner, Bool.or_true]
  have hsz : e ≠ hp.objs.size := Nat.ne_of_lt (Heap.lt_size he)
  have isO : W.Looks (model prog w) hp (isInstance (.ref e) (.type "object")) true := ia.type.andThen (W.looks_mroIn KX (by unfold W.mroIn; rw [hcd, Option.bind_some, if_neg (by rw [nemp]; decide), hasO]))
  refine codeAny_call_builtin so.slot.plain so.entry (@W.check_slot (model prog w) _ _ ⟨hp, g, d, t, os⟩ "object.__setattr__" "object" "__setattr__" (.ref e) [.str nmS tk, val] [] _ so.kind so.split isO (so.args (.ref e) (.str nmS tk) val) ?_)
  have lm : W.Looks (model prog w) hp (mroOf (.ref C)) cd.mro := (W.looks_clsIn KX hcd).andThen .now
  have ln : W.Looks (model prog w) hp (storeTaker? none) none := .now
  have lc : W.Looks (model prog w) hp (classData C) cd := W.looks_clsIn KX hcd
  have pass : refuseLoop (.ref e) "__setattr__" cd.mro = pure () := by rw [hm, refuseLoop_ref]; exact b.S.passes _
  rw [W.osa_eq, refuse_eq]
  refine wpAny_bind (wpAny_bind (ia.type.at (wpAny_bind (lm.at ?_))))
  rw [pass]
  refine wpAny_pure (wpAny_bind (ia.type.at (wpAny_bind ((W.looks_findIn KX ha).at (wpAny_bind (ln.at ?_))))))
  show wpAny _ _ (storeInOwnDict (.ref e) (.ref C) (.str nmS tk) nmS val false) _ _ _
  obtain ⟨nm, bs, mro, ns, qn, hd, sn, sb, ab, col, del⟩ := cd
  dsimp only at hh
  subst hh
  unfold storeInOwnDict ownDictForStores
  repeat (first | with_reducible refine store_in_new ?_ ?_ | with_reducible refine wpAny_loadPart_at he ?_ | with_reducible refine lc.at ?_ | wp_step)
  · exact ⟨_, #[], _, (Heap.get?_update_ne _ _ _ _ hsz.symm).trans (Heap.get?_push_at rfl rfl), rfl, fun _ z => absurd z (by simp), fun _ => rfl⟩
  · intro h' tk' hn' hs
    have hx₁ : (hp.push { cls := .type "dict", data := .dict #[] }).get? e = some { cls := .ref C, data := .fields fv } := Heap.get?_push_of_some _ he
    refine hq h' tk' hp.objs.size (fun b o hb ho => ?_) (Nat.le_refl _) hsz.symm ?_ hn'
    · exact (hs.2 b (Nat.ne_of_lt (Heap.lt_size ho))).trans ((Heap.get?_update_ne _ _ _ _ hb).trans (Heap.get?_push_of_some _ ho))
    · exact (hs.2 e hsz).trans (Heap.get?_update_self _ hx₁ rfl)
end
section
variable {X : Cx} {pins : List (Addr × Obj)} {σ : L2.St} {H : Hp} {s : Shared} {a C dx : Addr} {f : Str} {y : V} {u : Value} {fs : List (Str × V)} {Q : Unit → Shared → Prop} {E : Value → Shared → Prop} {A : Around} {B newId initId : String} {bmB : List Value}
theorem ostB_new (b : BaseX B newId initId bmB) (T : OexB X.K C newId bmB) (I : Inv X pins σ H s) (e : H a = some (exo a C none)) (hno : PySem.W.findIn X.K (.ref C) f = some none) (ry : RelV y u)
    (h : ∀ dx s', H dx = none → dx ≠ a → Inv X pins σ (L2.upd (L2.upd H dx (exd dx [(f, y)])) a (exo a C (some dx))) s' → Q () s') : wpAny (model X.prog X.w) A (setAttr (.ref a) f u) Q E s := by
  obtain ⟨nm, q, N, bs, sn, sub, ab, col, dd, k0, k1, k2, k3, k5, hC⟩ := T.cls
  have hcl : PySem.W.clsIn X.K C = some { name := nm, bases := bs, mro := .ref C :: bmB, ns := N, qualname := q, hasDict := true, slotNames := sn, subclasses := sub, abstract := ab, collection := col, hasDel := false } := by unfold PySem.W.clsIn; rw [hC] <;> rfl
  obtain ⟨t1, ho⟩ := exo_at I.hok e
  obtain ⟨hp, g, d, t, os⟩ := s
  refine PySem.W.set_plain I.kIn (ox := { cls := .ref C, dict := none, data := .fields #[.ref t1, .none, .none, .none, .bool false, .none] }) (od := none) ⟨ho, rfl, rfl, trivial⟩ T.sa ?_
  refine osa_new b I.kIn ho hcl rfl rfl hno fun h' tk' dx k dn dne hx hn => ?_
  have hnd : H dx = none := I.hok.fresh dn
  have nd : ∀ {b : Addr} {o : Obj}, hp.get? b = some o → b ≠ dx := fun q => Nat.ne_of_lt (Nat.lt_of_lt_of_le (Heap.lt_size q) dn)
  have na : ∀ {b : Addr}, H b = none → b ≠ a := fun n z => by rw [z, e] at n; cases n
  have U1 : Un X.fs [] H (L2.upd (L2.upd H dx (exd dx [(f, y)])) a (exo a C (some dx))) hp h' := {
    keep := fun b o q n _ _ => k b o (na n) q
    slot := fun b o q n _ _ => ⟨o.slots, k b o (na n) q⟩
    free := fun b o q n _ => by rw [L2.upd_ne (na n), L2.upd_ne (nd q)]; exact n
    there := fun b o q _ => by
      by_cases hb : b = a
      · exact ⟨_, by rw [hb]; exact hx⟩
      · exact ⟨o, k b o hb q⟩
    tups := fun b xs q => by rw [L2.upd_ne (at_ne e q exo_tup), L2.upd_ne (L2.ne_of_none q hnd)]; exact q
    frzs := fun b o v q => by rw [L2.upd_ne (at_ne e q exo_frz), L2.upd_ne (L2.ne_of_none q hnd)]; exact q
    tbls := fun b ps q => ⟨#[], by rw [L2.upd_ne (at_ne e q exo_tbl), L2.upd_ne (L2.ne_of_none q hnd), q]; simp⟩ }
  refine h dx _ hnd dne (I.un (t' := tk') U1 fun b o q => ?_)
  by_cases hb : b = a
  · subst hb
    rw [L2.upd_same] at q
    cases q
    exact exo_ok hx
  · rw [L2.upd_ne hb] at q
    by_cases hd : b = dx
    · subst hd
      rw [L2.upd_same] at q
      cases q
      exact exd_ok hn (relO_put (fs := []) ry fun g => True.intro)
    · rw [L2.upd_ne hd] at q
      refine (I.hok b o q).stay (fun c v hc z => k c v ?_ z) (fun c hc => ?_) fun c xs hc => ?_
      · rcases hc with hc | hc
        · rw [hc]; exact hb
        · exact at_ne e hc exo_own
      · rw [L2.upd_ne (at_ne e hc exo_own), L2.upd_ne (L2.ne_of_none hc hnd)]; exact hc
      · rw [L2.upd_ne (at_ne e hc exo_tup), L2.upd_ne (L2.ne_of_none hc hnd)]; exact hc
theorem oinitB_ok {us : List Value} {Q : Value → Shared → Prop} (b : BaseX B newId initId bmB) (T : OexB X.K C newId bmB) (I : Inv X pins σ H s) (e : H a = some (exo a C none)) (hl : us.length ≤ sizeLine) (h : ∀ s', Inv X pins σ H s' → Q .none s') :
    wpAny (model X.prog X.w) A (call (.builtin initId) (.ref a :: us)) Q E s := by
  obtain ⟨nm, q, N, bs, sn, sub, ab, col, dd, k0, k1, k2, k3, k5, hC⟩ := T.cls
  obtain ⟨t1, ho⟩ := exo_at I.hok e
  obtain ⟨hp, g, d, t, os⟩ := s
  refine wpAny_call (PySem.HandSPX.init_base b.F (fun _ => rfl) (I.kIn _ _ hC) ho hl fun h' t2 k hx => ?_)
  have J := I.write (t' := t) (x := a) (e := a) (o := exo a C none) (by rw [e]; exact True.intro) (.inl rfl) k ⟨_, hx⟩ (exo_ok hx)
  have eu : L2.upd H a (exo a C none) = H := funext fun b => by
    by_cases hb : b = a
    · rw [hb, L2.upd_same, e]
    · rw [L2.upd_ne hb]
  rw [eu] at J
  exact h _ J
end
def tBin (K : PySem.W.Frag) (newId : String) (bmB : List Value) (ta : TA) : TE := fun σ H Q => ta σ H fun vs H1 => ∃ (a C : Addr) (ws : List V), vs = .ref a :: ws ∧ ws.length ≤ 1000 ∧ OexB K C newId bmB ∧ H1 a = some (exo a C none) ∧ Q .non H1
def tOsB (K : PySem.W.Frag) (newId : String) (bmB : List Value) (f : Str) (to te : TE) : TS := fun D σ H => te σ H fun y H1 => to σ H1 fun x H2 => ∃ a C : Addr, x = .ref a ∧ OexB K C newId bmB ∧ PySem.W.findIn K (.ref C) f = some none ∧
  H2 a = some (exo a C none) ∧ ∀ dx, H2 dx = none → dx ≠ a → D.nx σ (L2.upd (L2.upd H2 dx (exd dx [(f, y)])) a (exo a C (some dx)))
section
variable {X : Cx} {o e : Expr} {es : List Expr} {to te : TE} {ta : TA} {f x : Str} {p p' p1 p2 pos : Pos} {B newId initId : String} {bmB : List Value}
theorem pe_binit {pl : Sem Bool} (b : BaseX B newId initId bmB) (hg : Gl X x) (hm : X.mg x = none) (hbt : bootBuiltins x = some (.type B)) (hxn : x ≠ "__name__") (hdb : (x == ("__debug__" : Str)) = false) (vV : PySem.W.findCls X.K (.type B) (.type "type") "__init__" = some (.val (.builtin initId))) (ha : PA X (e :: es) ta)
    (hc : eval (.Call (.Attribute (.Name x p1) "__init__" p2) (e :: es) [] pos) X.env = (do
      let vv ← eval (.Name x p1) X.env
      standAt p2.atName
      let (fn, fst) ← holding [vv] (getMethod vv "__init__" pl)
      callWith pos fn fst (backTo pos (starEach (e :: es) X.env)) (backToKw pos (keywordEach [] X.env))) := by rfl)
    (he : starEach (e :: es) X.env = (false, eval e X.env) :: starEach es X.env := by rfl) (hpl : (backTo pos (starEach es X.env)).any (·.1) = false := by rfl) :
    PE X (.Call (.Attribute (.Name x p1) "__init__" p2) (e :: es) [] pos) (tBin X.K newId bmB ta) := by
  refine ⟨fun pins s σ H Q I h => ?_⟩
  refine PySem.W.methodCall_KW (ld_blt I hg hm hbt ?_ hxn hdb) hc
  obtain ⟨m, fr⟩ := I.fr
  refine PySem.W.method_type fr I.ok.mod.kin b.ty b.stub vV b.hin ?_
  show wpAny _ _ (callWith pos (Value.builtin initId) [] (backTo pos (starEach (e :: es) X.env)) []) _ _ _
  refine PyProof.Rows.callWith_method1 (thn (ha.run pos pins _ σ H _ (I.tok _) h) fun us s1 ⟨vs, H1, I1, r1, a, C, ws, ev, hl, T, ea, q⟩ => ?_) he hpl
  subst ev
  cases r1 with
  | @cons _ u0 _ ur ra rw' =>
    obtain rfl : u0 = Value.ref a := ra
    have hlen : ur.length ≤ sizeLine := by
      rw [← Paired.length rw', sizeLine_eq]
      omega
    exact oinitB_ok b T I1 ea hlen fun s' J => ⟨.non, H1, J, rfl, q⟩
theorem ps_osB (b : BaseX B newId initId bmB) (ho : PE X o to) (he : PE X e te) (hs : swapsWith e (some (.Attribute o f p')) pos.line X.env = pure false := by rfl) : PS X (.Assign [.Attribute o f p'] e pos) (tOsB X.K newId bmB f to te) := by
  refine ⟨fun pins s σ H D I h => ?_⟩
  refine plainObj_wpAny_Assign_Attribute (thn (he.run pins s σ H _ I h) fun v s1 ⟨y, H1, I1, r1, q1⟩ => thn (ho.run pins s1 σ H1 _ I1 q1) fun u s2 ⟨x, H2, I2, r2, a, C, ex, T, hno, ea, q⟩ => ?_) hs
  subst ex
  obtain rfl : u = Value.ref a := r2
  exact ostB_new b T I2 ea hno r1 fun dx s' n ne J => ⟨σ, _, J, q dx n ne⟩
end
end WF
namespace WF
open PySem PySem.Spec PyProof.Rows L2 PySem.HandSPX
def spIni (K : PySem.W.Frag) (newId : String) (bmB : List Value) (f : Str) : Sp := fun vs H Q _ => ∃ (a C : Addr) (y : V), vs = [.ref a, y] ∧ OexB K C newId bmB ∧ PySem.W.findIn K (.ref C) f = some none ∧ H a = some (exo a C none) ∧
  ∀ dx, H dx = none → dx ≠ a → Q .non (L2.upd (L2.upd H dx (exd dx [(f, y)])) a (exo a C (some dx)))
section
variable {P : Program} {w : World} {K : PySem.W.Frag} {mg : Str → Option Value} {base : Heap}
abbrev iniT (K : PySem.W.Frag) (newId : String) (bmB : List Value) (f : Str) : TS := tSeq (tDrop (tBin K newId bmB (tCons (tVar 0) tNil))) (tOsB K newId bmB f (tVar 0) (tVar 1))
theorem ini_ok {q f : Str} {st : Stmt} {fI : Addr} {fd : FuncData} {newId : String} {bmB : List Value} (F : FunD K "__init__" q (defArgs st) (defBody st) (defScope st) [] [] fI fd) (S : FnScope ["self", f] ["self", f] (defScope st))
    (hb : ∀ cdv A outer s H E, PSs (cxOf (L2.CX P w) P w K mg base ["self", f] q (defScope st) fI cdv A outer s H E) (defBody st) (iniT K newId bmB f)) :
    FnOk P w K mg base (L2.CX P w) 1 fI fd ["self", f] (spIni K newId bmB f) := by
  refine F.ok (CX := L2.CX P w) S (fun vs H Q E h => by obtain ⟨a, C, y, rfl, _⟩ := h; rfl) fun cdv A outer s H vs Q E hr h => ?_
  obtain ⟨a, C, y, rfl, T, hno, ea, q⟩ := h
  refine ⟨_, hb cdv A outer s H E, ?_⟩
  refine ⟨.ref a, rfl, a, C, [], rfl, by simp, T, ea, ?_⟩
  exact ⟨y, rfl, .ref a, rfl, a, C, rfl, T, hno, ea, fun dx n ne => q dx n ne⟩
end
theorem passes_no {X : Cx} : Passes (L2.CX X.prog X.w) X (fun _ _ _ => False) := fun _ _ _ _ _ _ _ c => by
  obtain ⟨_, _, _, _, _, _, _, _, _, _, _, _, z⟩ := c
  exact z.elim
section
variable {X : Cx} {x f : Str} {C fI : Addr} {fd : FuncData} {B newId initId : String} {bmB : List Value} {e : Expr} {ta : TA} {p pos : Pos}
end
structure XcF (P : Program) (w : World) (K : PySem.W.Frag) (mg : Str → Option Value) (base : Heap) (x f : Str) : Prop where
  ex : ∃ (B newId initId : String) (bmB : List Value) (fI : Addr) (fd : FuncData), BaseX B newId initId bmB ∧ OexB K (He.ga K x) newId bmB ∧ PySem.W.findIn K (.ref (He.ga K x)) f = some none ∧ PySem.W.findIn K (.ref (He.ga K x)) "__init__" = some (some (.ref fI)) ∧
    PySem.W.typeIn K (.ref fI) = some (.type "function") ∧ FnOk P w K mg base (L2.CX P w) 1 fI fd ["self", f] (spIni K newId bmB f) ∧ Binds K fd ["self", f] []
  g : mg x = some (.ref (He.ga K x))
section
variable {c : Cfg} {X : Cx} {x f : Str} {e : Expr} {fe : EM} {p pos pos' : Pos}
end
end WF
namespace WF
open PySem PySem.Spec PyProof.Rows L2
def ExTest (X : Cx) (t : Expr) (cls : Value) (b : Bool) : Prop := ∀ (a : Addr) (pn pins : List (Addr × Obj)) (σ : L2.St) (H : Hp) (s : Shared) (Q : Bool → Shared → Prop) (E : Value → Shared → Prop), Inv (X.suite a pn) pins σ H s → PySem.W.Looks (model X.prog X.w) s.heap (typeOf (.ref a)) cls →
  (∀ h', (∀ q o, s.heap.get? q = some o → h'.get? q = some o) → Q b { s with heap := h' }) → wpAny (model X.prog X.w) (X.A.mark (some (.ref a))) (eval t X.env) (fun c s1 => wpAny (model X.prog X.w) (X.A.mark (some (.ref a))) (excMatches (.ref a) c) Q E s1) E s
section
variable {X : Cx} {cls : Value} {b : Bool} {x1 x2 x3 x4 : Str} {c1 c2 c3 c4 : Value} {p1 p2 p3 p4 tp : Pos} {kk : Nat}
end
theorem exk_ok {P : Program} {w : World} {H : Hp} {h : Heap} {a : Addr} {cls : Value} {d : Option Addr} {o : Obj} {vs : Array Value} (e : h.get? a = some o) (z : Zc cls d o) (dt : o.data = .fields vs) : ObjOk P w H h a (exk a cls d) :=
  ⟨⟨o, vs, e, z.1, z.2, dt⟩, ⟨_, e⟩, fun h1 h2 ⟨o', vs', e', r⟩ k => ⟨o', vs', k _ e', r⟩⟩
theorem exk_at {P : Program} {w : World} {H : Hp} {h : Heap} {a : Addr} {cls : Value} {d : Option Addr} (hok : HOk P w H h) (e : H a = some (exk a cls d)) : ∃ o vs, h.get? a = some o ∧ o.cls = cls ∧ o.dict = d ∧ o.data = .fields vs := by
  have x : ObjOk P w H h a (.ext fun h => ∃ (o : Obj) (vs : Array Value), h.get? a = some o ∧ o.cls = cls ∧ o.dict = d ∧ o.data = .fields vs) := hok a _ e
  exact x.1
section
variable {X : Cx} {pins : List (Addr × Obj)} {σ : L2.St} {H : Hp} {sI s s' : Shared} {B : Heap}
end
abbrev ClP := (Value → Bool → Prop) × Nat × (Addr → Value → Option Addr → TS)
inductive HdP (X : Cx) : List ExceptHandler → List ClP → Prop
  | nil : HdP X [] []
  | cons {t : Expr} {n : Str} {i : Nat} {m : Value → Bool → Prop} {ts : Addr → Value → Option Addr → TS} {b₀ : Stmt} {suite : List Stmt} {pos' : Pos} {hds : List ExceptHandler} {l : List ClP} (hi : X.N[i]? = some n) (hln : X.env.kindOf n = some .local)
      (ht : ∀ cls b, m cls b → ExTest X t cls b) (hsu : ∀ (a : Addr) (cls : Value) (d : Option Addr) (pn : List (Addr × Obj)), PSs (X.suite a pn) (b₀ :: suite) (ts a cls d)) (r : HdP X hds l) :
      HdP X (.ExceptHandler (some t) (some n) (b₀ :: suite) pos' :: hds) ((m, i, ts) :: l)
section
variable {X : Cx} {body : List Stmt} {h₀ : ExceptHandler} {hds : List ExceptHandler} {l : List ClP} {pos : Pos} {tb : WX → TS} {Wout : WX}
end
end WF
namespace WF
open PySem PySem.Spec PyProof.Rows L2
section
variable {K : PySem.W.Frag} {G H : Hp} {L R fv : List Pr}
theorem reps_ownX {fp : List Addr} (r : Reps K G H L fp) : ∀ a ∈ fp, (∀ φ, H a ≠ some (HO.ext φ)) ∧ ∀ fs, H a ≠ some (HO.xd fs) := by
  have two : ∀ {a : Addr} {u : HO}, H a = some u → (∀ φ, u ≠ .ext φ) → (∀ fs, u ≠ .xd fs) → (∀ φ, H a ≠ some (HO.ext φ)) ∧ ∀ fs, H a ≠ some (HO.xd fs) := fun e h1 h2 =>
    ⟨fun φ q => by rw [e] at q; exact h1 φ (Option.some.inj q), fun fs q => by rw [e] at q; exact h2 fs (Option.some.inj q)⟩
  induction r with
  | nil => intro a m; cases m
  | un _ ih => exact ih
  | non _ ih => exact ih
  | bl _ ih => exact ih
  | int _ ih => exact ih
  | str _ ih => exact ih
  | vl _ ih => exact ih
  | hld q h _ ih => intro a m; rcases List.mem_cons.mp m with rfl | m; exact two h q.2.2.1 q.2.2.2; exact ih a m
  | con _ _ _ ih => exact ih
  | tab h _ ih =>
    intro a m
    rcases List.mem_cons.mp m with rfl | m
    · obtain ⟨ps, h, _⟩ := h; exact two h (fun _ z => by cases z) fun _ z => by cases z
    · exact ih a m
  | of _ _ _ _ _ _ _ ih1 ih2 => exact ih2
  | oo h h2 _ _ _ _ _ ih1 ih2 =>
    intro a m
    rcases List.mem_cons.mp m with rfl | m
    · exact two h (fun _ z => by cases z) fun _ z => by cases z
    rcases List.mem_cons.mp m with rfl | m
    · exact two h2 (fun _ z => by cases z) fun _ z => by cases z
    rcases List.mem_append.mp m with m | m
    · exact ih1 a m
    · exact ih2 a m
  | scr _ _ ih => exact ih
  | tup _ _ _ _ _ ih1 ih2 => intro a m; rcases List.mem_append.mp m with m | m; exact ih1 a m; exact ih2 a m
  | exn _ _ _ _ _ _ _ ih1 ih2 => exact ih2
  | lf _ _ _ _ _ ih1 ih2 => exact ih2
  | lo h _ _ _ _ ih1 ih2 => intro a m; rcases List.mem_cons.mp m with rfl | m; exact two h (fun _ z => by cases z) (fun _ z => by cases z); rcases List.mem_append.mp m with m | m; exact ih1 a m; exact ih2 a m
  | kf _ _ _ _ _ _ ih1 ih2 => exact ih2
  | ko h _ _ _ _ _ ih1 ih2 => intro a m; rcases List.mem_cons.mp m with rfl | m; exact two h (fun _ z => by cases z) (fun _ z => by cases z); rcases List.mem_append.mp m with m | m; exact ih1 a m; exact ih2 a m
  | tf _ _ _ _ _ _ ih1 ih2 => exact ih2
  | to h _ _ _ _ _ ih1 ih2 => intro a m; rcases List.mem_cons.mp m with rfl | m; exact two h (fun _ z => by cases z) (fun _ z => by cases z); rcases List.mem_append.mp m with m | m; exact ih1 a m; exact ih2 a m
theorem Joint.exn {a : Addr} {C : Str} {fs : List Str} {dd : Option Addr} (j : Joint K H (fv ++ R)) (hd : (dd = none ∧ fv = [] ∧ fs = []) ∨ ∃ dx, dd = some dx ∧ H dx = some (.xd (fs.zip (fv.map Prod.fst)))) (hl : fs.length = fv.length) (na : H a = none) :
    Joint K (L2.upd H a (exk a (.ref (He.ga K C)) dd)) ((.ref a, .exn C fs (D.frzs (fv.map Prod.snd))) :: R) := by
  obtain ⟨G, fp, g, r, n, z⟩ := j.new (o := exk a (.ref (He.ga K C)) dd) na
  obtain ⟨f1, f2, rfl, r1, r2⟩ := r.unappend
  obtain ⟨n1, n2, n3⟩ := List.nodup_append.mp n
  generalize hH : L2.upd H a (exk a (.ref (He.ga K C)) dd) = H1 at *
  have ha : H1 a = some (exk a (.ref (He.ga K C)) dd) := by rw [← hH, L2.upd_same]
  have hx : ∀ dx, dd = some dx → H1 dx = some (.xd (fs.zip (fv.map Prod.fst))) := fun dx e => by
    rcases hd with ⟨e', _⟩ | ⟨dx', e', h⟩
    · rw [e] at e'; cases e'
    · rw [e] at e'; cases e'
      rw [← hH, L2.upd_ne (L2.ne_of_none h na)]; exact h
  let G' : Hp := fun b => if b = a ∨ b ∈ f1 ∨ dd = some b then H1 b else G b
  have gg : GSub G G' := fun b o e => by
    show (if b = a ∨ b ∈ f1 ∨ dd = some b then H1 b else G b) = some o
    split
    · exact g b o e
    · exact e
  have gH : GSub G' H1 := fun b o e => by
    have e : (if b = a ∨ b ∈ f1 ∨ dd = some b then H1 b else G b) = some o := e
    split at e
    · exact e
    · exact g b o e
  have fr : Reps K G' H1 (fv.map fun x => (x.1, x.2.frz)) [] := r1.freeze gg fun b o m e => by
    show (if b = a ∨ b ∈ f1 ∨ dd = some b then H1 b else G b) = some o
    rw [if_pos (.inr (.inl m))]; exact e
  refine ⟨G', f2, gH, Reps.exn (dd := dd) (kvs := fs.zip (fv.map Prod.fst)) (C := fv.map fun x => (x.1, x.2.frz)) ?_ ?_ ?_ ?_ ?_ fr (r2.mono gg fun _ _ _ h => h), n2, fun b m => ?_⟩
  · show (if a = a ∨ a ∈ f1 ∨ dd = some a then H1 a else G a) = _
    rw [if_pos (.inl rfl)]; exact ha
  · rcases hd with ⟨e, e2, e3⟩ | ⟨dx, e, h⟩
    · exact .inl ⟨e, by rw [e2, e3]; rfl⟩
    · refine .inr ⟨dx, e, ?_⟩
      show (if dx = a ∨ dx ∈ f1 ∨ dd = some dx then H1 dx else G dx) = _
      rw [if_pos (.inr (.inr e))]
      exact hx dx e
  · rw [List.map_fst_zip (by simp [hl])]
  · rw [List.map_snd_zip (by simp [hl]), List.map_map]; rfl
  · rw [List.map_map, D.frzs_map, List.map_map]; rfl
  · have ow := reps_ownX r2 b m
    show (if b = a ∨ b ∈ f1 ∨ dd = some b then H1 b else G b) = none
    rw [if_neg]
    · exact z b (List.mem_append_right _ m)
    · rintro (rfl | q | q)
      · exact ow.1 _ ha
      · exact n3 b q b m rfl
      · exact ow.2 _ (hx b q)
theorem Joint.exn_at {a : V} {C : Str} {fs : List Str} {xs : List D} (j : Joint K H ((a, .exn C fs xs) :: R)) : ∃ p dd vs, a = .ref p ∧ H p = some (exk p (.ref (He.ga K C)) dd) ∧ vs.length = fs.length ∧ vs.length = xs.length ∧ (dd = none ∧ fs = [] ∨ ∃ dx, dd = some dx ∧ H dx = some (.xd (fs.zip vs))) ∧ Joint K H (vs.zip xs ++ R) := by
  obtain ⟨G, fp, g, r, n, z⟩ := j
  cases r with
  | @exn p dd c fs kvs C ds L fp a b e1 e2 e3 r1 r2 =>
    subst e1 e3
    refine ⟨p, dd, kvs.map Prod.snd, rfl, g _ _ a, by simp, by rw [← e2]; simp, ?_, G, _, g, ?_, n, z⟩
    · rcases b with ⟨b1, b2⟩ | ⟨dx, b1, b2⟩
      · exact .inl ⟨b1, by rw [b2]; rfl⟩
      · refine .inr ⟨dx, b1, ?_⟩
        rw [List.zip_map', show (kvs.map fun x => (x.1, x.2)) = kvs by simp]
        exact g _ _ b2
    · rw [← e2, zip_map]
      have q := r1.append r2
      rwa [List.nil_append] at q
end
abbrev ClM := List Str × Nat × SM
section
variable {c : Cfg} {X : Cx}
inductive HdD (X : Cx) (c : Cfg) (dom : List Str) : List ExceptHandler → List ClM → Prop
  | nil : HdD X c dom [] []
  | cons {t : Expr} {n : Str} {i : Nat} {cs : List Str} {f : SM} {b₀ : Stmt} {suite : List Stmt} {pos' : Pos} {hds : List ExceptHandler} {l : List ClM} (hi : X.N[i]? = some n) (hln : X.env.kindOf n = some .local) (hp : c.PV[i]? = some none)
      (ht : ∀ C ∈ dom, ExTest X t (.ref (He.ga X.K C)) (decide (C ∈ cs))) (hsu : ∀ (a : Addr) (pn : List (Addr × Obj)), PSs (X.suite a pn) (b₀ :: suite) (U { c with W := fun _ _ _ _ => False } f)) (r : HdD X c dom hds l) :
      HdD X c dom (.ExceptHandler (some t) (some n) (b₀ :: suite) pos' :: hds) ((cs, i, f) :: l)
end
end WF
namespace PySem.W
open PySem PySem.Spec PySem.Calls PyProof.Rows
section
variable {prog : Program} {w : World} {A : Around} {E : Value → Shared → Prop} {s : Shared} {K : Frag} {x D : Addr} {ox : Obj} {od : Option Obj}
theorem findObj_dsc {C : Addr} {name : Str} {a g : Value} (hc : (clsIn K C).isSome = true) (ha : findIn K (.ref C) name = some (some a)) (hg : specialIn K a "__get__" = some (some g)) (ht : takesIn K a = some true) : findObj K C od name = some (.bind g a) := by
  obtain ⟨cd, hc⟩ := Option.isSome_iff_exists.mp hc
  unfold findObj
  rw [hc, Option.bind_some, ha, Option.bind_some]
  simp [hg, ht]
theorem exn_clsat {Q : Option Value → Shared → Prop} (C : L2.ExcC K D) (KX : K.In s.heap) (I : InstAt s.heap x ox D od) (h : Q (some (.ref D)) { s with toks := s.toks + 1 }) : wpAny (model prog w) A (getAttr? (.ref x) "__class__") Q E s := by
  have hf : findObj K D od "__class__" = some (.bind (.builtin "getset_descriptor.__get__") (.builtin "object.__class__")) := findObj_dsc (by obtain ⟨cd, hc, _⟩ := any_some C.hd; rw [hc]; rfl) C.ha C.hn C.ht
  obtain ⟨hp, g, d, t, os⟩ := s
  have l0 := I.type (M := model prog w)
  have l1 := looks_findIn (M := model prog w) KX C.hg
  have l2 := looks_findIn (M := model prog w) KX C.hk
  have l3 := looks_find (M := model prog w) KX I hf
  have lsub : Looks (model prog w) hp (isInstance (.ref x) (.type "BaseException")) true := l0.andThen (looks_subIn KX C.hs)
  have a2 : (Value.builtin "BaseException.__getattribute__" == Value.builtin "object.__getattribute__") = false := by decide +kernel
  have a1 : (onTheHeap (Value.ref D) && Value.builtin "BaseException.__getattribute__" == Value.builtin "object.__getattribute__") = false := by rw [a2]; rfl
  unfold getAttr? getAttrBy? getAttrBy
  refine wpAny_bind (wpAny_mkText (wpAny_bind (wpAny_attempt (wpAny_holding (wpAny_bind (l0.at (wpAny_bind (l1.at ?_))))))))
  show wpAny _ _ (if (onTheHeap (Value.ref D) && Value.builtin "BaseException.__getattribute__" == Value.builtin "object.__getattribute__") = true then _ else _) _ _ _
  rw [a1, if_neg Bool.false_ne_true]
  unfold getAttrByItsOwn hookBefore
  refine wpAny_bind ?_
  rw [if_pos (show onTheHeap (Value.ref D) = true from rfl)]
  refine l2.at ?_
  refine wpAny_bind (wpAny_attempt (wpAny_holding ?_))
  unfold callGetattribute
  rw [show (false && onTheHeap (Value.builtin "BaseException.__getattribute__")) = false from rfl, if_neg Bool.false_ne_true]
  unfold boundAndCalled
  rw [PySem.F.excAttr_ValueError.ga.bind (.ref x)]
  refine wpAny_bind (wpAny_pure ?_)
  show wpAny _ _ (call (.builtin "BaseException.__getattribute__") [.ref x, .str "__class__" t]) _ _ _
  refine wpAny_call (codeAny_call_builtin PySem.F.excAttr_ValueError.ga.plain PySem.F.entry_bexc_ga ?_)
  refine @check_slot (model prog w) _ _ ⟨hp, g, d, t + 1, os⟩ "BaseException.__getattribute__" "BaseException" "__getattribute__" (.ref x) [.str "__class__" t] [] _ (by decide +kernel) (by decide +kernel) lsub (PySem.F.args_bexc_ga (.ref x) (.str "__class__" t)) ?_
  unfold Builtin.«object.__getattribute__»
  refine wpAny_bind (wpAny_of_eq (a := ((Value.ref x : Value), [Value.str "__class__" t])) (by first | rfl | (simp only [slotArgs]; rfl)) ?_)
  refine wpAny_bind (wpAny_pure (wpAny_bind (l0.at (wpAny_bind (l3.at ?_)))))
  show wpAny _ _ (holding [Value.builtin "object.__class__"] (call (.builtin "getset_descriptor.__get__") [.builtin "object.__class__", .ref x, .ref D]) >>= ret) _ _ _
  refine wpAny_bind (wpAny_holding (wpAny_call (class_get (s := ⟨hp, g, d, t + 1, os⟩) (ox := ox) (od := od) KX I C.hm ?_)))
  refine wpAny_pure ?_
  show wpAny _ _ (handedOut (.ref D)) _ _ _
  rw [handedOut_of (v := .ref D) rfl]
  first
    | exact wpAny_pure (wpAny_pure h)
    | exact wpAny_pure h
    | exact wpAny_pure (wpAny_bind (wpAny_pure (wpAny_pure h)))
theorem kitx_exn (C : L2.ExcC K D) : KitX K (.ref x) (.ref D) (fun h => InstAt h x ox D od) where
  ty := fun _ _ _ I => I.type
  it := fun _ _ KX _ => by
    obtain ⟨cdD, hcD, _⟩ := any_some C.hd
    unfold clsIn at hcD
    split at hcD
    · rename_i c' d' cd' sl' ho
      intro A' Q' E' s' k q
      unfold isType loadHead
      exact wpAny_bind (wpAny_loadPart (k _ _ (KX _ _ ho)) (wpAny_pure q))
    · cases hcD
  ne := fun h tp dd its n sl KX htp => by
    obtain ⟨cdD, hcD, _⟩ := any_some C.hd
    refine Bool.eq_false_iff.mpr fun q => ?_
    have e : D = tp := Value.ref.inj (beq_iff_eq.mp q)
    subst e
    unfold clsIn at hcD
    split at hcD
    · rename_i c' d' cd' sl' ho
      have z := (KX _ _ ho).symm.trans htp
      cases z
    · cases hcD
  ca := fun KX I k => exn_clsat C KX I k
end
end PySem.W
namespace WF
open PySem PySem.Spec PyProof.Rows L2
theorem exk_inst {X : Cx} {pins : List (Addr × Obj)} {σ : L2.St} {H : Hp} {s : Shared} {a C : Addr} {dd : Option Addr} (I : Inv X pins σ H s) (e : H a = some (exk a (.ref C) dd)) (hd : dd = none ∨ ∃ dx kvs, dd = some dx ∧ H dx = some (.xd kvs)) : ∃ ox od, PySem.W.InstAt s.heap a ox C od ∧ ∀ dx, dd = some dx → ∃ o, od = some o ∧ s.heap.get? dx = some o := by
  obtain ⟨o, vs, h1, h2, h3, h4⟩ := exk_at I.hok e
  have nc : PySem.W.notCls o = true := by unfold PySem.W.notCls; rw [h4] <;> rfl
  rcases hd with rfl | ⟨dx, kvs, rfl, hx⟩
  · exact ⟨o, none, ⟨h1, h2, nc, by rw [h3]; trivial⟩, fun dx q => by cases q⟩
  · obtain ⟨od, ho⟩ := objOk_get (I.hok dx _ hx)
    exact ⟨o, some od, ⟨h1, h2, nc, by rw [h3]; exact ho⟩, fun dy q => by cases q; exact ⟨od, rfl, ho⟩⟩
def XIs (K : PySem.W.Frag) (H : Hp) (v : V) (C : Addr) : Prop := ∃ a dd, v = .ref a ∧ H a = some (exk a (.ref C) dd) ∧ (dd = none ∨ ∃ dx kvs, dd = some dx ∧ H dx = some (.xd kvs)) ∧ ExcC K C
def rIxE (K : PySem.W.Frag) : List V → Hp → VK → Prop := fun xs H Q => ∃ (x c : V) (C : Addr) (u : Value) (b : Bool), xs = [x, c] ∧ ClsV c u ∧ XIs K H x C ∧ PySem.W.kitOne K (.ref C) u = some b ∧ Q (.bl b) H
def rIxT (K : PySem.W.Frag) : List V → Hp → VK → Prop := fun xs H Q => ∃ (x : V) (tp : Addr) (cs : List V) (C : Addr) (us : List Value) (b : Bool), xs = [x, .ref tp] ∧ H tp = some (.tup cs) ∧ Paired ClsV cs us ∧ XIs K H x C ∧ PySem.W.kitAny K (.ref C) us = some b ∧ Q (.bl b) H
section
variable {X : Cx}
theorem call_ixE : CallR X (.builtin "isinstance") (rIxE X.K) := by
  intro pins s σ H xs us Q I r h
  obtain ⟨x, c, C, u, b, rfl, k, ⟨a, dd, rfl, ea, hd, EC⟩, e, q⟩ := h
  cases r with
  | cons rx rr =>
    cases rr with
    | cons rt rr =>
      cases rr
      cases rx
      have e2 := k.eq rt
      subst e2
      obtain ⟨ox, od, J, _⟩ := exk_inst I ea hd
      exact PySem.W.kia_one (PySem.W.kitx_exn EC) I.kIn J e (fun z => nomatch z) fun tk => ⟨.bl b, H, I.tok tk, rfl, q⟩
theorem call_ixT : CallR X (.builtin "isinstance") (rIxT X.K) := by
  intro pins s σ H xs us Q I r h
  obtain ⟨x, tp, cs, C, ws, b, rfl, hT, k, ⟨a, dd, rfl, ea, hd, EC⟩, e, q⟩ := h
  cases r with
  | cons rx rr =>
    cases rr with
    | cons rt rr =>
      cases rr
      cases rx
      rename_i u2
      cases (show u2 = Value.ref tp from rt)
      obtain ⟨_, its, rv, o, h1, h2, n, h3⟩ := (show ObjOk X.prog X.w H s.heap tp (.tup cs) from I.hok tp _ hT)
      have e3 := ClsV.all k rv
      subst e3
      obtain ⟨ox, od, J, _⟩ := exk_inst I ea hd
      obtain ⟨oc, odi, oda, osl⟩ := o
      dsimp only at h2 h3
      subst h2 h3
      exact PySem.W.kia_tup (PySem.W.kitx_exn EC) I.kIn J h1 e (fun z => nomatch z) fun tk => ⟨.bl b, H, I.tok tk, rfl, q⟩
def rIx (K : PySem.W.Frag) : List V → Hp → VK → Prop := fun xs H Q => (rIsi K xs H Q ∨ rIsiT K xs H Q) ∨ (rIxE K xs H Q ∨ rIxT K xs H Q)
theorem call_ix : CallR X (.builtin "isinstance") (rIx X.K) := CallR.or (CallR.or call_isi call_isiT) (CallR.or call_ixE call_ixT)
end
end WF
namespace WF
open PySem PySem.Spec PyProof.Rows L2
inductive XC where
  | own (y : Str) | ty (n : String)
  deriving DecidableEq
def xBases : List (Str × List String) := [("Unreachable", ["ValueError"]), ("InvalidCommand", ["ValueError"]), ("InvalidWord", ["ValueError"]), ("InvalidLine", ["ValueError"]), ("InvalidState", ["ValueError"]),
  ("UnknownGroup", ["LookupError"]), ("NoSuchSize", ["LookupError"]), ("BadIndex", ["LookupError"]), ("NoSuchDepth", ["LookupError"]), ("IllegalMove", ["RuntimeError"]), ("NotEnough", ["RuntimeError"]), ("LastPeople", ["RuntimeError"]),
  ("TooLong", ["OverflowError", "ArithmeticError"]), ("TooMany", ["OverflowError", "ArithmeticError"]), ("TooManyGroups", ["OverflowError", "ArithmeticError"])]
def xsub (c : Str) : XC → Bool
  | .own y => decide (c = y)
  | .ty n => ((xBases.lookup c).getD []).contains n
def XC.v (K : PySem.W.Frag) : XC → V
  | .own y => .ref (He.ga K y)
  | .ty n => .ty n
def XC.u (K : PySem.W.Frag) : XC → Value
  | .own y => .ref (He.ga K y)
  | .ty n => .type n
def isxD (dom : List Str) (cs : List XC) : D → Option D
  | .non => some (.bl false)
  | .exn c _ _ => if c ∈ dom then some (.bl (cs.any (xsub c))) else none
  | _ => none
def attrD (dom : List Str) (f : Str) : D → Option D
  | .exn c fs xs => if c ∈ dom then (fs.zip xs).lookup f else none
  | _ => none
structure XDom (K : PySem.W.Frag) (dom : List Str) (cs : List XC) (fl : List Str) : Prop where
  is : ∀ c ∈ dom, ∀ y ∈ cs, PySem.W.kitOne K (.ref (He.ga K c)) (y.u K) = some (xsub c y)
  no : ∀ y ∈ cs, PySem.W.kitOne K (.type "NoneType") (y.u K) = some false
  ex : ∀ c ∈ dom, ExcC K (He.ga K c)
  fld : ∀ c ∈ dom, ∀ f ∈ fl, PySem.W.findIn K (.ref (He.ga K c)) f = some none
def excB (K : PySem.W.Frag) (D : Addr) : Bool := decide (PySem.W.findIn K (.ref D) "__getattribute__" = some (some (.builtin "BaseException.__getattribute__"))) && (decide (PySem.W.findIn K (.ref D) "__getattr__" = some none) && (decide (PySem.W.subIn K (.ref D) (.type "BaseException") = some true) &&
  (PySem.W.hasDictIn K D && (decide (PySem.W.findIn K (.ref D) "__class__" = some (some (.builtin "object.__class__"))) && (decide (PySem.W.specialIn K (.builtin "object.__class__") "__get__" = some (some (.builtin "getset_descriptor.__get__"))) && (decide (PySem.W.takesIn K (.builtin "object.__class__") = some true) && decide (PySem.W.mroIn K D (.type "object") = some true)))))))
theorem excB_ok {K : PySem.W.Frag} {D : Addr} (h : excB K D = true) : ExcC K D := by
  unfold excB at h
  simp only [Bool.and_eq_true, decide_eq_true_eq] at h
  obtain ⟨h1, h2, h3, h4, h5, h6, h7, h8⟩ := h
  exact ⟨h1, h2, h3, h4, h5, h6, h7, h8⟩
def xdomB (K : PySem.W.Frag) (dom : List Str) (cs : List XC) (fl : List Str) : Bool := (dom.all fun c => cs.all fun y => decide (PySem.W.kitOne K (.ref (He.ga K c)) (y.u K) = some (xsub c y))) && ((cs.all fun y => decide (PySem.W.kitOne K (.type "NoneType") (y.u K) = some false)) && ((dom.all fun c => excB K (He.ga K c)) &&
  (dom.all fun c => fl.all fun f => decide (PySem.W.findIn K (.ref (He.ga K c)) f = some none))))
theorem xdomB_ok {K : PySem.W.Frag} {dom : List Str} {cs : List XC} {fl : List Str} (h : xdomB K dom cs fl = true) : XDom K dom cs fl := by
  unfold xdomB at h
  simp only [Bool.and_eq_true, List.all_eq_true, decide_eq_true_eq] at h
  obtain ⟨h1, h2, h3, h4⟩ := h
  exact ⟨h1, h2, fun c m => excB_ok (h3 c m), h4⟩
theorem clsV_x {K : PySem.W.Frag} : ∀ y : XC, ClsV (y.v K) (y.u K)
  | .own y => .own _
  | .ty n => .ty n
section
variable {c : Cfg} {X : Cx} {dom : List Str} {cs cs0 : List XC} {fl : List Str} {y : XC} {e ce : Expr} {fe : EM} {p pos cpos : Pos} {k : Nat} {ces : List Expr}
theorem px_own {n : Str} (hg : Gl X n) (hm : X.mg n = some (.ref (He.ga X.K n))) (hd : (n == ("__debug__" : Str)) = false := by decide) : PE X (.Name n pos) (tC (XC.v X.K (.own n))) := pe_glob (v := .ref (He.ga X.K n)) hg hm rfl hd
theorem px_ty {x : Str} {n : String} (hg : Gl X x) (hm : X.mg x = none) (hv : bootBuiltins x = some (.type n)) (hn : x ≠ "__name__" := by decide) (hd : (x == ("__debug__" : Str)) = false := by decide) : PE X (.Name x pos) (tC (XC.v X.K (.ty n))) := pe_bltn (v := .ty n) hg hm hv rfl hn hd
theorem is_x {K : PySem.W.Frag} {H : Hp} {R : List Pr} {v : V} {d b : D} (xd : XDom K dom cs0 fl) (hs : ∀ y ∈ cs, y ∈ cs0) (h : isxD dom cs d = some b) (j : Joint K H ((v, d) :: R)) : ∃ q, b = .bl q ∧ ((TyX K H v (.type "NoneType") ∧ (∀ y ∈ cs, PySem.W.kitOne K (.type "NoneType") (y.u K) = some false) ∧ q = false) ∨ ∃ C, XIs K H v C ∧ ∃ pr : XC → Bool, (∀ y ∈ cs, PySem.W.kitOne K (.ref C) (y.u K) = some (pr y)) ∧ q = cs.any pr) := by
  unfold isxD at h
  split at h
  · cases h
    have e := j.is_non
    subst e
    exact ⟨_, rfl, .inl ⟨.base .non, fun y m => xd.no y (hs y m), rfl⟩⟩
  · rename_i c fs xs
    split at h
    · rename_i hc
      cases h
      obtain ⟨a, dd, vs, rfl, ea, l1, l2, hd, _⟩ := j.exn_at
      exact ⟨_, rfl, .inr ⟨_, ⟨a, dd, rfl, ea, hd.imp (·.1) (fun ⟨dx, q1, q2⟩ => ⟨dx, _, q1, q2⟩), xd.ex c hc⟩, xsub c, fun y m => xd.is c hc y (hs y m), rfl⟩⟩
    · cases h
  · cases h
theorem w_isx1 (xd : XDom X.K dom cs0 fl) (hK : c.K = X.K) (hy : y ∈ cs0) (hg : Gl X "isinstance") (hm : X.mg "isinstance" = none) (hv : bootBuiltins "isinstance" = some (.builtin "isinstance")) (he : PE X e (T c fe)) (hc : PE X ce (tC (y.v X.K)))
    (hes : starEach [e, ce] X.env = (false, eval e X.env) :: starEach [ce] X.env := by rfl) (hes2 : starEach [ce] X.env = (false, eval ce X.env) :: starEach [] X.env := by rfl) (hpl : (backTo pos (starEach [ce] X.env)).any (·.1) = false := by rfl) :
    PE X (.Call (.Name "isinstance" p) [e, ce] [] pos) (T c (unM (isxD dom [y]) fe)) :=
  pe_mono (pe_callB call_ix hg hm hv (pa_cons he (pa_cons hc pa_nil hes2) hes) (by decide) (by decide) hes hpl) fun σ H Q h => by
    obtain ⟨S, tm, j, q⟩ := h
    show T c fe σ H _
    refine (post_bind j q).mono fun v H1 ⟨d, S1, j1, p1⟩ => ?_
    obtain ⟨b, e1, q1⟩ := post_opt p1
    show rIx X.K [v, y.v X.K] H1 Q
    have jt := j1.take
    rw [hK] at jt
    obtain ⟨r, rfl, alt⟩ := is_x (cs := [y]) xd (fun z m => by rw [List.mem_singleton.mp m]; exact hy) e1 jt
    have fin : Q (.bl r) H1 := q1 _ _ (j1.put (j_bl H1 _ j1.drop.jt))
    rcases alt with ⟨t, z, rfl⟩ | ⟨C, xi, pr, z, rfl⟩
    · exact .inl (.inl ⟨v, _, _, _, _, rfl, clsV_x y, t, z y List.mem_cons_self, fin⟩)
    · refine .inr (.inl ⟨v, _, C, _, _, rfl, clsV_x y, xi, z y List.mem_cons_self, ?_⟩)
      have e2 : [y].any pr = pr y := by simp
      rw [e2] at fin
      exact fin
theorem look_zip {fs : List Str} {f : Str} {v0 : V} : ∀ {vs : List V} {xs : List D} {d : D}, vs.length = fs.length → vs.length = xs.length → (fs.zip xs).lookup f = some d → ∃ v, (fs.zip vs).lookup f = some v ∧ ∀ {K : PySem.W.Frag} {H : Hp} {R : List Pr}, Joint K H (vs.zip xs ++ R) → Joint K H ((v, d) :: R) := by
  induction fs with
  | nil => intro vs xs d h1 h2 h; simp at h
  | cons g fs ih =>
    intro vs xs d h1 h2 h
    cases vs with
    | nil => simp at h1
    | cons v vs =>
      cases xs with
      | nil => simp at h2
      | cons x xs =>
        rw [List.zip_cons_cons, List.lookup_cons] at h
        cases hf : f == g with
        | true =>
          rw [hf] at h
          cases h
          refine ⟨v, by rw [List.zip_cons_cons, List.lookup_cons, hf], fun {K H R} j => ?_⟩
          have j1 : Joint K H ((v, d) :: (vs.zip xs ++ R)) := j
          have j2 : Joint K H (vs.zip xs ++ ((v, d) :: R)) := j1.perm perm_take.symm
          exact j2.dropL
        | false =>
          rw [hf] at h
          obtain ⟨w, e, k⟩ := ih (by simpa using h1) (by simpa using h2) h
          refine ⟨w, by rw [List.zip_cons_cons, List.lookup_cons, hf]; exact e, fun {K H R} j => k (Joint.drop (x := (v, x)) j)⟩
theorem w_attr {f : Str} (xd : XDom X.K dom cs0 fl) (hK : c.K = X.K) (hf : f ∈ fl) (he : PE X e (T c fe)) (hb : attributeBase e f X.env (eval e X.env) = eval e X.env := by rfl) : PE X (.Attribute e f pos) (T c (unM (attrD dom f) fe)) := by
  refine ⟨fun pins s σ H Q I h => ?_⟩
  obtain ⟨S, tm, j, q⟩ := h
  refine attr_of hb (thn (he.run pins s σ H _ I (post_bind j q)) fun u s1 hh => ?_)
  obtain ⟨x, H1, I1, rx, d, S1, j1, p1⟩ := hh
  obtain ⟨b, e1, q1⟩ := post_opt p1
  unfold attrD at e1
  split at e1
  · rename_i C fs xs
    split at e1
    · rename_i hC
      have jt := j1.take
      obtain ⟨a, dd, vs, rfl, ea, l1, l2, hd, jr⟩ := jt.exn_at
      obtain rfl : u = Value.ref a := rx
      obtain ⟨v, lv, kv⟩ := look_zip (v0 := .non) l1 l2 e1
      rcases hd with ⟨_, rfl⟩ | ⟨dx, rfl, hx⟩
      · simp at lv
      · rw [hK] at ea
        obtain ⟨ox, od, J, hod⟩ := exk_inst I1 ea (.inr ⟨dx, _, rfl, hx⟩)
        obtain ⟨o, rfl, ho⟩ := hod dx rfl
        have hxo : ObjOk X.prog X.w H1 s1.heap dx (.xd (fs.zip vs)) := I1.hok dx _ hx
        obtain ⟨mA, hns, hr⟩ := hxo
        obtain ⟨od', ho', hl⟩ := lookIn_ns hns
        rw [ho] at ho'; cases ho'
        obtain ⟨w, hw, rw'⟩ := RelO.some_of (v := v) (o := mA f) (by rw [← lv]; exact hr f)
        have EC := xd.ex C hC
        refine PySem.HandSPX.exc_get I1.kIn J EC.hg EC.hk EC.hs (PySem.W.findObj_own EC.hd (xd.fld C hC f hf) rfl (by rw [hl, hw])) (handed_of rw') ⟨v, H1, I1.tok _, rw', ?_⟩
        exact q1 v H1 (j1.put (kv jr))
    · cases e1
  · cases e1
end
end WF
namespace WF
open PySem PySem.Spec PyProof.Rows L2
def oexB (K : PySem.W.Frag) (C : Addr) (bmB : List Value) (newId : String) : Bool := match K.lookup C with
  | some ⟨.type "type", _, .cls cd, sl⟩ => (match cd.mro, sl.toList with
    | .ref C' :: bm, [_, _, _, _, some (.builtin n), _] => C' == C && (n == newId && (!cd.hasDel && (cd.hasDict && bm == bmB)))
    | _, _ => false)
  | _ => false
def xrB (K : PySem.W.Frag) (x f : Str) (newId : String) (bmB : List Value) : Bool := oexB K (He.ga K x) bmB newId && (decide (PySem.W.findIn K (.ref (He.ga K x)) "__setattr__" = some (some (.builtin "object.__setattr__"))) &&
  (decide (PySem.W.subIn K (.ref (He.ga K x)) (.type "BaseException") = some true) && (decide (PySem.W.typeIn K (.ref (He.ga K x)) = some (.type "type")) && (PySem.W.keepIn K (.ref (He.ga K x)) &&
  (decide (PySem.W.findIn K (.ref (He.ga K x)) f = some none) && (decide (PySem.W.findIn K (.ref (He.ga K x)) "__init__" = some (some (.ref (He.ma K (He.ga K x) "__init__")))) && decide (PySem.W.typeIn K (.ref (He.ma K (He.ga K x) "__init__")) = some (.type "function"))))))))
theorem oexB_ok {K : PySem.W.Frag} {C : Addr} {bmB : List Value} {newId : String} (q : oexB K C bmB newId = true) : ∃ nm qn N bs sn sub ab col dd k0 k1 k2 k3 k5, K.lookup C = some (excClassObj nm qn C N bs bmB true sn sub ab col dd k0 k1 k2 k3 k5 newId) := by
  unfold oexB at q
  split at q
  · rename_i dd cd sl ho
    split at q
    · rename_i C' bm k0 k1 k2 k3 n k5 hm hs
      simp only [Bool.and_eq_true, beq_iff_eq, Bool.not_eq_true'] at q
      obtain ⟨rfl, rfl, hdel, hdc, rfl⟩ := q
      obtain ⟨nm, bs, mro, ns, qn, hd, sn, sub, ab, col, del⟩ := cd
      dsimp only at hm hdel hdc
      subst hm hdel hdc
      have hsl : sl = #[k0, k1, k2, k3, some (.builtin n), k5] := by
        obtain ⟨l⟩ := sl
        simp only at hs
        rw [hs]
      subst hsl
      exact ⟨nm, qn, ns, bs, sn, sub, ab, col, dd, k0, k1, k2, k3, k5, ho⟩
    · cases q
  · cases q
structure XrF (K : PySem.W.Frag) (x f : Str) (newId : String) (bmB : List Value) : Prop where
  o : OexB K (He.ga K x) newId bmB
  nf : PySem.W.findIn K (.ref (He.ga K x)) f = some none
  ini : PySem.W.findIn K (.ref (He.ga K x)) "__init__" = some (some (.ref (He.ma K (He.ga K x) "__init__")))
  ty : PySem.W.typeIn K (.ref (He.ma K (He.ga K x) "__init__")) = some (.type "function")
theorem xrB_ok {K : PySem.W.Frag} {x f : Str} {newId : String} {bmB : List Value} (h : xrB K x f newId bmB = true) : XrF K x f newId bmB := by
  unfold xrB at h
  simp only [Bool.and_eq_true, decide_eq_true_eq] at h
  obtain ⟨h1, h2, h3, h4, h5, h6, h7, h8⟩ := h
  exact ⟨⟨oexB_ok h1, h2, h3, h4, h5⟩, h6, h7, h8⟩
theorem xcF_mk {P : Program} {w : World} {K : PySem.W.Frag} {mg : Str → Option Value} {base : Heap} {x f : Str} {B newId initId : String} {bmB : List Value} {fd : FuncData} (b : BaseX B newId initId bmB) (r : XrF K x f newId bmB) (g : mg x = some (.ref (He.ga K x)))
    (F1 : FnOk P w K mg base (L2.CX P w) 1 (He.ma K (He.ga K x) "__init__") fd ["self", f] (spIni K newId bmB f)) (hb : Binds K fd ["self", f] []) : XcF P w K mg base x f :=
  ⟨⟨B, newId, initId, bmB, _, fd, b, r.o, r.nf, r.ini, r.ty, F1, hb⟩, g⟩
theorem cls_VE {K : PySem.W.Frag} : PySem.W.findCls K (.type "ValueError") (.type "type") "__init__" = some (.val (.builtin "ValueError.__init__")) := by kernel_rfl
theorem cls_LE {K : PySem.W.Frag} : PySem.W.findCls K (.type "LookupError") (.type "type") "__init__" = some (.val (.builtin "LookupError.__init__")) := by kernel_rfl
theorem cls_RE {K : PySem.W.Frag} : PySem.W.findCls K (.type "RuntimeError") (.type "type") "__init__" = some (.val (.builtin "RuntimeError.__init__")) := by kernel_rfl
theorem cls_OE {K : PySem.W.Frag} : PySem.W.findCls K (.type "OverflowError") (.type "type") "__init__" = some (.val (.builtin "OverflowError.__init__")) := by kernel_rfl
structure XCat (K : PySem.W.Frag) (mg : Str → Option Value) (dom cm : List Str) : Prop where
  ex : ∀ c ∈ dom, ∀ y ∈ cm, PySem.W.exmOne K (.ref (He.ga K c)) (.ref (He.ga K y)) = some (decide (c = y))
def xcatB (K : PySem.W.Frag) (dom cm : List Str) : Bool := dom.all fun c => cm.all fun y => decide (PySem.W.exmOne K (.ref (He.ga K c)) (.ref (He.ga K y)) = some (decide (c = y)))
theorem xcatB_ok {K : PySem.W.Frag} {mg : Str → Option Value} {dom cm : List Str} (h : xcatB K dom cm = true) : XCat K mg dom cm := by
  unfold xcatB at h
  simp only [List.all_eq_true, decide_eq_true_eq] at h
  exact ⟨h⟩
section
variable {X : Cx} {dom cm : List Str} {x1 x2 x3 x4 : Str} {p1 p2 p3 p4 tp : Pos} {kk : Nat}
end
theorem bt_ValueError : bootBuiltins "ValueError" = some (.type "ValueError") := by decide +kernel
theorem bt_LookupError : bootBuiltins "LookupError" = some (.type "LookupError") := by decide +kernel
theorem bt_RuntimeError : bootBuiltins "RuntimeError" = some (.type "RuntimeError") := by decide +kernel
theorem bt_OverflowError : bootBuiltins "OverflowError" = some (.type "OverflowError") := by decide +kernel
theorem bt_KeyError : bootBuiltins "KeyError" = some (.type "KeyError") := by decide +kernel
theorem bt_IndexError : bootBuiltins "IndexError" = some (.type "IndexError") := by decide +kernel
end WF
namespace PySem
namespace XKw
open PySem.W PySem.Calls PyProof.Rows PySem.HandSPX
section
variable {M : Model} {A : Around} {E : Value → Shared → Prop} {h : Heap} {g : Array GenState} {d : Drawn} {t : Nat} {os : OsState}
variable {nm q : Str} {C N : Addr} {bs bm bmB : List Value} {hdct : Bool} {sn : List Str} {sub : List Value} {ab : Bool} {col : Option Bool} {dd : Option Addr} {k0 k1 k2 k3 k5 : Option Value} {B newId initId : String} {f : Str} {v : Value}
theorem check_new_kw (F : ExcBaseFacts B newId initId bmB) (hT : ∀ X : String, bm.contains (.type X) = bmB.contains (.type X)) {Q : Unit → Shared → Prop}
    (hC : h.get? C = some (excClassObj nm q C N bs bm hdct sn sub ab col dd k0 k1 k2 k3 k5 newId)) (hq : Q () ⟨h, g, d, t, os⟩) : wpAny M A (checkBuiltinCall newId ⟨[.ref C], [(f, v)]⟩) Q E ⟨h, g, d, t, os⟩ := by
  have hcont : (Value.ref C :: bm).contains (.type B) = true := by rw [List.contains_cons, hT, F.hasB, Bool.or_true]
  have hstar := F.noStar
  simp only [checkBuiltinCall, F.newKind, F.newSplit, F.newRow]
  repeat (first | refine wpAny_loadPart_at hC ?_ | (refine wpAny_isSubtype_exc hC ?_; rw [hcont]) | refine wpAny_staticBase_exc hC ?_ | refine wpAny_madeBy_exc hC ?_ | simp only [bne_self_eq_false, Bool.false_eq_true, if_false] | wp_step)
  exact hq
theorem check_type_call_kw {Q : Unit → Shared → Prop} (hC : h.get? C = some (excClassObj nm q C N bs bm hdct sn sub ab col dd k0 k1 k2 k3 k5 newId))
    (hq : Q () ⟨h, g, d, t, os⟩) : wpAny M A (checkBuiltinCall "type.__call__" ⟨[.ref C], [(f, v)]⟩) Q E ⟨h, g, d, t, os⟩ := by
  have f3 := tc_sub
  have hT : (⟨h, g, d, t, os⟩ : Shared).TypeIs (.ref C) "type" := ⟨_, hC, rfl⟩
  simp only [checkBuiltinCall, tc_kind, tc_split]
  repeat (any_goals (first | assumption | with_reducible refine wpAny_loadPart_at hC ?_ | with_reducible refine wpAny_onRaise ?_ | with_reducible refine wpAny_map ?_ | wp_step))
end
section
variable {prog : Program} {w : World} {A : Around} {E : Value → Shared → Prop} {R : Result → Shared → Prop} {h : Heap} {g : Array GenState} {d : Drawn} {t : Nat} {os : OsState}
variable {nm q : Str} {C N : Addr} {bs bm bmB : List Value} {hdct : Bool} {sn : List Str} {sub : List Value} {ab : Bool} {col : Option Bool} {dd : Option Addr} {k0 k1 k2 k3 k5 : Option Value} {B newId initId : String} {f : Str} {v : Value}
theorem new_kw (F : ExcBaseFacts B newId initId bmB) (hT : ∀ X : String, bm.contains (.type X) = bmB.contains (.type X))
    (hC : h.get? C = some (excClassObj nm q C N bs bm hdct sn sub ab col dd k0 k1 k2 k3 k5 newId))
    (hq : R (.ok (.ret (.ref (h.objs.size + 1)))) ⟨(h.push { cls := .type "tuple", data := .seq #[] }).push
      { cls := .ref C, data := .fields #[.ref h.objs.size, .none, .none, .none, .bool false, .none] }, g, d, t, os⟩) :
    codeAny (model prog w) A (.builtin newId ⟨[.ref C], [(f, v)]⟩) R ⟨h, g, d, t, os⟩ := by
  have hends := F.ends
  have hcB : (Value.ref C :: bm).contains (.type B) = true := by rw [List.contains_cons, hT, F.hasB, Bool.or_true]
  have hcA : (Value.ref C :: bm).contains (.type "AttributeError") = false := by rw [List.contains_cons, hT, F.noAttr]; rfl
  have hcN : (Value.ref C :: bm).contains (.type "NameError") = false := by rw [List.contains_cons, hT, F.noName]; rfl
  refine codeAny_builtinAt F.entry ?_
  unfold Builtin.«BaseException.__new__»
  refine wpAt_bind ?_
  show wpAt _ _ _ (stack >>= _) _ _ _
  refine wpAt_bind (wpAt_stack fun p below => wpAt_of_wpAny ?_)
  wp_walk
  refine wpAt_of_wpAny ?_
  rw [F.owner]
  repeat (first | with_reducible refine wpAny_madeHere_exc F.canon hC ?_ | with_reducible refine wpAny_loadPart_at hC ?_ | (with_reducible refine wpAny_isSubtype_exc hC ?_; first | rw [hcB] | rw [hcA] | rw [hcN]) | wp_step)
  show R _ _
  rw [Heap.size_push]
  exact hq
theorem type_call_kw (F : ExcBaseFacts B newId initId bmB) (hT : ∀ X : String, bm.contains (.type X) = bmB.contains (.type X)) {fI : Addr} {Q : Fin → Shared → Prop}
    (hC : h.get? C = some (excClassObj nm q C N bs bm hdct sn sub ab col dd k0 k1 k2 k3 k5 newId))
    (hi : W.Looks (model prog w) h (typeLookup (.ref C) "__init__") (some (.ref fI))) (hb : ∀ self, W.Looks (model prog w) h (bindSpecial (.ref fI) self) (.ref fI, [self]))
    (hq : codeAny (model prog w) A (.call (.ref fI) ⟨[.ref (h.objs.size + 1)], [(f, v)]⟩)
      (fun r s' => match r with | .ok (.ret v) => v = .none ∧ Q (.done (.ret (.ref (h.objs.size + 1)))) s' | .ok _ => False | .error e => E e s')
      ⟨(h.push (W.kdv_tup [])).push (excO C h.objs.size), g, d, t, os⟩) :
    wpAny (model prog w) A (Builtin.«type.__call__» ⟨[.ref C], [(f, v)]⟩) Q E ⟨h, g, d, t, os⟩ := by
  repeat (first | with_reducible refine wpAny_loadPart_at hC ?_ | with_reducible refine wpAny_madeBy_exc hC ?_ | wp_step)
  refine codeAny_call_builtin_code (Code.quiet_builtin _ F.quiet) (check_new_kw F hT hC ?_)
  refine new_kw F hT hC ?_
  show wpAny _ _ _ _ _ _
  have k : ∀ b o, h.get? b = some o → ((h.push (W.kdv_tup [])).push (excO C h.objs.size)).get? b = some o := fun b o e => Heap.get?_push_of_some _ (Heap.get?_push_of_some _ e)
  have hC₁ := k _ _ hC
  have hget : ((h.push (W.kdv_tup [])).push (excO C h.objs.size)).get? (h.objs.size + 1) = some (excO C h.objs.size) := by heap_get
  have hcC : (Value.ref C :: bm).contains (.ref C) = true := by simp
  have i1 := hi.keeps k
  have b1 := (hb (.ref (h.objs.size + 1))).keeps k
  unfold isInstance
  repeat (first | with_reducible refine wpAny_loadPart_at hget ?_ | (with_reducible refine wpAny_isSubtype_exc hC₁ ?_; rw [hcC]) | wp_step)
  show wpAny _ _ (typeLookup (.ref C) _) _ _ _
  refine i1.at ?_
  refine wpAny_holding (wpAny_bind (b1.at ?_))
  refine wpAny_bind (wpAny_call (codeAny_mono hq fun r s' z => ?_))
  rcases r with e | (v | _ | _ | _) <;> first | exact z | exact z.elim | skip
  obtain ⟨rfl, z⟩ := z
  first
    | exact wpAny_pure (wpAny_pure z)
    | (wp_walk; exact z)
theorem call_kw (F : ExcBaseFacts B newId initId bmB) (hT : ∀ X : String, bm.contains (.type X) = bmB.contains (.type X)) {fI : Addr}
    (hC : h.get? C = some (excClassObj nm q C N bs bm hdct sn sub ab col dd k0 k1 k2 k3 k5 newId))
    (hi : W.Looks (model prog w) h (typeLookup (.ref C) "__init__") (some (.ref fI))) (hb : ∀ self, W.Looks (model prog w) h (bindSpecial (.ref fI) self) (.ref fI, [self]))
    (hq : codeAny (model prog w) (A.under (.builtin "type.__call__" ⟨[.ref C], [(f, v)]⟩)) (.call (.ref fI) ⟨[.ref (h.objs.size + 1)], [(f, v)]⟩) (W.InitBack (h.objs.size + 1) R)
      ⟨(h.push (W.kdv_tup [])).push (excO C h.objs.size), g, d, t, os⟩) :
    codeAny (model prog w) A (.call (.ref C) ⟨[], [(f, v)]⟩) R ⟨h, g, d, t, os⟩ := by
  have f1 := tc_lookup
  have f2 := tc_bind (.ref C)
  have hTy : (⟨h, g, d, t, os⟩ : Shared).TypeIs (.ref C) "type" := ⟨_, hC, rfl⟩
  refine codeAny_of_tree ?_
  show wpAny _ _ (callAny (.ref C) _) _ _ _
  repeat (any_goals (first | assumption | with_reducible refine wpAny_loadPart_at hC ?_ | wp_step))
  refine ⟨rfl, ?_⟩
  refine codeAny_call_builtin_at (Code.quiet_builtin _ (by decide +kernel)) entry_typeCall (check_type_call_kw hC (type_call_kw F hT hC hi hb ?_))
  refine codeAny_mono hq fun r s' z => ?_
  rcases r with e | (v | _ | _ | _) <;> exact z
end
end XKw
end PySem
namespace WF
open PySem PySem.Spec PyProof.Rows L2 PySem.HandSPX
structure KbX (K : PySem.W.Frag) (fd : FuncData) (f : Str) : Prop where
  to : ∀ (s : Shared) (a w : Value), K.In s.heap → BindsTo s fd ⟨[a], [(f, w)]⟩ [(("self" : Str), a), (f, w)]
theorem kbx_mk {K : PySem.W.Frag} {x q f : Str} {params : Arguments} {body : List Stmt} {scope : Scope} {fI : Addr} {fd : FuncData} (F : FunD K x q params body scope [] [] fI fd)
    (h : ∀ (kV doc pm : Value) (an : Option Addr) (cdv ct a w : Value), bindArgs (PySem.W.fnOf x q params body scope .none kV doc pm an cdv ct) ⟨[a], [(f, w)]⟩ = pure [(("self" : Str), a), (f, w)]) : KbX K fd f := by
  obtain ⟨oc, od, dV, kV, doc, pm, an, cdv, ct, osl, rfl, lk, hcd, hD, hK⟩ := F.ex
  rcases hD with ⟨_, rfl⟩ | ⟨e, _⟩
  · refine ⟨fun s a w X => BindsTo.of_looks fun M => ?_⟩
    rw [h]
    exact .of_pure rfl
  · exact absurd rfl e
def tPeX (C : Addr) (f : Str) (ta : TA) : TE := fun σ H Q => ta σ H fun vs H1 => ∃ y, vs = [y] ∧ ∀ a dx, H1 dx = none → H1 a = none → dx ≠ a → Q (.ref a) (L2.upd (L2.upd H1 dx (.xd [(f, y)])) a (exk a (.ref C) (some dx)))
section
variable {X : Cx} {pins : List (Addr × Obj)} {σ : L2.St} {H1 : Hp} {s : Shared} {a dx C : Addr} {f : Str} {y : V}
theorem mk_keep (I : Inv X pins σ (L2.upd (L2.upd (L2.upd H1 a (exo a C none)) dx (exd dx [(f, y)])) a (exo a C (some dx))) s) (ne : dx ≠ a) : Inv X pins σ (L2.upd (L2.upd H1 dx (.xd [(f, y)])) a (exk a (.ref C) (some dx))) s := by
  obtain ⟨hp, g, d, t, os⟩ := s
  have ea : (L2.upd (L2.upd (L2.upd H1 a (exo a C none)) dx (exd dx [(f, y)])) a (exo a C (some dx))) a = some (exo a C (some dx)) := L2.upd_same
  have ed : (L2.upd (L2.upd (L2.upd H1 a (exo a C none)) dx (exd dx [(f, y)])) a (exo a C (some dx))) dx = some (exd dx [(f, y)]) := by rw [L2.upd_ne ne, L2.upd_same]
  obtain ⟨t1, ho⟩ := exo_at I.hok ea
  obtain ⟨mA, hns, rel⟩ := exd_at I.hok ed
  have J := I.write (t' := t) (h' := hp) (x := a) (e := a) (o := exk a (.ref C) (some dx)) (by rw [ea]; exact True.intro) (.inl rfl) (fun _ _ _ z => z) ⟨_, ho⟩ (exk_ok ho ⟨rfl, rfl⟩ rfl)
  have ed2 : (L2.upd (L2.upd (L2.upd (L2.upd H1 a (exo a C none)) dx (exd dx [(f, y)])) a (exo a C (some dx))) a (exk a (.ref C) (some dx))) dx = some (exd dx [(f, y)]) := by rw [L2.upd_ne ne]; exact ed
  obtain ⟨od, hod⟩ : ∃ o, hp.get? dx = some o := by
    obtain ⟨o, es, ep, e1, _⟩ := hns
    exact ⟨o, e1⟩
  have J2 := J.write (t' := t) (h' := hp) (x := dx) (e := dx) (o := .xd [(f, y)]) (by rw [ed2]; exact True.intro) (.inl rfl) (fun _ _ _ z => z) ⟨_, hod⟩ ⟨mA, hns, rel⟩
  have eu : L2.upd (L2.upd (L2.upd (L2.upd (L2.upd H1 a (exo a C none)) dx (exd dx [(f, y)])) a (exo a C (some dx))) a (exk a (.ref C) (some dx))) dx (.xd [(f, y)]) = L2.upd (L2.upd H1 dx (.xd [(f, y)])) a (exk a (.ref C) (some dx)) := by
    funext b
    by_cases hb : b = dx
    · subst hb; rw [L2.upd_same, L2.upd_ne ne, L2.upd_same]
    · rw [L2.upd_ne hb]
      by_cases hc : b = a
      · subst hc; rw [L2.upd_same, L2.upd_same]
      · rw [L2.upd_ne hc, L2.upd_ne hc, L2.upd_ne hb, L2.upd_ne hc, L2.upd_ne hc, L2.upd_ne hb]
  rw [eu] at J2
  exact J2
end
section
variable {X : Cx} {x f : Str} {C fI : Addr} {fd : FuncData} {B newId initId : String} {bmB : List Value} {e : Expr} {ta : TA} {p pos : Pos}
theorem mk_run {pins : List (Addr × Obj)} {σ : L2.St} {H1 : Hp} {s1 : Shared} {Q : VK} {u : Value} {y : V} {us : List Value} {kw : List (Str × Value)} (b : BaseX B newId initId bmB) (T : OexB X.K C newId bmB) (hno : PySem.W.findIn X.K (.ref C) f = some none)
    (iC : PySem.W.findIn X.K (.ref C) "__init__" = some (some (.ref fI))) (tI : PySem.W.typeIn X.K (.ref fI) = some (.type "function"))
    (F1 : FnOk X.prog X.w X.K X.mg X.base (L2.CX X.prog X.w) 1 fI fd ["self", f] (spIni X.K newId bmB f)) (hr : Room 2 X.A)
    (hbd : ∀ (s : Shared) (a : Value), X.K.In s.heap → BindsTo s fd ⟨a :: us, kw⟩ [(("self" : Str), a), (f, u)]) (alt : (us = [u] ∧ kw = []) ∨ (us = [] ∧ kw = [(f, u)])) (I1 : Inv X pins σ H1 s1) (r1 : RelV y u)
    (q1 : ∀ a dx, H1 dx = none → H1 a = none → dx ≠ a → Q (.ref a) (L2.upd (L2.upd H1 dx (.xd [(f, y)])) a (exk a (.ref C) (some dx)))) :
    wpAny (model X.prog X.w) X.A (call (.ref C) us kw) (EP X pins σ Q) X.xe s1 := by
  obtain ⟨nm, q, N, bs, sn, sub, ab, col, dd, k0, k1, k2, k3, k5, hC⟩ := T.cls
  obtain ⟨hp, g, dr, tk, os⟩ := s1
  have hsz : hp.objs.size ≤ hp.objs.size + 1 := Nat.le_succ _
  have hn : H1 (hp.objs.size + 1) = none := I1.hok.fresh hsz
  have kk : ∀ b o, hp.get? b = some o → ((hp.push (PySem.W.kdv_tup us)).push (PySem.HandSPX.excO C hp.objs.size)).get? b = some o := fun b o z => Heap.get?_push_of_some _ (Heap.get?_push_of_some _ z)
  have hget : ((hp.push (PySem.W.kdv_tup us)).push (PySem.HandSPX.excO C hp.objs.size)).get? (hp.objs.size + 1) = some (PySem.HandSPX.excO C hp.objs.size) := by heap_get
  have I2 : Inv X pins σ (L2.upd H1 (hp.objs.size + 1) (exo (hp.objs.size + 1) C none)) ⟨(hp.push (PySem.W.kdv_tup us)).push (PySem.HandSPX.excO C hp.objs.size), g, dr, tk, os⟩ :=
    I1.laid (t' := tk) (a := hp.objs.size + 1) (o := exo (hp.objs.size + 1) C none) (h' := (hp.push (PySem.W.kdv_tup us)).push (PySem.HandSPX.excO C hp.objs.size)) kk hsz (exo_ok hget)
  have r2 : Vals [V.ref (hp.objs.size + 1), y] [Value.ref (hp.objs.size + 1), u] := .cons rfl (.cons r1 .nil)
  have bnd := hbd ⟨(hp.push (PySem.W.kdv_tup us)).push (PySem.HandSPX.excO C hp.objs.size), g, dr, tk, os⟩ (Value.ref (hp.objs.size + 1)) I2.kIn
  have wish : spIni X.K newId bmB f [V.ref (hp.objs.size + 1), y] (L2.upd H1 (hp.objs.size + 1) (exo (hp.objs.size + 1) C none)) (fun v H2 => v = .non ∧ ∃ dx, H1 dx = none ∧ dx ≠ hp.objs.size + 1 ∧ H2 = L2.upd (L2.upd (L2.upd H1 (hp.objs.size + 1) (exo (hp.objs.size + 1) C none)) dx (exd dx [(f, y)])) (hp.objs.size + 1) (exo (hp.objs.size + 1) C (some dx))) (fun _ _ _ => False) :=
    ⟨_, C, y, rfl, T, hno, L2.upd_same, fun dx n ne => ⟨rfl, dx, by rwa [L2.upd_ne ne] at n, ne, rfl⟩⟩
  rcases alt with ⟨rfl, rfl⟩ | ⟨rfl, rfl⟩
  · refine wpAny_call (PySem.HandSPX.call_own b.F (fun _ => rfl) (I1.kIn _ _ hC) (PySem.W.looks_findIn I1.kIn iC) (fun self => PySem.W.bind_fn I1.kIn self tI) (by rw [sizeLine_eq]; simp)
      (codeAny_mono (F1.run _ X.stack _ _ ⟨[Value.ref (hp.objs.size + 1), u], []⟩ [Value.ref (hp.objs.size + 1), u] _ _ (fun _ _ _ => False) (hr.make C [u] []) (I2.env0.make C [u] []) bnd r2 wish) fun r s' hq' => ?_))
    cases r with
    | error er => exact passes_no pins σ _ _ er s' I2 hq'
    | ok fl =>
      cases fl with
      | ret u' =>
        obtain ⟨v, H', I3, rv, ev, dx, n, ne, eH⟩ := I2.after hq'
        subst ev eH
        exact ⟨rv, ⟨V.ref (hp.objs.size + 1), _, mk_keep I3 ne, rfl, q1 _ dx n hn ne⟩⟩
      | next => exact False.elim hq'
      | brk => exact False.elim hq'
      | cont => exact False.elim hq'
  · refine wpAny_call (PySem.XKw.call_kw b.F (fun _ => rfl) (I1.kIn _ _ hC) (PySem.W.looks_findIn I1.kIn iC) (fun self => PySem.W.bind_fn I1.kIn self tI)
      (codeAny_mono (F1.run _ X.stack _ _ ⟨[Value.ref (hp.objs.size + 1)], [(f, u)]⟩ [Value.ref (hp.objs.size + 1), u] _ _ (fun _ _ _ => False) (hr.make C [] [(f, u)]) (I2.env0.make C [] [(f, u)]) bnd r2 wish) fun r s' hq' => ?_))
    cases r with
    | error er => exact passes_no pins σ _ _ er s' I2 hq'
    | ok fl =>
      cases fl with
      | ret u' =>
        obtain ⟨v, H', I3, rv, ev, dx, n, ne, eH⟩ := I2.after hq'
        subst ev eH
        exact ⟨rv, ⟨V.ref (hp.objs.size + 1), _, mk_keep I3 ne, rfl, q1 _ dx n hn ne⟩⟩
      | next => exact False.elim hq'
      | brk => exact False.elim hq'
      | cont => exact False.elim hq'
theorem pe_x (b : BaseX B newId initId bmB) (T : OexB X.K C newId bmB) (hno : PySem.W.findIn X.K (.ref C) f = some none) (iC : PySem.W.findIn X.K (.ref C) "__init__" = some (some (.ref fI))) (tI : PySem.W.typeIn X.K (.ref fI) = some (.type "function"))
    (F1 : FnOk X.prog X.w X.K X.mg X.base (L2.CX X.prog X.w) 1 fI fd ["self", f] (spIni X.K newId bmB f)) (hr : Room 2 X.A) (hb : Binds X.K fd ["self", f] []) (hg : Gl X x) (hm : X.mg x = some (.ref C)) (ha : PA X [e] ta)
    (hdb : (x == ("__debug__" : Str)) = false := by decide) (hs : starEach [e] X.env = (false, eval e X.env) :: starEach [] X.env := by rfl) (hpl : (backTo pos (starEach [] X.env)).any (·.1) = false := by rfl) :
    PE X (.Call (.Name x p) [e] [] pos) (tPeX C f ta) := by
  refine ⟨fun pins s σ H Q I h => ?_⟩
  refine wpAny_Call_Name_kw (ld_glob I hg hm ?_ hdb)
  refine PySem.W.callWith_K (h₀ := X.base) I.ok.mod.kin T.kC (thn (ha.run pos pins s σ H _ I h) fun us s1 ⟨vs, H1, I1, r1, y, ev, q1⟩ => ⟨I1.kIn, ?_⟩) hs hpl
  subst ev
  cases r1 with
  | @cons _ u0 _ ur ra rw' =>
    cases rw'
    refine mk_run b T hno iC tI F1 hr (fun s a KX => ?_) (.inl ⟨rfl, rfl⟩) I1 ra q1
    have bnd := hb s [a, u0] KX (by simp)
    simpa using bnd
theorem pe_xk {kws : List Keyword} (b : BaseX B newId initId bmB) (T : OexB X.K C newId bmB) (hno : PySem.W.findIn X.K (.ref C) f = some none) (iC : PySem.W.findIn X.K (.ref C) "__init__" = some (some (.ref fI))) (tI : PySem.W.typeIn X.K (.ref fI) = some (.type "function"))
    (F1 : FnOk X.prog X.w X.K X.mg X.base (L2.CX X.prog X.w) 1 fI fd ["self", f] (spIni X.K newId bmB f)) (hr : Room 2 X.A) (hb : KbX X.K fd f) (hg : Gl X x) (hm : X.mg x = some (.ref C)) (hkw : PK X kws ta)
    (hall : (backToKw pos (keywordEach kws X.env)).all (·.1.isSome) = true := by rfl) (hks : (backToKw pos (keywordEach kws X.env)).filterMap (·.1) = [f] := by rfl) (hdb : (x == ("__debug__" : Str)) = false := by decide)
    (hpl : ((backTo pos (starEach [] X.env)).any (·.1) || (backToKw pos (keywordEach kws X.env)).any (·.1.isNone)) = false := by rfl) :
    PE X (.Call (.Name x p) [] kws pos) (tPeX C f ta) := by
  refine ⟨fun pins s σ H Q I h => ?_⟩
  refine wpAny_Call_Name_kw (ld_glob I hg hm ?_ hdb)
  refine PySem.W.callWith_KW0 (h₀ := X.base) I.ok.mod.kin T.kC hall ?_ hpl
  refine thn (hkw.run pos pins s σ H _ I h) fun us s1 ⟨vs, H1, I1, r1, y, ev, q1⟩ => ⟨I1.kIn, ?_⟩
  subst ev
  rw [hks]
  cases r1 with
  | @cons _ u0 _ ur ra rw' =>
    cases rw'
    exact mk_run (us := []) (kw := [(f, u0)]) b T hno iC tI F1 hr (fun s a KX => hb.to s a u0 KX) (.inr ⟨rfl, rfl⟩) I1 ra q1
end
end WF
namespace WF
open PySem PySem.Spec PyProof.Rows L2 PySem.HandSPX
def mkxM (x f : Str) (fe : EM) : EM := unM (fun d => some (.exn x [f] [d.frz])) fe
def mkx0M (x : Str) : EM := optM (some (.exn x [] []))
section
variable {c : Cfg} {X : Cx} {x f : Str} {e : Expr} {fe : EM} {p pos : Pos}
theorem mkx_put (hK : c.K = X.K) {S : S0} {tm : List Pr} {σ : L2.St} {H : Hp} {v : V} {d : D} {a dx : Addr} (j : SJ c S ((v, d) :: tm) σ H) (n : H dx = none) (na : H a = none) (ne : dx ≠ a) :
    SJ c S ((.ref a, .exn x [f] [d.frz]) :: tm) σ (L2.upd (L2.upd H dx (.xd [(f, v)])) a (exk a (.ref (He.ga X.K x)) (some dx))) := by
  have k : Joint c.K (L2.upd H dx (.xd [(f, v)])) ([(v, d)] ++ (slotL σ S ++ (tm ++ c.rs))) := Joint.new j.take n
  have k2 := k.exn (a := a) (C := x) (fs := [f]) (dd := some dx) (.inr ⟨dx, rfl, L2.upd_same⟩) rfl (by rw [L2.upd_ne (Ne.symm ne)]; exact na)
  rw [hK] at k2
  refine j.drop.put ?_
  rw [hK]
  exact k2
theorem mkx_run (hK : c.K = X.K) {σ : L2.St} {H : Hp} {Q : VK} (h : T c (mkxM x f fe) σ H Q) : tPeX (He.ga X.K x) f (tArgs c [fe]) σ H Q := by
  obtain ⟨S, tm, j, q⟩ := h
  show tArgs c [fe] σ H _
  show WF.T c fe σ H fun v H1 => _
  refine (post_bind j q).mono fun v H1 ⟨d, S1, j1, p1⟩ => ?_
  obtain ⟨b, e1, q1⟩ := post_opt p1
  cases e1
  exact ⟨v, rfl, fun a dx n na ne => q1 _ _ (mkx_put hK j1 n na ne)⟩
theorem w_mkx (xc : XcF X.prog X.w X.K X.mg X.base x f) (hr : Room 2 X.A) (hK : c.K = X.K) (he : PE X e (T c fe)) (hg : Gl X x := by rfl)
    (hdb : (x == ("__debug__" : Str)) = false := by decide) (hs : starEach [e] X.env = (false, eval e X.env) :: starEach [] X.env := by rfl) (hpl : (backTo pos (starEach [] X.env)).any (·.1) = false := by rfl) :
    PE X (.Call (.Name x p) [e] [] pos) (T c (mkxM x f fe)) := by
  obtain ⟨B, newId, initId, bmB, fI, fd, b, T, hno, iC, tI, F1, hb⟩ := xc.ex
  have ha : PA X [e] (tArgs c [fe]) := wa_cons he wa_nil hs
  exact pe_mono (pe_x b T hno iC tI F1 hr hb hg xc.g ha hdb hs hpl) fun σ H Q h => mkx_run hK h
theorem w_mkxk {fd : FuncData} {kpos : Pos} {nm : Option Str} {B newId initId : String} {bmB : List Value} (b : BaseX B newId initId bmB) (r : XrF X.K x f newId bmB) (hm : X.mg x = some (.ref (He.ga X.K x)))
    (F1 : FnOk X.prog X.w X.K X.mg X.base (L2.CX X.prog X.w) 1 (He.ma X.K (He.ga X.K x) "__init__") fd ["self", f] (spIni X.K newId bmB f)) (hb : KbX X.K fd f) (hr : Room 2 X.A) (hK : c.K = X.K) (he : PE X e (T c fe)) (hg : Gl X x := by rfl)
    (hall : (backToKw pos (keywordEach [⟨nm, e, kpos⟩] X.env)).all (·.1.isSome) = true := by rfl) (hks : (backToKw pos (keywordEach [⟨nm, e, kpos⟩] X.env)).filterMap (·.1) = [f] := by rfl) (hdb : (x == ("__debug__" : Str)) = false := by decide)
    (hpl : ((backTo pos (starEach [] X.env)).any (·.1) || (backToKw pos (keywordEach [⟨nm, e, kpos⟩] X.env)).any (·.1.isNone)) = false := by rfl) :
    PE X (.Call (.Name x p) [] [⟨nm, e, kpos⟩] pos) (T c (mkxM x f fe)) := by
  have ha : PK X [⟨nm, e, kpos⟩] (tArgs c [fe]) := pk_cons he pk_nil
  exact pe_mono (pe_xk b r.o r.nf r.ini r.ty F1 hr hb hg hm ha hall hks hdb hpl) fun σ H Q h => mkx_run hK h
end
def spIni0 (K : PySem.W.Frag) (newId : String) (bmB : List Value) : Sp := fun vs H Q _ => ∃ (a C : Addr), vs = [.ref a] ∧ OexB K C newId bmB ∧ H a = some (exo a C none) ∧ Q .non H
section
variable {P : Program} {w : World} {K : PySem.W.Frag} {mg : Str → Option Value} {base : Heap}
abbrev iniT0 (K : PySem.W.Frag) (newId : String) (bmB : List Value) : TS := tDrop (tBin K newId bmB (tCons (tVar 0) tNil))
theorem ini0_ok {q : Str} {st : Stmt} {fI : Addr} {fd : FuncData} {newId : String} {bmB : List Value} (F : FunD K "__init__" q (defArgs st) (defBody st) (defScope st) [] [] fI fd) (S : FnScope ["self"] ["self"] (defScope st))
    (hb : ∀ cdv A outer s H E, PSs (cxOf (L2.CX P w) P w K mg base ["self"] q (defScope st) fI cdv A outer s H E) (defBody st) (iniT0 K newId bmB)) :
    FnOk P w K mg base (L2.CX P w) 1 fI fd ["self"] (spIni0 K newId bmB) := by
  refine F.ok (CX := L2.CX P w) S (fun vs H Q E h => by obtain ⟨a, C, rfl, _⟩ := h; rfl) fun cdv A outer s H vs Q E hr h => ?_
  obtain ⟨a, C, rfl, T, ea, q⟩ := h
  refine ⟨_, hb cdv A outer s H E, ?_⟩
  exact ⟨.ref a, rfl, a, C, [], rfl, by simp, T, ea, q⟩
end
def tPeX0 (C : Addr) : TE := fun σ H Q => ∀ a, H a = none → Q (.ref a) (L2.upd H a (exk a (.ref C) none))
section
variable {X : Cx} {pins : List (Addr × Obj)} {σ : L2.St} {H1 : Hp} {s : Shared} {a C : Addr}
theorem mk_keep0 (I : Inv X pins σ (L2.upd H1 a (exo a C none)) s) : Inv X pins σ (L2.upd H1 a (exk a (.ref C) none)) s := by
  obtain ⟨hp, g, d, t, os⟩ := s
  have ea : (L2.upd H1 a (exo a C none)) a = some (exo a C none) := L2.upd_same
  obtain ⟨t1, ho⟩ := exo_at I.hok ea
  have J := I.write (t' := t) (h' := hp) (x := a) (e := a) (o := exk a (.ref C) none) (by rw [ea]; exact True.intro) (.inl rfl) (fun _ _ _ z => z) ⟨_, ho⟩ (exk_ok ho ⟨rfl, rfl⟩ rfl)
  have eu : L2.upd (L2.upd H1 a (exo a C none)) a (exk a (.ref C) none) = L2.upd H1 a (exk a (.ref C) none) := by
    funext b
    by_cases hb : b = a
    · subst hb; rw [L2.upd_same, L2.upd_same]
    · rw [L2.upd_ne hb, L2.upd_ne hb, L2.upd_ne hb]
  rw [eu] at J
  exact J
end
section
variable {X : Cx} {x : Str} {C fI : Addr} {fd : FuncData} {B newId initId : String} {bmB : List Value} {p pos : Pos}
theorem pe_x0 (b : BaseX B newId initId bmB) (T : OexB X.K C newId bmB) (iC : PySem.W.findIn X.K (.ref C) "__init__" = some (some (.ref fI))) (tI : PySem.W.typeIn X.K (.ref fI) = some (.type "function"))
    (F1 : FnOk X.prog X.w X.K X.mg X.base (L2.CX X.prog X.w) 1 fI fd ["self"] (spIni0 X.K newId bmB)) (hr : Room 2 X.A) (hb : Binds X.K fd ["self"] []) (hg : Gl X x) (hm : X.mg x = some (.ref C))
    (hdb : (x == ("__debug__" : Str)) = false := by decide) :
    PE X (.Call (.Name x p) [] [] pos) (tPeX0 C) := by
  refine ⟨fun pins s σ H1 Q I1 q1 => ?_⟩
  refine wpAny_Call_Name_kw (ld_glob I1 hg hm ?_ hdb)
  refine PySem.W.callWith_K0 I1.kIn T.kC ?_
  show wpAny _ _ (call (.ref C) []) _ _ _
  obtain ⟨nm, q, N, bs, sn, sub, ab, col, dd, k0, k1, k2, k3, k5, hC⟩ := T.cls
  obtain ⟨hp, g, dr, tk, os⟩ := s
  have I1 : Inv X pins σ H1 ⟨hp, g, dr, tk, os⟩ := I1
  have hsz : hp.objs.size ≤ hp.objs.size + 1 := Nat.le_succ _
  have hn : H1 (hp.objs.size + 1) = none := I1.hok.fresh hsz
  have kk : ∀ b o, hp.get? b = some o → ((hp.push (PySem.W.kdv_tup [])).push (PySem.HandSPX.excO C hp.objs.size)).get? b = some o := fun b o z => Heap.get?_push_of_some _ (Heap.get?_push_of_some _ z)
  have hget : ((hp.push (PySem.W.kdv_tup [])).push (PySem.HandSPX.excO C hp.objs.size)).get? (hp.objs.size + 1) = some (PySem.HandSPX.excO C hp.objs.size) := by heap_get
  have I2 : Inv X pins σ (L2.upd H1 (hp.objs.size + 1) (exo (hp.objs.size + 1) C none)) ⟨(hp.push (PySem.W.kdv_tup [])).push (PySem.HandSPX.excO C hp.objs.size), g, dr, tk, os⟩ :=
    I1.laid (t' := tk) (a := hp.objs.size + 1) (o := exo (hp.objs.size + 1) C none) (h' := (hp.push (PySem.W.kdv_tup [])).push (PySem.HandSPX.excO C hp.objs.size)) kk hsz (exo_ok hget)
  have r2 : Vals [V.ref (hp.objs.size + 1)] [Value.ref (hp.objs.size + 1)] := .cons rfl .nil
  have bnd := hb ⟨(hp.push (PySem.W.kdv_tup [])).push (PySem.HandSPX.excO C hp.objs.size), g, dr, tk, os⟩ [Value.ref (hp.objs.size + 1)] I2.kIn rfl
  rw [List.append_nil] at bnd
  have wish : spIni0 X.K newId bmB [V.ref (hp.objs.size + 1)] (L2.upd H1 (hp.objs.size + 1) (exo (hp.objs.size + 1) C none)) (fun v H2 => v = .non ∧ H2 = L2.upd H1 (hp.objs.size + 1) (exo (hp.objs.size + 1) C none)) (fun _ _ _ => False) :=
    ⟨_, C, rfl, T, L2.upd_same, rfl, rfl⟩
  refine wpAny_call (PySem.HandSPX.call_own b.F (fun _ => rfl) (I1.kIn _ _ hC) (PySem.W.looks_findIn I1.kIn iC) (fun self => PySem.W.bind_fn I1.kIn self tI) (Nat.zero_le _)
    (codeAny_mono (F1.run _ X.stack _ _ ⟨[Value.ref (hp.objs.size + 1)], []⟩ [Value.ref (hp.objs.size + 1)] _ _ (fun _ _ _ => False) (hr.make C [] []) (I2.env0.make C [] []) bnd r2 wish) fun r s' hq' => ?_))
  cases r with
  | error er => exact passes_no pins σ _ _ er s' I2 hq'
  | ok fl =>
    cases fl with
    | ret u' =>
      obtain ⟨v, H', I3, rv, ev, eH⟩ := I2.after hq'
      subst ev eH
      exact ⟨rv, ⟨V.ref (hp.objs.size + 1), _, mk_keep0 I3, rfl, q1 _ hn⟩⟩
    | next => exact False.elim hq'
    | brk => exact False.elim hq'
    | cont => exact False.elim hq'
theorem w_mkx0 {c : Cfg} (b : BaseX B newId initId bmB) (r : XrF X.K x "" newId bmB) (hm : X.mg x = some (.ref (He.ga X.K x)))
    (F1 : FnOk X.prog X.w X.K X.mg X.base (L2.CX X.prog X.w) 1 (He.ma X.K (He.ga X.K x) "__init__") fd ["self"] (spIni0 X.K newId bmB)) (hb : Binds X.K fd ["self"] []) (hr : Room 2 X.A) (hK : c.K = X.K) (hg : Gl X x := by rfl) (hdb : (x == ("__debug__" : Str)) = false := by decide) :
    PE X (.Call (.Name x p) [] [] pos) (T c (mkx0M x)) :=
  pe_mono (pe_x0 b r.o r.ini r.ty F1 hr hb hg hm hdb) fun σ H Q h => by
    obtain ⟨S, tm, j, q⟩ := h
    obtain ⟨d, e1, q1⟩ := post_opt q
    cases e1
    refine fun a na => q1 _ _ ?_
    have k : Joint c.K H ([] ++ (slotL σ S ++ (tm ++ c.rs))) := j.jt
    have k2 := k.exn (a := a) (C := x) (fs := []) (fv := []) (dd := none) (.inl ⟨rfl, rfl, rfl⟩) rfl na
    rw [hK] at k2
    refine j.put ?_
    rw [hK]
    exact k2
end
end WF
namespace WF
open PySem
theorem bt_TypeError : bootBuiltins "TypeError" = some (.type "TypeError") := by decide +kernel
theorem bt_ZeroDivisionError : bootBuiltins "ZeroDivisionError" = some (.type "ZeroDivisionError") := by decide +kernel
end WF
namespace WC
open WF PySem
noncomputable def b__law_kinds : SM := (seqM (asgM (lstM [(unM (isxD ["Unreachable", "InvalidCommand", "InvalidWord", "InvalidLine", "InvalidState", "UnknownGroup", "NoSuchSize", "BadIndex", "NoSuchDepth", "IllegalMove", "NotEnough", "LastPeople", "TooLong", "TooMany", "TooManyGroups"] [.own "Unreachable"]) (varM 0)), (unM (isxD ["Unreachable", "InvalidCommand", "InvalidWord", "InvalidLine", "InvalidState", "UnknownGroup", "NoSuchSize", "BadIndex", "NoSuchDepth", "IllegalMove", "NotEnough", "LastPeople", "TooLong", "TooMany", "TooManyGroups"] [.own "InvalidCommand"]) (varM 0)), (unM (isxD ["Unreachable", "InvalidCommand", "InvalidWord", "InvalidLine", "InvalidState", "UnknownGroup", "NoSuchSize", "BadIndex", "NoSuchDepth", "IllegalMove", "NotEnough", "LastPeople", "TooLong", "TooMany", "TooManyGroups"] [.own "InvalidWord"]) (varM 0))]) (gSetM 1))
    (seqM (asgM (binM addD (varM 1) (lstM [(unM (isxD ["Unreachable", "InvalidCommand", "InvalidWord", "InvalidLine", "InvalidState", "UnknownGroup", "NoSuchSize", "BadIndex", "NoSuchDepth", "IllegalMove", "NotEnough", "LastPeople", "TooLong", "TooMany", "TooManyGroups"] [.own "InvalidLine"]) (varM 0)), (unM (isxD ["Unreachable", "InvalidCommand", "InvalidWord", "InvalidLine", "InvalidState", "UnknownGroup", "NoSuchSize", "BadIndex", "NoSuchDepth", "IllegalMove", "NotEnough", "LastPeople", "TooLong", "TooMany", "TooManyGroups"] [.own "InvalidState"]) (varM 0)), (unM (isxD ["Unreachable", "InvalidCommand", "InvalidWord", "InvalidLine", "InvalidState", "UnknownGroup", "NoSuchSize", "BadIndex", "NoSuchDepth", "IllegalMove", "NotEnough", "LastPeople", "TooLong", "TooMany", "TooManyGroups"] [.own "UnknownGroup"]) (varM 0))])) (gSetM 1))
    (seqM (asgM (binM addD (varM 1) (lstM [(unM (isxD ["Unreachable", "InvalidCommand", "InvalidWord", "InvalidLine", "InvalidState", "UnknownGroup", "NoSuchSize", "BadIndex", "NoSuchDepth", "IllegalMove", "NotEnough", "LastPeople", "TooLong", "TooMany", "TooManyGroups"] [.own "NoSuchSize"]) (varM 0)), (unM (isxD ["Unreachable", "InvalidCommand", "InvalidWord", "InvalidLine", "InvalidState", "UnknownGroup", "NoSuchSize", "BadIndex", "NoSuchDepth", "IllegalMove", "NotEnough", "LastPeople", "TooLong", "TooMany", "TooManyGroups"] [.own "BadIndex"]) (varM 0)), (unM (isxD ["Unreachable", "InvalidCommand", "InvalidWord", "InvalidLine", "InvalidState", "UnknownGroup", "NoSuchSize", "BadIndex", "NoSuchDepth", "IllegalMove", "NotEnough", "LastPeople", "TooLong", "TooMany", "TooManyGroups"] [.own "NoSuchDepth"]) (varM 0))])) (gSetM 1))
    (seqM (asgM (binM addD (varM 1) (lstM [(unM (isxD ["Unreachable", "InvalidCommand", "InvalidWord", "InvalidLine", "InvalidState", "UnknownGroup", "NoSuchSize", "BadIndex", "NoSuchDepth", "IllegalMove", "NotEnough", "LastPeople", "TooLong", "TooMany", "TooManyGroups"] [.own "IllegalMove"]) (varM 0)), (unM (isxD ["Unreachable", "InvalidCommand", "InvalidWord", "InvalidLine", "InvalidState", "UnknownGroup", "NoSuchSize", "BadIndex", "NoSuchDepth", "IllegalMove", "NotEnough", "LastPeople", "TooLong", "TooMany", "TooManyGroups"] [.own "NotEnough"]) (varM 0)), (unM (isxD ["Unreachable", "InvalidCommand", "InvalidWord", "InvalidLine", "InvalidState", "UnknownGroup", "NoSuchSize", "BadIndex", "NoSuchDepth", "IllegalMove", "NotEnough", "LastPeople", "TooLong", "TooMany", "TooManyGroups"] [.own "LastPeople"]) (varM 0))])) (gSetM 1))
    (retS (binM addD (varM 1) (lstM [(unM (isxD ["Unreachable", "InvalidCommand", "InvalidWord", "InvalidLine", "InvalidState", "UnknownGroup", "NoSuchSize", "BadIndex", "NoSuchDepth", "IllegalMove", "NotEnough", "LastPeople", "TooLong", "TooMany", "TooManyGroups"] [.own "TooLong"]) (varM 0)), (unM (isxD ["Unreachable", "InvalidCommand", "InvalidWord", "InvalidLine", "InvalidState", "UnknownGroup", "NoSuchSize", "BadIndex", "NoSuchDepth", "IllegalMove", "NotEnough", "LastPeople", "TooLong", "TooMany", "TooManyGroups"] [.own "TooMany"]) (varM 0)), (unM (isxD ["Unreachable", "InvalidCommand", "InvalidWord", "InvalidLine", "InvalidState", "UnknownGroup", "NoSuchSize", "BadIndex", "NoSuchDepth", "IllegalMove", "NotEnough", "LastPeople", "TooLong", "TooMany", "TooManyGroups"] [.own "TooManyGroups"]) (varM 0))])))))))
noncomputable def m__law_kinds : Fn := defM [true] 2 b__law_kinds
noncomputable def b__law_limits_right : SM := (retS (roM (op2 (eqD false)) [.v (lstM [(retM (.int (300))), (retM (.int (200))), (retM (.int (9))), (retM (.int (12)))]), .v (lstM [(retM (.int 300)), (retM (.int 200)), (retM (.int 9)), (retM (.int 12))])]))
noncomputable def m__law_limits_right : Fn := defM [] 0 b__law_limits_right
noncomputable def b__law_unders : SM := (seqM (asgM (lstM [(unM (isxD ["Unreachable", "InvalidCommand", "InvalidWord", "InvalidLine", "InvalidState", "UnknownGroup", "NoSuchSize", "BadIndex", "NoSuchDepth", "IllegalMove", "NotEnough", "LastPeople", "TooLong", "TooMany", "TooManyGroups"] [.ty "ValueError"]) (varM 0)), (unM (isxD ["Unreachable", "InvalidCommand", "InvalidWord", "InvalidLine", "InvalidState", "UnknownGroup", "NoSuchSize", "BadIndex", "NoSuchDepth", "IllegalMove", "NotEnough", "LastPeople", "TooLong", "TooMany", "TooManyGroups"] [.ty "LookupError"]) (varM 0)), (unM (isxD ["Unreachable", "InvalidCommand", "InvalidWord", "InvalidLine", "InvalidState", "UnknownGroup", "NoSuchSize", "BadIndex", "NoSuchDepth", "IllegalMove", "NotEnough", "LastPeople", "TooLong", "TooMany", "TooManyGroups"] [.ty "RuntimeError"]) (varM 0))]) (gSetM 1))
    (seqM (asgM (binM addD (varM 1) (lstM [(unM (isxD ["Unreachable", "InvalidCommand", "InvalidWord", "InvalidLine", "InvalidState", "UnknownGroup", "NoSuchSize", "BadIndex", "NoSuchDepth", "IllegalMove", "NotEnough", "LastPeople", "TooLong", "TooMany", "TooManyGroups"] [.ty "OverflowError"]) (varM 0)), (unM (isxD ["Unreachable", "InvalidCommand", "InvalidWord", "InvalidLine", "InvalidState", "UnknownGroup", "NoSuchSize", "BadIndex", "NoSuchDepth", "IllegalMove", "NotEnough", "LastPeople", "TooLong", "TooMany", "TooManyGroups"] [.ty "KeyError"]) (varM 0)), (unM (isxD ["Unreachable", "InvalidCommand", "InvalidWord", "InvalidLine", "InvalidState", "UnknownGroup", "NoSuchSize", "BadIndex", "NoSuchDepth", "IllegalMove", "NotEnough", "LastPeople", "TooLong", "TooMany", "TooManyGroups"] [.ty "IndexError"]) (varM 0))])) (gSetM 1))
    (retS (binM addD (varM 1) (lstM [(unM (isxD ["Unreachable", "InvalidCommand", "InvalidWord", "InvalidLine", "InvalidState", "UnknownGroup", "NoSuchSize", "BadIndex", "NoSuchDepth", "IllegalMove", "NotEnough", "LastPeople", "TooLong", "TooMany", "TooManyGroups"] [.ty "TypeError"]) (varM 0)), (unM (isxD ["Unreachable", "InvalidCommand", "InvalidWord", "InvalidLine", "InvalidState", "UnknownGroup", "NoSuchSize", "BadIndex", "NoSuchDepth", "IllegalMove", "NotEnough", "LastPeople", "TooLong", "TooMany", "TooManyGroups"] [.ty "ZeroDivisionError"]) (varM 0))])))))
noncomputable def m__law_unders : Fn := defM [true] 2 b__law_unders
noncomputable def b__law_right_v47 : SM := (seqM (ifS (roM (op2 (eqD true)) [.v (callM m__law_kinds [.v (varM 0)]), .v (compM [3] (rng1M (retM (.int 15))) (gSetM 3) none (roM (op2 (eqD false)) [.s 3, .s 1]))]) (retS (retM (.bl false))) skipM)
    (retS (roM (op2 (eqD false)) [.v (callM m__law_unders [.v (varM 0)]), .v (compM [3] (rng1M (retM (.int 8))) (gSetM 3) none (roM (op2 (eqD false)) [.s 3, .s 2]))])))
noncomputable def m__law_right_v47 : Fn := defM [true, true, true] 4 b__law_right_v47
noncomputable def b_law_v53 : SM := (seqM (asgM (callM m__law_stream [.v (frzM (callM m__law_fold [.v (varM 0), .v (retM (.int 1))])), .v (retM (.int 0))]) (gSetM 1))
    (seqM (asgM (binM addD (retM (.int 1)) (callM (m__law_draw 12) [.s 1, .v (frzM (binM powD (retM (.int 10)) (retM (.int 12))))])) (gSetM 2))
    (seqM (par2M 3 4 [(tupM [(retM (.str "more")), (binM modD (varM 2) (retM (.int 12)))]), (tupM [(binM modD (varM 2) (retM (.int 12))), (binM subD (binM modD (varM 2) (retM (.int 12))) (retM (.int 1)))])])
    (seqM (asgM (lstM [(tupM [(mkxM "Unreachable" "reason" (varM 3)), (unM (attrD ["Unreachable", "InvalidCommand", "InvalidWord", "InvalidLine", "InvalidState", "UnknownGroup", "NoSuchSize", "BadIndex", "NoSuchDepth", "IllegalMove", "NotEnough", "LastPeople", "TooLong", "TooMany", "TooManyGroups"] "reason") (mkxM "Unreachable" "reason" (varM 3))), (unM (attrD ["Unreachable", "InvalidCommand", "InvalidWord", "InvalidLine", "InvalidState", "UnknownGroup", "NoSuchSize", "BadIndex", "NoSuchDepth", "IllegalMove", "NotEnough", "LastPeople", "TooLong", "TooMany", "TooManyGroups"] "reason") (mkxM "Unreachable" "reason" (varM 3))), (varM 3), (retM (.int 0)), (retM (.int 0))])]) (gSetM 5))
    (seqM (exprS (appM 5 (tupM [(mkxM "IllegalMove" "pair" (varM 4)), (unM (attrD ["Unreachable", "InvalidCommand", "InvalidWord", "InvalidLine", "InvalidState", "UnknownGroup", "NoSuchSize", "BadIndex", "NoSuchDepth", "IllegalMove", "NotEnough", "LastPeople", "TooLong", "TooMany", "TooManyGroups"] "pair") (mkxM "IllegalMove" "pair" (varM 4))), (unM (attrD ["Unreachable", "InvalidCommand", "InvalidWord", "InvalidLine", "InvalidState", "UnknownGroup", "NoSuchSize", "BadIndex", "NoSuchDepth", "IllegalMove", "NotEnough", "LastPeople", "TooLong", "TooMany", "TooManyGroups"] "pair") (mkxM "IllegalMove" "pair" (varM 4))), (varM 4), (retM (.int 9)), (retM (.int 2))])))
    (seqM (exprS (appM 5 (tupM [(mkxM "InvalidCommand" "index" (varM 2)), (unM (attrD ["Unreachable", "InvalidCommand", "InvalidWord", "InvalidLine", "InvalidState", "UnknownGroup", "NoSuchSize", "BadIndex", "NoSuchDepth", "IllegalMove", "NotEnough", "LastPeople", "TooLong", "TooMany", "TooManyGroups"] "index") (mkxM "InvalidCommand" "index" (varM 2))), (unM (attrD ["Unreachable", "InvalidCommand", "InvalidWord", "InvalidLine", "InvalidState", "UnknownGroup", "NoSuchSize", "BadIndex", "NoSuchDepth", "IllegalMove", "NotEnough", "LastPeople", "TooLong", "TooMany", "TooManyGroups"] "index") (mkxM "InvalidCommand" "index" (varM 2))), (varM 2), (retM (.int 1)), (retM (.int 0))])))
    (seqM (exprS (appM 5 (tupM [(mkxM "InvalidWord" "index" (varM 2)), (unM (attrD ["Unreachable", "InvalidCommand", "InvalidWord", "InvalidLine", "InvalidState", "UnknownGroup", "NoSuchSize", "BadIndex", "NoSuchDepth", "IllegalMove", "NotEnough", "LastPeople", "TooLong", "TooMany", "TooManyGroups"] "index") (mkxM "InvalidWord" "index" (varM 2))), (unM (attrD ["Unreachable", "InvalidCommand", "InvalidWord", "InvalidLine", "InvalidState", "UnknownGroup", "NoSuchSize", "BadIndex", "NoSuchDepth", "IllegalMove", "NotEnough", "LastPeople", "TooLong", "TooMany", "TooManyGroups"] "index") (mkxM "InvalidWord" "index" (varM 2))), (varM 2), (retM (.int 2)), (retM (.int 0))])))
    (seqM (exprS (appM 5 (tupM [(mkxM "InvalidLine" "index" (varM 2)), (unM (attrD ["Unreachable", "InvalidCommand", "InvalidWord", "InvalidLine", "InvalidState", "UnknownGroup", "NoSuchSize", "BadIndex", "NoSuchDepth", "IllegalMove", "NotEnough", "LastPeople", "TooLong", "TooMany", "TooManyGroups"] "index") (mkxM "InvalidLine" "index" (varM 2))), (unM (attrD ["Unreachable", "InvalidCommand", "InvalidWord", "InvalidLine", "InvalidState", "UnknownGroup", "NoSuchSize", "BadIndex", "NoSuchDepth", "IllegalMove", "NotEnough", "LastPeople", "TooLong", "TooMany", "TooManyGroups"] "index") (mkxM "InvalidLine" "index" (varM 2))), (varM 2), (retM (.int 3)), (retM (.int 0))])))
    (seqM (exprS (appM 5 (tupM [(mkxM "UnknownGroup" "group" (varM 2)), (unM (attrD ["Unreachable", "InvalidCommand", "InvalidWord", "InvalidLine", "InvalidState", "UnknownGroup", "NoSuchSize", "BadIndex", "NoSuchDepth", "IllegalMove", "NotEnough", "LastPeople", "TooLong", "TooMany", "TooManyGroups"] "group") (mkxM "UnknownGroup" "group" (varM 2))), (unM (attrD ["Unreachable", "InvalidCommand", "InvalidWord", "InvalidLine", "InvalidState", "UnknownGroup", "NoSuchSize", "BadIndex", "NoSuchDepth", "IllegalMove", "NotEnough", "LastPeople", "TooLong", "TooMany", "TooManyGroups"] "group") (mkxM "UnknownGroup" "group" (varM 2))), (varM 2), (retM (.int 5)), (retM (.int 1))])))
    (seqM (exprS (appM 5 (tupM [(mkxM "NoSuchSize" "size" (varM 2)), (unM (attrD ["Unreachable", "InvalidCommand", "InvalidWord", "InvalidLine", "InvalidState", "UnknownGroup", "NoSuchSize", "BadIndex", "NoSuchDepth", "IllegalMove", "NotEnough", "LastPeople", "TooLong", "TooMany", "TooManyGroups"] "size") (mkxM "NoSuchSize" "size" (varM 2))), (unM (attrD ["Unreachable", "InvalidCommand", "InvalidWord", "InvalidLine", "InvalidState", "UnknownGroup", "NoSuchSize", "BadIndex", "NoSuchDepth", "IllegalMove", "NotEnough", "LastPeople", "TooLong", "TooMany", "TooManyGroups"] "size") (mkxM "NoSuchSize" "size" (varM 2))), (varM 2), (retM (.int 6)), (retM (.int 1))])))
    (seqM (exprS (appM 5 (tupM [(mkxM "BadIndex" "index" (varM 2)), (unM (attrD ["Unreachable", "InvalidCommand", "InvalidWord", "InvalidLine", "InvalidState", "UnknownGroup", "NoSuchSize", "BadIndex", "NoSuchDepth", "IllegalMove", "NotEnough", "LastPeople", "TooLong", "TooMany", "TooManyGroups"] "index") (mkxM "BadIndex" "index" (varM 2))), (unM (attrD ["Unreachable", "InvalidCommand", "InvalidWord", "InvalidLine", "InvalidState", "UnknownGroup", "NoSuchSize", "BadIndex", "NoSuchDepth", "IllegalMove", "NotEnough", "LastPeople", "TooLong", "TooMany", "TooManyGroups"] "index") (mkxM "BadIndex" "index" (varM 2))), (varM 2), (retM (.int 7)), (retM (.int 1))])))
    (seqM (exprS (appM 5 (tupM [(mkxM "NoSuchDepth" "depth" (varM 2)), (unM (attrD ["Unreachable", "InvalidCommand", "InvalidWord", "InvalidLine", "InvalidState", "UnknownGroup", "NoSuchSize", "BadIndex", "NoSuchDepth", "IllegalMove", "NotEnough", "LastPeople", "TooLong", "TooMany", "TooManyGroups"] "depth") (mkxM "NoSuchDepth" "depth" (varM 2))), (unM (attrD ["Unreachable", "InvalidCommand", "InvalidWord", "InvalidLine", "InvalidState", "UnknownGroup", "NoSuchSize", "BadIndex", "NoSuchDepth", "IllegalMove", "NotEnough", "LastPeople", "TooLong", "TooMany", "TooManyGroups"] "depth") (mkxM "NoSuchDepth" "depth" (varM 2))), (varM 2), (retM (.int 8)), (retM (.int 1))])))
    (seqM (exprS (appM 5 (tupM [(mkxM "NotEnough" "count" (varM 2)), (unM (attrD ["Unreachable", "InvalidCommand", "InvalidWord", "InvalidLine", "InvalidState", "UnknownGroup", "NoSuchSize", "BadIndex", "NoSuchDepth", "IllegalMove", "NotEnough", "LastPeople", "TooLong", "TooMany", "TooManyGroups"] "count") (mkxM "NotEnough" "count" (varM 2))), (unM (attrD ["Unreachable", "InvalidCommand", "InvalidWord", "InvalidLine", "InvalidState", "UnknownGroup", "NoSuchSize", "BadIndex", "NoSuchDepth", "IllegalMove", "NotEnough", "LastPeople", "TooLong", "TooMany", "TooManyGroups"] "count") (mkxM "NotEnough" "count" (varM 2))), (varM 2), (retM (.int 10)), (retM (.int 2))])))
    (seqM (exprS (appM 5 (tupM [(mkxM "TooLong" "size" (varM 2)), (unM (attrD ["Unreachable", "InvalidCommand", "InvalidWord", "InvalidLine", "InvalidState", "UnknownGroup", "NoSuchSize", "BadIndex", "NoSuchDepth", "IllegalMove", "NotEnough", "LastPeople", "TooLong", "TooMany", "TooManyGroups"] "size") (mkxM "TooLong" "size" (varM 2))), (unM (attrD ["Unreachable", "InvalidCommand", "InvalidWord", "InvalidLine", "InvalidState", "UnknownGroup", "NoSuchSize", "BadIndex", "NoSuchDepth", "IllegalMove", "NotEnough", "LastPeople", "TooLong", "TooMany", "TooManyGroups"] "size") (mkxM "TooLong" "size" (varM 2))), (varM 2), (retM (.int 12)), (retM (.int 3))])))
    (seqM (exprS (appM 5 (tupM [(mkxM "TooMany" "size" (varM 2)), (unM (attrD ["Unreachable", "InvalidCommand", "InvalidWord", "InvalidLine", "InvalidState", "UnknownGroup", "NoSuchSize", "BadIndex", "NoSuchDepth", "IllegalMove", "NotEnough", "LastPeople", "TooLong", "TooMany", "TooManyGroups"] "size") (mkxM "TooMany" "size" (varM 2))), (unM (attrD ["Unreachable", "InvalidCommand", "InvalidWord", "InvalidLine", "InvalidState", "UnknownGroup", "NoSuchSize", "BadIndex", "NoSuchDepth", "IllegalMove", "NotEnough", "LastPeople", "TooLong", "TooMany", "TooManyGroups"] "size") (mkxM "TooMany" "size" (varM 2))), (varM 2), (retM (.int 13)), (retM (.int 3))])))
    (seqM (exprS (appM 5 (tupM [(mkxM "TooManyGroups" "count" (varM 2)), (unM (attrD ["Unreachable", "InvalidCommand", "InvalidWord", "InvalidLine", "InvalidState", "UnknownGroup", "NoSuchSize", "BadIndex", "NoSuchDepth", "IllegalMove", "NotEnough", "LastPeople", "TooLong", "TooMany", "TooManyGroups"] "count") (mkxM "TooManyGroups" "count" (varM 2))), (unM (attrD ["Unreachable", "InvalidCommand", "InvalidWord", "InvalidLine", "InvalidState", "UnknownGroup", "NoSuchSize", "BadIndex", "NoSuchDepth", "IllegalMove", "NotEnough", "LastPeople", "TooLong", "TooMany", "TooManyGroups"] "count") (mkxM "TooManyGroups" "count" (varM 2))), (varM 2), (retM (.int 14)), (retM (.int 3))])))
    (seqM (forM (seqI (varM 5)) (gTupM 6 (gConsM (gSetM 6) (gConsM (gSetM 7) (gConsM (gSetM 8) (gConsM (gSetM 9) (gConsM (gSetM 10) (gConsM (gSetM 11) gNilM)))))))
    (ifS (orM (roM (op2 (eqD true)) [.v (lstM [(varM 7), (varM 8)]), .v (lstM [(varM 9), (varM 9)])]) (notM (callM m__law_right_v47 [.v (varM 6), .v (varM 10), .v (varM 11)]))) (retS (retM (.bl false))) skipM))
    (seqM (ifS (notM (callM (pickF [] [] [] m__law_limits_right) [])) (retS (retM (.bl false))) skipM)
    (retS (andM (callM m__law_right_v47 [.v (frzM (mkx0M "InvalidState")), .v (retM (.int 4)), .v (retM (.int 0))]) (callM m__law_right_v47 [.v (frzM (mkx0M "LastPeople")), .v (retM (.int 11)), .v (retM (.int 2))])))))))))))))))))))))
noncomputable def m_law_v53 : Fn := defM [true] 12 b_law_v53
end WC
namespace Wk56
open WF WC PySem PySem.Spec PyProof.Rows L2
def top (i : Nat) : Stmt := PySem.Challenge.pw_wellfolk_k56_error_classes.main.body.getD i (.Pass ⟨0, 0, 0, 0⟩)
def cini (i : Nat) : Stmt := match top i with
  | .ClassDef _ _ _ body _ _ _ _ _ _ _ => body.getD 0 (.Pass ⟨0, 0, 0, 0⟩)
  | s => s
structure Tx (K : PySem.W.Frag) (mg : Str → Option Value) (fa : Nat → Addr) (fdd : Nat → FuncData) : Prop where
  F__law_stream : FnP K "_law_stream" (top 21) [] (fa 21) (fdd 21)
  g__law_stream : mg "_law_stream" = some (.ref (fa 21))
  F__law_fold : FnP K "_law_fold" (top 23) [] (fa 23) (fdd 23)
  g__law_fold : mg "_law_fold" = some (.ref (fa 23))
  F__law_draw : FnP K "_law_draw" (top 22) [] (fa 22) (fdd 22)
  g__law_draw : mg "_law_draw" = some (.ref (fa 22))
  F__law_limits_right : FnP K "_law_limits_right" (top 27) [] (fa 27) (fdd 27)
  g__law_limits_right : mg "_law_limits_right" = some (.ref (fa 27))
  F__law_kinds : FnP K "_law_kinds" (top 24) [] (fa 24) (fdd 24)
  g__law_kinds : mg "_law_kinds" = some (.ref (fa 24))
  F__law_unders : FnP K "_law_unders" (top 25) [] (fa 25) (fdd 25)
  g__law_unders : mg "_law_unders" = some (.ref (fa 25))
  F__law_right : FnP K "_law_right" (top 26) [] (fa 26) (fdd 26)
  g__law_right : mg "_law_right" = some (.ref (fa 26))
  F_law : FnP K "law" (top 28) [] (fa 28) (fdd 28)
  g_law : mg "law" = some (.ref (fa 28))
  n_IndexError : mg "IndexError" = none
  n_KeyError : mg "KeyError" = none
  n_LookupError : mg "LookupError" = none
  n_OverflowError : mg "OverflowError" = none
  n_RuntimeError : mg "RuntimeError" = none
  n_TypeError : mg "TypeError" = none
  n_ValueError : mg "ValueError" = none
  n_ZeroDivisionError : mg "ZeroDivisionError" = none
  n_abs : mg "abs" = none
  n_divmod : mg "divmod" = none
  n_enumerate : mg "enumerate" = none
  n_int : mg "int" = none
  n_isinstance : mg "isinstance" = none
  n_len : mg "len" = none
  n_list : mg "list" = none
  n_range : mg "range" = none
  c_MAX_GROUPS : ∃ t, mg "MAX_GROUPS" = some (.int (12) t)
  c_MAX_PEOPLE : ∃ t, mg "MAX_PEOPLE" = some (.int (200) t)
  c_MAX_PEOPLE_IN_SEQUENCES : ∃ t, mg "MAX_PEOPLE_IN_SEQUENCES" = some (.int (9) t)
  c_MAX_SEQUENCE : ∃ t, mg "MAX_SEQUENCE" = some (.int (300) t)
  gx_Unreachable : mg "Unreachable" = some (.ref (He.ga K "Unreachable"))
  gx_InvalidCommand : mg "InvalidCommand" = some (.ref (He.ga K "InvalidCommand"))
  gx_InvalidWord : mg "InvalidWord" = some (.ref (He.ga K "InvalidWord"))
  gx_InvalidLine : mg "InvalidLine" = some (.ref (He.ga K "InvalidLine"))
  gx_InvalidState : mg "InvalidState" = some (.ref (He.ga K "InvalidState"))
  gx_UnknownGroup : mg "UnknownGroup" = some (.ref (He.ga K "UnknownGroup"))
  gx_NoSuchSize : mg "NoSuchSize" = some (.ref (He.ga K "NoSuchSize"))
  gx_BadIndex : mg "BadIndex" = some (.ref (He.ga K "BadIndex"))
  gx_NoSuchDepth : mg "NoSuchDepth" = some (.ref (He.ga K "NoSuchDepth"))
  gx_IllegalMove : mg "IllegalMove" = some (.ref (He.ga K "IllegalMove"))
  gx_NotEnough : mg "NotEnough" = some (.ref (He.ga K "NotEnough"))
  gx_LastPeople : mg "LastPeople" = some (.ref (He.ga K "LastPeople"))
  gx_TooLong : mg "TooLong" = some (.ref (He.ga K "TooLong"))
  gx_TooMany : mg "TooMany" = some (.ref (He.ga K "TooMany"))
  gx_TooManyGroups : mg "TooManyGroups" = some (.ref (He.ga K "TooManyGroups"))
  xr_Unreachable : XrF K "Unreachable" "reason" "ValueError.__new__" mroVE
  Fi_Unreachable : FunD K "__init__" "Unreachable.__init__" (defArgs (cini 1)) (defBody (cini 1)) (defScope (cini 1)) [] [] (He.ma K (He.ga K "Unreachable") "__init__") (fdd 1)
  xr_InvalidCommand : XrF K "InvalidCommand" "index" "ValueError.__new__" mroVE
  Fi_InvalidCommand : FunD K "__init__" "InvalidCommand.__init__" (defArgs (cini 2)) (defBody (cini 2)) (defScope (cini 2)) [] [] (He.ma K (He.ga K "InvalidCommand") "__init__") (fdd 2)
  xr_InvalidWord : XrF K "InvalidWord" "index" "ValueError.__new__" mroVE
  Fi_InvalidWord : FunD K "__init__" "InvalidWord.__init__" (defArgs (cini 3)) (defBody (cini 3)) (defScope (cini 3)) [] [] (He.ma K (He.ga K "InvalidWord") "__init__") (fdd 3)
  xr_InvalidLine : XrF K "InvalidLine" "index" "ValueError.__new__" mroVE
  Fi_InvalidLine : FunD K "__init__" "InvalidLine.__init__" (defArgs (cini 4)) (defBody (cini 4)) (defScope (cini 4)) [] [] (He.ma K (He.ga K "InvalidLine") "__init__") (fdd 4)
  xr_InvalidState : XrF K "InvalidState" "" "ValueError.__new__" mroVE
  Fi_InvalidState : FunD K "__init__" "InvalidState.__init__" (defArgs (cini 5)) (defBody (cini 5)) (defScope (cini 5)) [] [] (He.ma K (He.ga K "InvalidState") "__init__") (fdd 5)
  xr_UnknownGroup : XrF K "UnknownGroup" "group" "LookupError.__new__" mroLE
  Fi_UnknownGroup : FunD K "__init__" "UnknownGroup.__init__" (defArgs (cini 6)) (defBody (cini 6)) (defScope (cini 6)) [] [] (He.ma K (He.ga K "UnknownGroup") "__init__") (fdd 6)
  xr_NoSuchSize : XrF K "NoSuchSize" "size" "LookupError.__new__" mroLE
  Fi_NoSuchSize : FunD K "__init__" "NoSuchSize.__init__" (defArgs (cini 7)) (defBody (cini 7)) (defScope (cini 7)) [] [] (He.ma K (He.ga K "NoSuchSize") "__init__") (fdd 7)
  xr_BadIndex : XrF K "BadIndex" "index" "LookupError.__new__" mroLE
  Fi_BadIndex : FunD K "__init__" "BadIndex.__init__" (defArgs (cini 8)) (defBody (cini 8)) (defScope (cini 8)) [] [] (He.ma K (He.ga K "BadIndex") "__init__") (fdd 8)
  xr_NoSuchDepth : XrF K "NoSuchDepth" "depth" "LookupError.__new__" mroLE
  Fi_NoSuchDepth : FunD K "__init__" "NoSuchDepth.__init__" (defArgs (cini 9)) (defBody (cini 9)) (defScope (cini 9)) [] [] (He.ma K (He.ga K "NoSuchDepth") "__init__") (fdd 9)
  xr_IllegalMove : XrF K "IllegalMove" "pair" "RuntimeError.__new__" mroRE
  Fi_IllegalMove : FunD K "__init__" "IllegalMove.__init__" (defArgs (cini 10)) (defBody (cini 10)) (defScope (cini 10)) [] [] (He.ma K (He.ga K "IllegalMove") "__init__") (fdd 10)
  xr_NotEnough : XrF K "NotEnough" "count" "RuntimeError.__new__" mroRE
  Fi_NotEnough : FunD K "__init__" "NotEnough.__init__" (defArgs (cini 11)) (defBody (cini 11)) (defScope (cini 11)) [] [] (He.ma K (He.ga K "NotEnough") "__init__") (fdd 11)
  xr_LastPeople : XrF K "LastPeople" "" "RuntimeError.__new__" mroRE
  Fi_LastPeople : FunD K "__init__" "LastPeople.__init__" (defArgs (cini 12)) (defBody (cini 12)) (defScope (cini 12)) [] [] (He.ma K (He.ga K "LastPeople") "__init__") (fdd 12)
  xr_TooLong : XrF K "TooLong" "size" "OverflowError.__new__" mroOE
  Fi_TooLong : FunD K "__init__" "TooLong.__init__" (defArgs (cini 13)) (defBody (cini 13)) (defScope (cini 13)) [] [] (He.ma K (He.ga K "TooLong") "__init__") (fdd 13)
  xr_TooMany : XrF K "TooMany" "size" "OverflowError.__new__" mroOE
  Fi_TooMany : FunD K "__init__" "TooMany.__init__" (defArgs (cini 14)) (defBody (cini 14)) (defScope (cini 14)) [] [] (He.ma K (He.ga K "TooMany") "__init__") (fdd 14)
  xr_TooManyGroups : XrF K "TooManyGroups" "count" "OverflowError.__new__" mroOE
  Fi_TooManyGroups : FunD K "__init__" "TooManyGroups.__init__" (defArgs (cini 15)) (defBody (cini 15)) (defScope (cini 15)) [] [] (He.ma K (He.ga K "TooManyGroups") "__init__") (fdd 15)
  xd : XDom K ["Unreachable", "InvalidCommand", "InvalidWord", "InvalidLine", "InvalidState", "UnknownGroup", "NoSuchSize", "BadIndex", "NoSuchDepth", "IllegalMove", "NotEnough", "LastPeople", "TooLong", "TooMany", "TooManyGroups"] [.own "Unreachable", .own "InvalidCommand", .own "InvalidWord", .own "InvalidLine", .own "InvalidState", .own "UnknownGroup", .own "NoSuchSize", .own "BadIndex", .own "NoSuchDepth", .own "IllegalMove", .own "NotEnough", .own "LastPeople", .own "TooLong", .own "TooMany", .own "TooManyGroups", .ty "ValueError", .ty "LookupError", .ty "RuntimeError", .ty "OverflowError", .ty "KeyError", .ty "IndexError", .ty "TypeError", .ty "ZeroDivisionError"] ["reason", "pair", "index", "group", "size", "depth", "count"]
  xc : XCat K mg ["Unreachable", "InvalidCommand", "InvalidWord", "InvalidLine", "InvalidState", "UnknownGroup", "NoSuchSize", "BadIndex", "NoSuchDepth", "IllegalMove", "NotEnough", "LastPeople", "TooLong", "TooMany", "TooManyGroups"] []
variable {P : Program} {w : World} {K : PySem.W.Frag} {mg : Str → Option Value} {base : Heap} {fa : Nat → Addr} {fdd : Nat → FuncData}
theorem sci_Unreachable : FnScope ["self", "reason"] ["self", "reason"] (defScope (cini 1)) := ⟨rfl, rfl, rfl, by decide +kernel, rfl, by decide +kernel, by decide +kernel⟩
theorem xi_Unreachable (T : Tx K mg fa fdd) : FnOk P w K mg base (L2.CX P w) 1 (He.ma K (He.ga K "Unreachable") "__init__") (fdd 1) ["self", "reason"] (spIni K "ValueError.__new__" mroVE "reason") := ini_ok T.Fi_Unreachable sci_Unreachable fun cdv A outer s H E => pss_cons (ps_expr (pe_binit (x := "ValueError") base_VE rfl T.n_ValueError base_VE.bt (by decide) (by decide) cls_VE (pa_cons (pv 0) pa_nil))) (pss_one (ps_osB base_VE (pv 0) (pv 1)))
theorem kbx_Unreachable (T : Tx K mg fa fdd) : KbX K (fdd 1) "reason" := kbx_mk T.Fi_Unreachable fun _ _ _ _ _ _ _ _ => rfl
theorem xc_Unreachable (T : Tx K mg fa fdd) : XcF P w K mg base "Unreachable" "reason" :=
  xcF_mk base_VE T.xr_Unreachable T.gx_Unreachable (ini_ok T.Fi_Unreachable sci_Unreachable fun cdv A outer s H E => pss_cons (ps_expr (pe_binit (x := "ValueError") base_VE rfl T.n_ValueError base_VE.bt (by decide) (by decide) cls_VE (pa_cons (pv 0) pa_nil))) (pss_one (ps_osB base_VE (pv 0) (pv 1)))) (T.Fi_Unreachable.bindsN fun _ _ _ _ _ _ us hl => match us, hl with | [_, _], _ => rfl)
theorem sci_InvalidCommand : FnScope ["self", "index"] ["self", "index"] (defScope (cini 2)) := ⟨rfl, rfl, rfl, by decide +kernel, rfl, by decide +kernel, by decide +kernel⟩
theorem xi_InvalidCommand (T : Tx K mg fa fdd) : FnOk P w K mg base (L2.CX P w) 1 (He.ma K (He.ga K "InvalidCommand") "__init__") (fdd 2) ["self", "index"] (spIni K "ValueError.__new__" mroVE "index") := ini_ok T.Fi_InvalidCommand sci_InvalidCommand fun cdv A outer s H E => pss_cons (ps_expr (pe_binit (x := "ValueError") base_VE rfl T.n_ValueError base_VE.bt (by decide) (by decide) cls_VE (pa_cons (pv 0) pa_nil))) (pss_one (ps_osB base_VE (pv 0) (pv 1)))
theorem kbx_InvalidCommand (T : Tx K mg fa fdd) : KbX K (fdd 2) "index" := kbx_mk T.Fi_InvalidCommand fun _ _ _ _ _ _ _ _ => rfl
theorem xc_InvalidCommand (T : Tx K mg fa fdd) : XcF P w K mg base "InvalidCommand" "index" :=
  xcF_mk base_VE T.xr_InvalidCommand T.gx_InvalidCommand (ini_ok T.Fi_InvalidCommand sci_InvalidCommand fun cdv A outer s H E => pss_cons (ps_expr (pe_binit (x := "ValueError") base_VE rfl T.n_ValueError base_VE.bt (by decide) (by decide) cls_VE (pa_cons (pv 0) pa_nil))) (pss_one (ps_osB base_VE (pv 0) (pv 1)))) (T.Fi_InvalidCommand.bindsN fun _ _ _ _ _ _ us hl => match us, hl with | [_, _], _ => rfl)
theorem sci_InvalidWord : FnScope ["self", "index"] ["self", "index"] (defScope (cini 3)) := ⟨rfl, rfl, rfl, by decide +kernel, rfl, by decide +kernel, by decide +kernel⟩
theorem xi_InvalidWord (T : Tx K mg fa fdd) : FnOk P w K mg base (L2.CX P w) 1 (He.ma K (He.ga K "InvalidWord") "__init__") (fdd 3) ["self", "index"] (spIni K "ValueError.__new__" mroVE "index") := ini_ok T.Fi_InvalidWord sci_InvalidWord fun cdv A outer s H E => pss_cons (ps_expr (pe_binit (x := "ValueError") base_VE rfl T.n_ValueError base_VE.bt (by decide) (by decide) cls_VE (pa_cons (pv 0) pa_nil))) (pss_one (ps_osB base_VE (pv 0) (pv 1)))
theorem kbx_InvalidWord (T : Tx K mg fa fdd) : KbX K (fdd 3) "index" := kbx_mk T.Fi_InvalidWord fun _ _ _ _ _ _ _ _ => rfl
theorem xc_InvalidWord (T : Tx K mg fa fdd) : XcF P w K mg base "InvalidWord" "index" :=
  xcF_mk base_VE T.xr_InvalidWord T.gx_InvalidWord (ini_ok T.Fi_InvalidWord sci_InvalidWord fun cdv A outer s H E => pss_cons (ps_expr (pe_binit (x := "ValueError") base_VE rfl T.n_ValueError base_VE.bt (by decide) (by decide) cls_VE (pa_cons (pv 0) pa_nil))) (pss_one (ps_osB base_VE (pv 0) (pv 1)))) (T.Fi_InvalidWord.bindsN fun _ _ _ _ _ _ us hl => match us, hl with | [_, _], _ => rfl)
theorem sci_InvalidLine : FnScope ["self", "index"] ["self", "index"] (defScope (cini 4)) := ⟨rfl, rfl, rfl, by decide +kernel, rfl, by decide +kernel, by decide +kernel⟩
theorem xi_InvalidLine (T : Tx K mg fa fdd) : FnOk P w K mg base (L2.CX P w) 1 (He.ma K (He.ga K "InvalidLine") "__init__") (fdd 4) ["self", "index"] (spIni K "ValueError.__new__" mroVE "index") := ini_ok T.Fi_InvalidLine sci_InvalidLine fun cdv A outer s H E => pss_cons (ps_expr (pe_binit (x := "ValueError") base_VE rfl T.n_ValueError base_VE.bt (by decide) (by decide) cls_VE (pa_cons (pv 0) pa_nil))) (pss_one (ps_osB base_VE (pv 0) (pv 1)))
theorem kbx_InvalidLine (T : Tx K mg fa fdd) : KbX K (fdd 4) "index" := kbx_mk T.Fi_InvalidLine fun _ _ _ _ _ _ _ _ => rfl
theorem xc_InvalidLine (T : Tx K mg fa fdd) : XcF P w K mg base "InvalidLine" "index" :=
  xcF_mk base_VE T.xr_InvalidLine T.gx_InvalidLine (ini_ok T.Fi_InvalidLine sci_InvalidLine fun cdv A outer s H E => pss_cons (ps_expr (pe_binit (x := "ValueError") base_VE rfl T.n_ValueError base_VE.bt (by decide) (by decide) cls_VE (pa_cons (pv 0) pa_nil))) (pss_one (ps_osB base_VE (pv 0) (pv 1)))) (T.Fi_InvalidLine.bindsN fun _ _ _ _ _ _ us hl => match us, hl with | [_, _], _ => rfl)
theorem sci_InvalidState : FnScope ["self"] ["self"] (defScope (cini 5)) := ⟨rfl, rfl, rfl, by decide +kernel, rfl, by decide +kernel, by decide +kernel⟩
theorem xi_InvalidState (T : Tx K mg fa fdd) : FnOk P w K mg base (L2.CX P w) 1 (He.ma K (He.ga K "InvalidState") "__init__") (fdd 5) ["self"] (spIni0 K "ValueError.__new__" mroVE) := ini0_ok T.Fi_InvalidState sci_InvalidState fun cdv A outer s H E => pss_one (ps_expr (pe_binit (x := "ValueError") base_VE rfl T.n_ValueError base_VE.bt (by decide) (by decide) cls_VE (pa_cons (pv 0) pa_nil)))
theorem bdx_InvalidState (T : Tx K mg fa fdd) : Binds K (fdd 5) ["self"] [] := T.Fi_InvalidState.bindsN fun _ _ _ _ _ _ us hl => match us, hl with | [_], _ => rfl
theorem sci_UnknownGroup : FnScope ["self", "group"] ["self", "group"] (defScope (cini 6)) := ⟨rfl, rfl, rfl, by decide +kernel, rfl, by decide +kernel, by decide +kernel⟩
theorem xi_UnknownGroup (T : Tx K mg fa fdd) : FnOk P w K mg base (L2.CX P w) 1 (He.ma K (He.ga K "UnknownGroup") "__init__") (fdd 6) ["self", "group"] (spIni K "LookupError.__new__" mroLE "group") := ini_ok T.Fi_UnknownGroup sci_UnknownGroup fun cdv A outer s H E => pss_cons (ps_expr (pe_binit (x := "LookupError") base_LE rfl T.n_LookupError base_LE.bt (by decide) (by decide) cls_LE (pa_cons (pv 0) pa_nil))) (pss_one (ps_osB base_LE (pv 0) (pv 1)))
theorem kbx_UnknownGroup (T : Tx K mg fa fdd) : KbX K (fdd 6) "group" := kbx_mk T.Fi_UnknownGroup fun _ _ _ _ _ _ _ _ => rfl
theorem xc_UnknownGroup (T : Tx K mg fa fdd) : XcF P w K mg base "UnknownGroup" "group" :=
  xcF_mk base_LE T.xr_UnknownGroup T.gx_UnknownGroup (ini_ok T.Fi_UnknownGroup sci_UnknownGroup fun cdv A outer s H E => pss_cons (ps_expr (pe_binit (x := "LookupError") base_LE rfl T.n_LookupError base_LE.bt (by decide) (by decide) cls_LE (pa_cons (pv 0) pa_nil))) (pss_one (ps_osB base_LE (pv 0) (pv 1)))) (T.Fi_UnknownGroup.bindsN fun _ _ _ _ _ _ us hl => match us, hl with | [_, _], _ => rfl)
theorem sci_NoSuchSize : FnScope ["self", "size"] ["self", "size"] (defScope (cini 7)) := ⟨rfl, rfl, rfl, by decide +kernel, rfl, by decide +kernel, by decide +kernel⟩
theorem xi_NoSuchSize (T : Tx K mg fa fdd) : FnOk P w K mg base (L2.CX P w) 1 (He.ma K (He.ga K "NoSuchSize") "__init__") (fdd 7) ["self", "size"] (spIni K "LookupError.__new__" mroLE "size") := ini_ok T.Fi_NoSuchSize sci_NoSuchSize fun cdv A outer s H E => pss_cons (ps_expr (pe_binit (x := "LookupError") base_LE rfl T.n_LookupError base_LE.bt (by decide) (by decide) cls_LE (pa_cons (pv 0) pa_nil))) (pss_one (ps_osB base_LE (pv 0) (pv 1)))
theorem kbx_NoSuchSize (T : Tx K mg fa fdd) : KbX K (fdd 7) "size" := kbx_mk T.Fi_NoSuchSize fun _ _ _ _ _ _ _ _ => rfl
theorem xc_NoSuchSize (T : Tx K mg fa fdd) : XcF P w K mg base "NoSuchSize" "size" :=
  xcF_mk base_LE T.xr_NoSuchSize T.gx_NoSuchSize (ini_ok T.Fi_NoSuchSize sci_NoSuchSize fun cdv A outer s H E => pss_cons (ps_expr (pe_binit (x := "LookupError") base_LE rfl T.n_LookupError base_LE.bt (by decide) (by decide) cls_LE (pa_cons (pv 0) pa_nil))) (pss_one (ps_osB base_LE (pv 0) (pv 1)))) (T.Fi_NoSuchSize.bindsN fun _ _ _ _ _ _ us hl => match us, hl with | [_, _], _ => rfl)
theorem sci_BadIndex : FnScope ["self", "index"] ["self", "index"] (defScope (cini 8)) := ⟨rfl, rfl, rfl, by decide +kernel, rfl, by decide +kernel, by decide +kernel⟩
theorem xi_BadIndex (T : Tx K mg fa fdd) : FnOk P w K mg base (L2.CX P w) 1 (He.ma K (He.ga K "BadIndex") "__init__") (fdd 8) ["self", "index"] (spIni K "LookupError.__new__" mroLE "index") := ini_ok T.Fi_BadIndex sci_BadIndex fun cdv A outer s H E => pss_cons (ps_expr (pe_binit (x := "LookupError") base_LE rfl T.n_LookupError base_LE.bt (by decide) (by decide) cls_LE (pa_cons (pv 0) pa_nil))) (pss_one (ps_osB base_LE (pv 0) (pv 1)))
theorem kbx_BadIndex (T : Tx K mg fa fdd) : KbX K (fdd 8) "index" := kbx_mk T.Fi_BadIndex fun _ _ _ _ _ _ _ _ => rfl
theorem xc_BadIndex (T : Tx K mg fa fdd) : XcF P w K mg base "BadIndex" "index" :=
  xcF_mk base_LE T.xr_BadIndex T.gx_BadIndex (ini_ok T.Fi_BadIndex sci_BadIndex fun cdv A outer s H E => pss_cons (ps_expr (pe_binit (x := "LookupError") base_LE rfl T.n_LookupError base_LE.bt (by decide) (by decide) cls_LE (pa_cons (pv 0) pa_nil))) (pss_one (ps_osB base_LE (pv 0) (pv 1)))) (T.Fi_BadIndex.bindsN fun _ _ _ _ _ _ us hl => match us, hl with | [_, _], _ => rfl)
theorem sci_NoSuchDepth : FnScope ["self", "depth"] ["self", "depth"] (defScope (cini 9)) := ⟨rfl, rfl, rfl, by decide +kernel, rfl, by decide +kernel, by decide +kernel⟩
theorem xi_NoSuchDepth (T : Tx K mg fa fdd) : FnOk P w K mg base (L2.CX P w) 1 (He.ma K (He.ga K "NoSuchDepth") "__init__") (fdd 9) ["self", "depth"] (spIni K "LookupError.__new__" mroLE "depth") := ini_ok T.Fi_NoSuchDepth sci_NoSuchDepth fun cdv A outer s H E => pss_cons (ps_expr (pe_binit (x := "LookupError") base_LE rfl T.n_LookupError base_LE.bt (by decide) (by decide) cls_LE (pa_cons (pv 0) pa_nil))) (pss_one (ps_osB base_LE (pv 0) (pv 1)))
theorem kbx_NoSuchDepth (T : Tx K mg fa fdd) : KbX K (fdd 9) "depth" := kbx_mk T.Fi_NoSuchDepth fun _ _ _ _ _ _ _ _ => rfl
theorem xc_NoSuchDepth (T : Tx K mg fa fdd) : XcF P w K mg base "NoSuchDepth" "depth" :=
  xcF_mk base_LE T.xr_NoSuchDepth T.gx_NoSuchDepth (ini_ok T.Fi_NoSuchDepth sci_NoSuchDepth fun cdv A outer s H E => pss_cons (ps_expr (pe_binit (x := "LookupError") base_LE rfl T.n_LookupError base_LE.bt (by decide) (by decide) cls_LE (pa_cons (pv 0) pa_nil))) (pss_one (ps_osB base_LE (pv 0) (pv 1)))) (T.Fi_NoSuchDepth.bindsN fun _ _ _ _ _ _ us hl => match us, hl with | [_, _], _ => rfl)
theorem sci_IllegalMove : FnScope ["self", "pair"] ["self", "pair"] (defScope (cini 10)) := ⟨rfl, rfl, rfl, by decide +kernel, rfl, by decide +kernel, by decide +kernel⟩
theorem xi_IllegalMove (T : Tx K mg fa fdd) : FnOk P w K mg base (L2.CX P w) 1 (He.ma K (He.ga K "IllegalMove") "__init__") (fdd 10) ["self", "pair"] (spIni K "RuntimeError.__new__" mroRE "pair") := ini_ok T.Fi_IllegalMove sci_IllegalMove fun cdv A outer s H E => pss_cons (ps_expr (pe_binit (x := "RuntimeError") base_RE rfl T.n_RuntimeError base_RE.bt (by decide) (by decide) cls_RE (pa_cons (pv 0) pa_nil))) (pss_one (ps_osB base_RE (pv 0) (pv 1)))
theorem kbx_IllegalMove (T : Tx K mg fa fdd) : KbX K (fdd 10) "pair" := kbx_mk T.Fi_IllegalMove fun _ _ _ _ _ _ _ _ => rfl
theorem xc_IllegalMove (T : Tx K mg fa fdd) : XcF P w K mg base "IllegalMove" "pair" :=
  xcF_mk base_RE T.xr_IllegalMove T.gx_IllegalMove (ini_ok T.Fi_IllegalMove sci_IllegalMove fun cdv A outer s H E => pss_cons (ps_expr (pe_binit (x := "RuntimeError") base_RE rfl T.n_RuntimeError base_RE.bt (by decide) (by decide) cls_RE (pa_cons (pv 0) pa_nil))) (pss_one (ps_osB base_RE (pv 0) (pv 1)))) (T.Fi_IllegalMove.bindsN fun _ _ _ _ _ _ us hl => match us, hl with | [_, _], _ => rfl)
theorem sci_NotEnough : FnScope ["self", "count"] ["self", "count"] (defScope (cini 11)) := ⟨rfl, rfl, rfl, by decide +kernel, rfl, by decide +kernel, by decide +kernel⟩
theorem xi_NotEnough (T : Tx K mg fa fdd) : FnOk P w K mg base (L2.CX P w) 1 (He.ma K (He.ga K "NotEnough") "__init__") (fdd 11) ["self", "count"] (spIni K "RuntimeError.__new__" mroRE "count") := ini_ok T.Fi_NotEnough sci_NotEnough fun cdv A outer s H E => pss_cons (ps_expr (pe_binit (x := "RuntimeError") base_RE rfl T.n_RuntimeError base_RE.bt (by decide) (by decide) cls_RE (pa_cons (pv 0) pa_nil))) (pss_one (ps_osB base_RE (pv 0) (pv 1)))
theorem kbx_NotEnough (T : Tx K mg fa fdd) : KbX K (fdd 11) "count" := kbx_mk T.Fi_NotEnough fun _ _ _ _ _ _ _ _ => rfl
theorem xc_NotEnough (T : Tx K mg fa fdd) : XcF P w K mg base "NotEnough" "count" :=
  xcF_mk base_RE T.xr_NotEnough T.gx_NotEnough (ini_ok T.Fi_NotEnough sci_NotEnough fun cdv A outer s H E => pss_cons (ps_expr (pe_binit (x := "RuntimeError") base_RE rfl T.n_RuntimeError base_RE.bt (by decide) (by decide) cls_RE (pa_cons (pv 0) pa_nil))) (pss_one (ps_osB base_RE (pv 0) (pv 1)))) (T.Fi_NotEnough.bindsN fun _ _ _ _ _ _ us hl => match us, hl with | [_, _], _ => rfl)
theorem sci_LastPeople : FnScope ["self"] ["self"] (defScope (cini 12)) := ⟨rfl, rfl, rfl, by decide +kernel, rfl, by decide +kernel, by decide +kernel⟩
theorem xi_LastPeople (T : Tx K mg fa fdd) : FnOk P w K mg base (L2.CX P w) 1 (He.ma K (He.ga K "LastPeople") "__init__") (fdd 12) ["self"] (spIni0 K "RuntimeError.__new__" mroRE) := ini0_ok T.Fi_LastPeople sci_LastPeople fun cdv A outer s H E => pss_one (ps_expr (pe_binit (x := "RuntimeError") base_RE rfl T.n_RuntimeError base_RE.bt (by decide) (by decide) cls_RE (pa_cons (pv 0) pa_nil)))
theorem bdx_LastPeople (T : Tx K mg fa fdd) : Binds K (fdd 12) ["self"] [] := T.Fi_LastPeople.bindsN fun _ _ _ _ _ _ us hl => match us, hl with | [_], _ => rfl
theorem sci_TooLong : FnScope ["self", "size"] ["self", "size"] (defScope (cini 13)) := ⟨rfl, rfl, rfl, by decide +kernel, rfl, by decide +kernel, by decide +kernel⟩
theorem xi_TooLong (T : Tx K mg fa fdd) : FnOk P w K mg base (L2.CX P w) 1 (He.ma K (He.ga K "TooLong") "__init__") (fdd 13) ["self", "size"] (spIni K "OverflowError.__new__" mroOE "size") := ini_ok T.Fi_TooLong sci_TooLong fun cdv A outer s H E => pss_cons (ps_expr (pe_binit (x := "OverflowError") base_OE rfl T.n_OverflowError base_OE.bt (by decide) (by decide) cls_OE (pa_cons (pv 0) pa_nil))) (pss_one (ps_osB base_OE (pv 0) (pv 1)))
theorem kbx_TooLong (T : Tx K mg fa fdd) : KbX K (fdd 13) "size" := kbx_mk T.Fi_TooLong fun _ _ _ _ _ _ _ _ => rfl
theorem xc_TooLong (T : Tx K mg fa fdd) : XcF P w K mg base "TooLong" "size" :=
  xcF_mk base_OE T.xr_TooLong T.gx_TooLong (ini_ok T.Fi_TooLong sci_TooLong fun cdv A outer s H E => pss_cons (ps_expr (pe_binit (x := "OverflowError") base_OE rfl T.n_OverflowError base_OE.bt (by decide) (by decide) cls_OE (pa_cons (pv 0) pa_nil))) (pss_one (ps_osB base_OE (pv 0) (pv 1)))) (T.Fi_TooLong.bindsN fun _ _ _ _ _ _ us hl => match us, hl with | [_, _], _ => rfl)
theorem sci_TooMany : FnScope ["self", "size"] ["self", "size"] (defScope (cini 14)) := ⟨rfl, rfl, rfl, by decide +kernel, rfl, by decide +kernel, by decide +kernel⟩
theorem xi_TooMany (T : Tx K mg fa fdd) : FnOk P w K mg base (L2.CX P w) 1 (He.ma K (He.ga K "TooMany") "__init__") (fdd 14) ["self", "size"] (spIni K "OverflowError.__new__" mroOE "size") := ini_ok T.Fi_TooMany sci_TooMany fun cdv A outer s H E => pss_cons (ps_expr (pe_binit (x := "OverflowError") base_OE rfl T.n_OverflowError base_OE.bt (by decide) (by decide) cls_OE (pa_cons (pv 0) pa_nil))) (pss_one (ps_osB base_OE (pv 0) (pv 1)))
theorem kbx_TooMany (T : Tx K mg fa fdd) : KbX K (fdd 14) "size" := kbx_mk T.Fi_TooMany fun _ _ _ _ _ _ _ _ => rfl
theorem xc_TooMany (T : Tx K mg fa fdd) : XcF P w K mg base "TooMany" "size" :=
  xcF_mk base_OE T.xr_TooMany T.gx_TooMany (ini_ok T.Fi_TooMany sci_TooMany fun cdv A outer s H E => pss_cons (ps_expr (pe_binit (x := "OverflowError") base_OE rfl T.n_OverflowError base_OE.bt (by decide) (by decide) cls_OE (pa_cons (pv 0) pa_nil))) (pss_one (ps_osB base_OE (pv 0) (pv 1)))) (T.Fi_TooMany.bindsN fun _ _ _ _ _ _ us hl => match us, hl with | [_, _], _ => rfl)
theorem sci_TooManyGroups : FnScope ["self", "count"] ["self", "count"] (defScope (cini 15)) := ⟨rfl, rfl, rfl, by decide +kernel, rfl, by decide +kernel, by decide +kernel⟩
theorem xi_TooManyGroups (T : Tx K mg fa fdd) : FnOk P w K mg base (L2.CX P w) 1 (He.ma K (He.ga K "TooManyGroups") "__init__") (fdd 15) ["self", "count"] (spIni K "OverflowError.__new__" mroOE "count") := ini_ok T.Fi_TooManyGroups sci_TooManyGroups fun cdv A outer s H E => pss_cons (ps_expr (pe_binit (x := "OverflowError") base_OE rfl T.n_OverflowError base_OE.bt (by decide) (by decide) cls_OE (pa_cons (pv 0) pa_nil))) (pss_one (ps_osB base_OE (pv 0) (pv 1)))
theorem kbx_TooManyGroups (T : Tx K mg fa fdd) : KbX K (fdd 15) "count" := kbx_mk T.Fi_TooManyGroups fun _ _ _ _ _ _ _ _ => rfl
theorem xc_TooManyGroups (T : Tx K mg fa fdd) : XcF P w K mg base "TooManyGroups" "count" :=
  xcF_mk base_OE T.xr_TooManyGroups T.gx_TooManyGroups (ini_ok T.Fi_TooManyGroups sci_TooManyGroups fun cdv A outer s H E => pss_cons (ps_expr (pe_binit (x := "OverflowError") base_OE rfl T.n_OverflowError base_OE.bt (by decide) (by decide) cls_OE (pa_cons (pv 0) pa_nil))) (pss_one (ps_osB base_OE (pv 0) (pv 1)))) (T.Fi_TooManyGroups.bindsN fun _ _ _ _ _ _ us hl => match us, hl with | [_, _], _ => rfl)
theorem sc__law_stream : FnScope ["_law_script", "_law_k", "_law_cell"] ["_law_script", "_law_k"] (defScope (top 21)) := ⟨rfl, rfl, rfl, by decide +kernel, rfl, by decide +kernel, by decide +kernel⟩
theorem bd__law_stream (T : Tx K mg fa fdd) : Binds K (fdd 21) ["_law_script", "_law_k"] [] := T.F__law_stream.bindsN fun _ _ _ _ _ _ us hl => match us, hl with | [_, _], _ => rfl
theorem ok__law_stream (T : Tx K mg fa fdd) : FnOk P w K mg base (L2.CX P w) 1 (fa 21) (fdd 21) ["_law_script", "_law_k"] (spOf K 2 m__law_stream) :=
  def_okD (N := ["_law_script", "_law_k", "_law_cell"]) (mask := [true, true]) (fb := b__law_stream) T.F__law_stream sc__law_stream rfl (by decide) fun cdv A outer s H vs rs E hr hl => match vs, hl with
    | [v0, v1], _ => (ws_cons (w_set (i := 2) (w_ifE (wt_cmpR (op_ltA hr.units0) s_lt (wr_s (pv 1)) (wr_v (w_roB call_len_seq c_len rfl T.n_len bb_len (wA_s (pv 0) wA_nil)))) (w_ixS rfl (pv 0) (w_var (pv 1))) w_int) sc__law_stream.nd rfl (by first | exact .inl rfl | exact .inr rfl) rfl)
    (ws_one (w_ret (w_lst (wa_cons (w_bin op_mulB s_mulB (w_roB call_abs c_abs rfl T.n_abs bb_abs (wA_s (pv 2) wA_nil)) (w_roTy call_int1 c_int rfl T.n_int bt_int (wA_v (w_cmpR op_ge s_ge (wr_v (w_roB call_abs c_abs rfl T.n_abs bb_abs (wA_s (pv 2) wA_nil))) (wr_v (w_bin op_pow s_pow w_int w_int))) wA_nil))) (wa_cons (w_bin op_mod s_mod (w_bin op_mulB s_mulB (w_bin op_addA s_add (w_bin op_addA s_add (w_bin op_mod s_mod (w_var (pv 2)) w_int) (w_bin op_mulB s_mulB w_int (w_var (pv 1)))) w_int) w_int) w_int) (wa_cons w_int wa_nil)))))))
theorem sc__law_fold : FnScope ["_law_script", "_law_span", "_law_cells", "_law_k", "_law_cell"] ["_law_script", "_law_span"] (defScope (top 23)) := ⟨rfl, rfl, rfl, by decide +kernel, rfl, by decide +kernel, by decide +kernel⟩
theorem bd__law_fold (T : Tx K mg fa fdd) : Binds K (fdd 23) ["_law_script", "_law_span"] [] := T.F__law_fold.bindsN fun _ _ _ _ _ _ us hl => match us, hl with | [_, _], _ => rfl
theorem ok__law_fold (T : Tx K mg fa fdd) : FnOk P w K mg base (L2.CX P w) 1 (fa 23) (fdd 23) ["_law_script", "_law_span"] (spOf K 2 m__law_fold) :=
  def_okD (N := ["_law_script", "_law_span", "_law_cells", "_law_k", "_law_cell"]) (mask := [true, true]) (fb := b__law_fold) T.F__law_fold sc__law_fold rfl (by decide) fun cdv A outer s H vs rs E hr hl => match vs, hl with
    | [v0, v1], _ => (ws_cons (w_set (i := 2) (w_callTy call_list_of c_list rfl T.n_list bt_list (wa_cons (w_slice rfl (w_var (pv 0)) wo_none (wo_some (w_var (pv 1)))) wa_nil)) sc__law_fold.nd rfl (by first | exact .inl rfl | exact .inr rfl) rfl)
    (ws_cons (w_for (passes_of rfl) rfl (wi_enum rfl rfl T.n_enumerate (wA_v (w_slice rfl (w_var (pv 0)) (wo_some (w_var (pv 1))) (wo_some w_int)) wA_nil)) (wg_tup rfl rfl (wgs_cons (wg_name (i := 3) sc__law_fold.nd rfl (by first | exact .inl rfl | exact .inr rfl) rfl) (wgs_cons (wg_name (i := 4) sc__law_fold.nd rfl (by first | exact .inl rfl | exact .inr rfl) rfl) wgs_nil)))
    (ws_one (w_asg (w_bin op_addA s_add (w_ixS rfl (pv 2) (w_bin op_mod s_mod (w_var (pv 3)) (w_var (pv 1)))) (w_bin op_mulB s_mulB (w_var (pv 4)) (w_bin op_addA s_add (w_var (pv 3)) w_int))) (wg_sub (pg_sub (pv 2) (w_bin op_mod s_mod (w_var (pv 3)) (w_var (pv 1))) set_list)))))
    (ws_one (w_ret (w_take (pv 2))))))
theorem sc__law_draw : FnScope ["_law_rng", "_law_span", "_law_found", "_law_stir", "_law_once", "_law_twice"] ["_law_rng", "_law_span"] (defScope (top 22)) := ⟨rfl, rfl, rfl, by decide +kernel, rfl, by decide +kernel, by decide +kernel⟩
theorem bd__law_draw (T : Tx K mg fa fdd) : Binds K (fdd 22) ["_law_rng", "_law_span"] [] := T.F__law_draw.bindsN fun _ _ _ _ _ _ us hl => match us, hl with | [_, _], _ => rfl
theorem ok__law_draw_n (T : Tx K mg fa fdd) : ∀ n, FnOk P w K mg base (L2.CX P w) (0 + n) (fa 22) (fdd 22) ["_law_rng", "_law_span"] (spOf K 2 (m__law_draw n))
  | 0 => fn_none
  | n + 1 => def_okD (N := ["_law_rng", "_law_span", "_law_found", "_law_stir", "_law_once", "_law_twice"]) (mask := [true, true]) (fb := b__law_draw (m__law_draw n)) T.F__law_draw sc__law_draw rfl (by decide) fun cdv A outer s H vs rs E hr hl => match vs, hl with
    | [v0, v1], _ => (ws_cons (w_if (wt_cmpR op_gt s_gt (wr_v (w_ixS rfl (pv 0) w_int)) (wr_v w_int)) (ws_cons (w_asg (w_callB call_divmodW c_divmod rfl T.n_divmod bb_divmod (wa_cons (w_ixS rfl (pv 0) w_int) (wa_cons (w_var (pv 1)) wa_nil))) (wg_tup rfl rfl (wgs_cons (wg_sub (pg_sub (pv 0) w_int set_list)) (wgs_cons (wg_name (i := 2) sc__law_draw.nd rfl (by first | exact .inl rfl | exact .inr rfl) rfl) wgs_nil))))
    (ws_one (w_ret (w_take (pv 2))))) ws_nil)
    (ws_cons (w_if (wt_cmpR op_gt s_gt (wr_s (pv 1)) (wr_v (w_bin op_pow s_pow w_int w_int))) (ws_one (w_ret (w_bin op_mod s_mod (w_bin op_addA s_add (w_call (ok__law_draw_n T n) hr rfl T.g__law_draw T.F__law_draw.kp (bd__law_draw T) (takes_of rfl rfl rfl rfl) (wA_s (pv 0) (wA_v (w_frz (w_bin op_pow s_pow w_int w_int)) wA_nil))) (w_bin op_mulB s_mulB (w_bin op_pow s_pow w_int w_int) (w_call (ok__law_draw_n T n) hr rfl T.g__law_draw T.F__law_draw.kp (bd__law_draw T) (takes_of rfl rfl rfl rfl) (wA_s (pv 0) (wA_v (w_frz (w_bin op_addA s_add (w_bin op_fdivW s_fdiv (w_bin op_sub s_sub (w_var (pv 1)) w_int) (w_bin op_pow s_pow w_int w_int)) w_int)) wA_nil))))) (w_var (pv 1))))) ws_nil)
    (ws_cons (w_asg (w_bin op_addA s_add (w_ixS rfl (pv 0) w_int) w_int) (wg_sub (pg_sub (pv 0) w_int set_list)))
    (ws_cons (w_set (i := 3) (w_bin op_addA s_add w_int (w_bin op_mulB s_mulB (w_ixS rfl (pv 0) w_int) (w_ixS rfl (pv 0) w_int))) sc__law_draw.nd rfl (by first | exact .inl rfl | exact .inr rfl) rfl)
    (ws_cons (w_set (i := 4) (w_bin op_mod s_mod (w_bin op_mulB s_mulB (w_bin op_addA s_add (w_ixS rfl (pv 0) w_int) (w_bin op_mulB s_mulB w_int (w_ixS rfl (pv 0) w_int))) (w_var (pv 3))) w_int) sc__law_draw.nd rfl (by first | exact .inl rfl | exact .inr rfl) rfl)
    (ws_cons (w_set (i := 5) (w_bin op_mod s_mod (w_bin op_addA s_add (w_bin op_mulB s_mulB (w_var (pv 4)) (w_bin op_addA s_add (w_bin op_mod s_mod (w_var (pv 4)) w_int) w_int)) (w_ixS rfl (pv 0) w_int)) w_int) sc__law_draw.nd rfl (by first | exact .inl rfl | exact .inr rfl) rfl)
    (ws_one (w_ret (w_bin op_mod s_mod (w_bin op_fdivW s_fdiv (w_bin op_mod s_mod (w_bin op_mulB s_mulB (w_var (pv 5)) (w_bin op_addA s_add (w_bin op_mod s_mod (w_var (pv 5)) w_int) w_int)) w_int) w_int) (w_var (pv 1)))))))))))
theorem ok__law_draw (T : Tx K mg fa fdd) : FnOk P w K mg base (L2.CX P w) 12 (fa 22) (fdd 22) ["_law_rng", "_law_span"] (spOf K 2 (m__law_draw 12)) := ok__law_draw_n T 12
theorem sc__law_limits_right : FnScope [] [] (defScope (top 27)) := ⟨rfl, rfl, rfl, by decide +kernel, rfl, by decide +kernel, by decide +kernel⟩
theorem bd__law_limits_right (T : Tx K mg fa fdd) : Binds K (fdd 27) [] [] := T.F__law_limits_right.bindsN fun _ _ _ _ _ _ us hl => match us, hl with | [], _ => rfl
theorem kb__law_limits_right_0_ (T : Tx K mg fa fdd) : KB K (fdd 27) [] [] 0 [] [] := kb_none T.F__law_limits_right fun _ _ _ _ _ _ us ws h1 h2 => match us, ws, h1, h2 with | [], [], _, _ => rfl
theorem ok__law_limits_right (T : Tx K mg fa fdd) : FnOk P w K mg base (L2.CX P w) 1 (fa 27) (fdd 27) [] (spOf K 0 m__law_limits_right) :=
  def_okD (N := []) (mask := []) (fb := b__law_limits_right) T.F__law_limits_right sc__law_limits_right rfl (by decide) fun cdv A outer s H vs rs E hr hl => match vs, hl with
    | [], _ => (ws_one (w_ret (w_cmpR (op_eqD hr.units) s_eq (wr_v (w_lst (wa_cons (w_gint rfl (T.c_MAX_SEQUENCE).choose_spec) (wa_cons (w_gint rfl (T.c_MAX_PEOPLE).choose_spec) (wa_cons (w_gint rfl (T.c_MAX_PEOPLE_IN_SEQUENCES).choose_spec) (wa_cons (w_gint rfl (T.c_MAX_GROUPS).choose_spec) wa_nil)))))) (wr_v (w_lst (wa_cons w_int (wa_cons w_int (wa_cons w_int (wa_cons w_int wa_nil)))))))))
theorem sc__law_kinds : FnScope ["_law_error", "_law_some"] ["_law_error"] (defScope (top 24)) := ⟨rfl, rfl, rfl, by decide +kernel, rfl, by decide +kernel, by decide +kernel⟩
theorem bd__law_kinds (T : Tx K mg fa fdd) : Binds K (fdd 24) ["_law_error"] [] := T.F__law_kinds.bindsN fun _ _ _ _ _ _ us hl => match us, hl with | [_], _ => rfl
theorem ok__law_kinds (T : Tx K mg fa fdd) : FnOk P w K mg base (L2.CX P w) 1 (fa 24) (fdd 24) ["_law_error"] (spOf K 1 m__law_kinds) :=
  def_okD (N := ["_law_error", "_law_some"]) (mask := [true]) (fb := b__law_kinds) T.F__law_kinds sc__law_kinds rfl (by decide) fun cdv A outer s H vs rs E hr hl => match vs, hl with
    | [v0], _ => (ws_cons (w_set (i := 1) (w_lst (wa_cons (w_isx1 (y := .own "Unreachable") T.xd rfl (by decide) rfl T.n_isinstance bb_isinstance (w_var (pv 0)) (px_own rfl T.gx_Unreachable)) (wa_cons (w_isx1 (y := .own "InvalidCommand") T.xd rfl (by decide) rfl T.n_isinstance bb_isinstance (w_var (pv 0)) (px_own rfl T.gx_InvalidCommand)) (wa_cons (w_isx1 (y := .own "InvalidWord") T.xd rfl (by decide) rfl T.n_isinstance bb_isinstance (w_var (pv 0)) (px_own rfl T.gx_InvalidWord)) wa_nil)))) sc__law_kinds.nd rfl (by first | exact .inl rfl | exact .inr rfl) rfl)
    (ws_cons (w_set (i := 1) (w_bin op_addA s_add (w_var (pv 1)) (w_lst (wa_cons (w_isx1 (y := .own "InvalidLine") T.xd rfl (by decide) rfl T.n_isinstance bb_isinstance (w_var (pv 0)) (px_own rfl T.gx_InvalidLine)) (wa_cons (w_isx1 (y := .own "InvalidState") T.xd rfl (by decide) rfl T.n_isinstance bb_isinstance (w_var (pv 0)) (px_own rfl T.gx_InvalidState)) (wa_cons (w_isx1 (y := .own "UnknownGroup") T.xd rfl (by decide) rfl T.n_isinstance bb_isinstance (w_var (pv 0)) (px_own rfl T.gx_UnknownGroup)) wa_nil))))) sc__law_kinds.nd rfl (by first | exact .inl rfl | exact .inr rfl) rfl)
    (ws_cons (w_set (i := 1) (w_bin op_addA s_add (w_var (pv 1)) (w_lst (wa_cons (w_isx1 (y := .own "NoSuchSize") T.xd rfl (by decide) rfl T.n_isinstance bb_isinstance (w_var (pv 0)) (px_own rfl T.gx_NoSuchSize)) (wa_cons (w_isx1 (y := .own "BadIndex") T.xd rfl (by decide) rfl T.n_isinstance bb_isinstance (w_var (pv 0)) (px_own rfl T.gx_BadIndex)) (wa_cons (w_isx1 (y := .own "NoSuchDepth") T.xd rfl (by decide) rfl T.n_isinstance bb_isinstance (w_var (pv 0)) (px_own rfl T.gx_NoSuchDepth)) wa_nil))))) sc__law_kinds.nd rfl (by first | exact .inl rfl | exact .inr rfl) rfl)
    (ws_cons (w_set (i := 1) (w_bin op_addA s_add (w_var (pv 1)) (w_lst (wa_cons (w_isx1 (y := .own "IllegalMove") T.xd rfl (by decide) rfl T.n_isinstance bb_isinstance (w_var (pv 0)) (px_own rfl T.gx_IllegalMove)) (wa_cons (w_isx1 (y := .own "NotEnough") T.xd rfl (by decide) rfl T.n_isinstance bb_isinstance (w_var (pv 0)) (px_own rfl T.gx_NotEnough)) (wa_cons (w_isx1 (y := .own "LastPeople") T.xd rfl (by decide) rfl T.n_isinstance bb_isinstance (w_var (pv 0)) (px_own rfl T.gx_LastPeople)) wa_nil))))) sc__law_kinds.nd rfl (by first | exact .inl rfl | exact .inr rfl) rfl)
    (ws_one (w_ret (w_bin op_addA s_add (w_var (pv 1)) (w_lst (wa_cons (w_isx1 (y := .own "TooLong") T.xd rfl (by decide) rfl T.n_isinstance bb_isinstance (w_var (pv 0)) (px_own rfl T.gx_TooLong)) (wa_cons (w_isx1 (y := .own "TooMany") T.xd rfl (by decide) rfl T.n_isinstance bb_isinstance (w_var (pv 0)) (px_own rfl T.gx_TooMany)) (wa_cons (w_isx1 (y := .own "TooManyGroups") T.xd rfl (by decide) rfl T.n_isinstance bb_isinstance (w_var (pv 0)) (px_own rfl T.gx_TooManyGroups)) wa_nil)))))))))))
theorem sc__law_unders : FnScope ["_law_error", "_law_some"] ["_law_error"] (defScope (top 25)) := ⟨rfl, rfl, rfl, by decide +kernel, rfl, by decide +kernel, by decide +kernel⟩
theorem bd__law_unders (T : Tx K mg fa fdd) : Binds K (fdd 25) ["_law_error"] [] := T.F__law_unders.bindsN fun _ _ _ _ _ _ us hl => match us, hl with | [_], _ => rfl
theorem ok__law_unders (T : Tx K mg fa fdd) : FnOk P w K mg base (L2.CX P w) 1 (fa 25) (fdd 25) ["_law_error"] (spOf K 1 m__law_unders) :=
  def_okD (N := ["_law_error", "_law_some"]) (mask := [true]) (fb := b__law_unders) T.F__law_unders sc__law_unders rfl (by decide) fun cdv A outer s H vs rs E hr hl => match vs, hl with
    | [v0], _ => (ws_cons (w_set (i := 1) (w_lst (wa_cons (w_isx1 (y := .ty "ValueError") T.xd rfl (by decide) rfl T.n_isinstance bb_isinstance (w_var (pv 0)) (px_ty rfl T.n_ValueError bt_ValueError)) (wa_cons (w_isx1 (y := .ty "LookupError") T.xd rfl (by decide) rfl T.n_isinstance bb_isinstance (w_var (pv 0)) (px_ty rfl T.n_LookupError bt_LookupError)) (wa_cons (w_isx1 (y := .ty "RuntimeError") T.xd rfl (by decide) rfl T.n_isinstance bb_isinstance (w_var (pv 0)) (px_ty rfl T.n_RuntimeError bt_RuntimeError)) wa_nil)))) sc__law_unders.nd rfl (by first | exact .inl rfl | exact .inr rfl) rfl)
    (ws_cons (w_set (i := 1) (w_bin op_addA s_add (w_var (pv 1)) (w_lst (wa_cons (w_isx1 (y := .ty "OverflowError") T.xd rfl (by decide) rfl T.n_isinstance bb_isinstance (w_var (pv 0)) (px_ty rfl T.n_OverflowError bt_OverflowError)) (wa_cons (w_isx1 (y := .ty "KeyError") T.xd rfl (by decide) rfl T.n_isinstance bb_isinstance (w_var (pv 0)) (px_ty rfl T.n_KeyError bt_KeyError)) (wa_cons (w_isx1 (y := .ty "IndexError") T.xd rfl (by decide) rfl T.n_isinstance bb_isinstance (w_var (pv 0)) (px_ty rfl T.n_IndexError bt_IndexError)) wa_nil))))) sc__law_unders.nd rfl (by first | exact .inl rfl | exact .inr rfl) rfl)
    (ws_one (w_ret (w_bin op_addA s_add (w_var (pv 1)) (w_lst (wa_cons (w_isx1 (y := .ty "TypeError") T.xd rfl (by decide) rfl T.n_isinstance bb_isinstance (w_var (pv 0)) (px_ty rfl T.n_TypeError bt_TypeError)) (wa_cons (w_isx1 (y := .ty "ZeroDivisionError") T.xd rfl (by decide) rfl T.n_isinstance bb_isinstance (w_var (pv 0)) (px_ty rfl T.n_ZeroDivisionError bt_ZeroDivisionError)) wa_nil))))))))
theorem sc__law_right : FnScope ["_law_error", "_law_place", "_law_under", "_law_k"] ["_law_error", "_law_place", "_law_under"] (defScope (top 26)) := ⟨rfl, rfl, rfl, by decide +kernel, rfl, by decide +kernel, by decide +kernel⟩
theorem bd__law_right (T : Tx K mg fa fdd) : Binds K (fdd 26) ["_law_error", "_law_place", "_law_under"] [] := T.F__law_right.bindsN fun _ _ _ _ _ _ us hl => match us, hl with | [_, _, _], _ => rfl
theorem ok__law_right (T : Tx K mg fa fdd) : FnOk P w K mg base (L2.CX P w) 2 (fa 26) (fdd 26) ["_law_error", "_law_place", "_law_under"] (spOf K 3 m__law_right_v47) :=
  def_okD (N := ["_law_error", "_law_place", "_law_under", "_law_k"]) (mask := [true, true, true]) (fb := b__law_right_v47) T.F__law_right sc__law_right rfl (by decide) fun cdv A outer s H vs rs E hr hl => match vs, hl with
    | [v0, v1, v2], _ => (ws_cons (w_if (wt_cmpR (op_neD hr.units) s_ne (wr_v (w_call (ok__law_kinds T) (hr.mono (by decide)) rfl T.g__law_kinds T.F__law_kinds.kp (bd__law_kinds T) (takes_of rfl rfl rfl rfl) (wA_v (w_var (pv 0)) wA_nil))) (wr_v (w_lc rfl sc__law_right.nd (wi_rng1 rfl T.n_range w_int) (ow := [("_law_k", 3)]) (blkOk_by (by rfl)) (by decide) (fun PV1 hP1 s1 H1 C1 cl1 fp1 => (wg_name (i := 3) sc__law_right.nd rfl (by first | exact .inl rfl | exact .inr rfl) (hP1 3 (by decide)))) (fun PV1 hP1 s1 H1 C1 cl1 fp1 => pts_nil) (fun PV1 hP1 s1 H1 C1 cl1 fp1 => (w_cmpR (op_eqD hr.units) s_eq (wr_s (pv 3)) (wr_s (pv 1))))))) (ws_one (w_ret w_bl)) ws_nil)
    (ws_one (w_ret (w_cmpR (op_eqD hr.units) s_eq (wr_v (w_call (ok__law_unders T) (hr.mono (by decide)) rfl T.g__law_unders T.F__law_unders.kp (bd__law_unders T) (takes_of rfl rfl rfl rfl) (wA_v (w_var (pv 0)) wA_nil))) (wr_v (w_lc rfl sc__law_right.nd (wi_rng1 rfl T.n_range w_int) (ow := [("_law_k", 3)]) (blkOk_by (by rfl)) (by decide) (fun PV1 hP1 s1 H1 C1 cl1 fp1 => (wg_name (i := 3) sc__law_right.nd rfl (by first | exact .inl rfl | exact .inr rfl) (hP1 3 (by decide)))) (fun PV1 hP1 s1 H1 C1 cl1 fp1 => pts_nil) (fun PV1 hP1 s1 H1 C1 cl1 fp1 => (w_cmpR (op_eqD hr.units) s_eq (wr_s (pv 3)) (wr_s (pv 2))))))))))
theorem sc_law : FnScope ["_law_script", "_law_rng", "_law_n", "_law_due", "_law_steps", "_law_entries", "_law_error", "_law_first", "_law_second", "_law_value", "_law_place", "_law_under"] ["_law_script"] (defScope (top 28)) := ⟨rfl, rfl, rfl, by decide +kernel, rfl, by decide +kernel, by decide +kernel⟩
theorem bd_law (T : Tx K mg fa fdd) : Binds K (fdd 28) ["_law_script"] [] := T.F_law.bindsN fun _ _ _ _ _ _ us hl => match us, hl with | [_], _ => rfl
theorem ok_law (T : Tx K mg fa fdd) : FnOk P w K mg base (L2.CX P w) 13 (fa 28) (fdd 28) ["_law_script"] (spOf K 1 m_law_v53) :=
  def_okD (N := ["_law_script", "_law_rng", "_law_n", "_law_due", "_law_steps", "_law_entries", "_law_error", "_law_first", "_law_second", "_law_value", "_law_place", "_law_under"]) (mask := [true]) (fb := b_law_v53) T.F_law sc_law rfl (by decide) fun cdv A outer s H vs rs E hr hl => match vs, hl with
    | [v0], _ => (ws_cons (w_set (i := 1) (w_call (ok__law_stream T) (hr.mono (by decide)) rfl T.g__law_stream T.F__law_stream.kp (bd__law_stream T) (takes_of rfl rfl rfl rfl) (wA_v (w_frz (w_call (ok__law_fold T) (hr.mono (by decide)) rfl T.g__law_fold T.F__law_fold.kp (bd__law_fold T) (takes_of rfl rfl rfl rfl) (wA_v (w_var (pv 0)) (wA_v w_int wA_nil)))) (wA_v w_int wA_nil))) sc_law.nd rfl (by first | exact .inl rfl | exact .inr rfl) rfl)
    (ws_cons (w_set (i := 2) (w_bin op_addA s_add w_int (w_call (ok__law_draw T) (hr.mono (by decide)) rfl T.g__law_draw T.F__law_draw.kp (bd__law_draw T) (takes_of rfl rfl rfl rfl) (wA_s (pv 1) (wA_v (w_frz (w_bin op_pow s_pow w_int w_int)) wA_nil)))) sc_law.nd rfl (by first | exact .inl rfl | exact .inr rfl) rfl)
    (ws_cons (w_par2 (i := 3) (j := 4) rfl sc_law.nd rfl rfl (by decide) rfl rfl rfl rfl (wa_cons (w_tup (wa_cons w_str (wa_cons (w_bin op_mod s_mod (w_var (pv 2)) w_int) wa_nil))) (wa_cons (w_tup (wa_cons (w_bin op_mod s_mod (w_var (pv 2)) w_int) (wa_cons (w_bin op_sub s_sub (w_bin op_mod s_mod (w_var (pv 2)) w_int) w_int) wa_nil))) wa_nil)) rfl)
    (ws_cons (w_set (i := 5) (w_lst (wa_cons (w_tup (wa_cons (w_mkx (xc_Unreachable T) (hr.mono (by decide)) rfl (w_var (pv 3))) (wa_cons (w_attr (f := "reason") T.xd rfl (by decide) (w_mkx (xc_Unreachable T) (hr.mono (by decide)) rfl (w_var (pv 3)))) (wa_cons (w_attr (f := "reason") T.xd rfl (by decide) (w_mkxk base_VE T.xr_Unreachable T.gx_Unreachable (xi_Unreachable T) (kbx_Unreachable T) (hr.mono (by decide)) rfl (w_var (pv 3)))) (wa_cons (w_var (pv 3)) (wa_cons w_int (wa_cons w_int wa_nil))))))) wa_nil)) sc_law.nd rfl (by first | exact .inl rfl | exact .inr rfl) rfl)
    (ws_cons (w_expr (w_app (pe_bm PySem.F.plainAttrs_list PySem.F.slot_list_append PySem.F.type_list_append mt_append (pv 5) (pa_cons (w_tup (wa_cons (w_mkx (xc_IllegalMove T) (hr.mono (by decide)) rfl (w_var (pv 4))) (wa_cons (w_attr (f := "pair") T.xd rfl (by decide) (w_mkx (xc_IllegalMove T) (hr.mono (by decide)) rfl (w_var (pv 4)))) (wa_cons (w_attr (f := "pair") T.xd rfl (by decide) (w_mkxk base_RE T.xr_IllegalMove T.gx_IllegalMove (xi_IllegalMove T) (kbx_IllegalMove T) (hr.mono (by decide)) rfl (w_var (pv 4)))) (wa_cons (w_var (pv 4)) (wa_cons w_int (wa_cons w_int wa_nil))))))) pa_nil))))
    (ws_cons (w_expr (w_app (pe_bm PySem.F.plainAttrs_list PySem.F.slot_list_append PySem.F.type_list_append mt_append (pv 5) (pa_cons (w_tup (wa_cons (w_mkx (xc_InvalidCommand T) (hr.mono (by decide)) rfl (w_var (pv 2))) (wa_cons (w_attr (f := "index") T.xd rfl (by decide) (w_mkx (xc_InvalidCommand T) (hr.mono (by decide)) rfl (w_var (pv 2)))) (wa_cons (w_attr (f := "index") T.xd rfl (by decide) (w_mkxk base_VE T.xr_InvalidCommand T.gx_InvalidCommand (xi_InvalidCommand T) (kbx_InvalidCommand T) (hr.mono (by decide)) rfl (w_var (pv 2)))) (wa_cons (w_var (pv 2)) (wa_cons w_int (wa_cons w_int wa_nil))))))) pa_nil))))
    (ws_cons (w_expr (w_app (pe_bm PySem.F.plainAttrs_list PySem.F.slot_list_append PySem.F.type_list_append mt_append (pv 5) (pa_cons (w_tup (wa_cons (w_mkx (xc_InvalidWord T) (hr.mono (by decide)) rfl (w_var (pv 2))) (wa_cons (w_attr (f := "index") T.xd rfl (by decide) (w_mkx (xc_InvalidWord T) (hr.mono (by decide)) rfl (w_var (pv 2)))) (wa_cons (w_attr (f := "index") T.xd rfl (by decide) (w_mkxk base_VE T.xr_InvalidWord T.gx_InvalidWord (xi_InvalidWord T) (kbx_InvalidWord T) (hr.mono (by decide)) rfl (w_var (pv 2)))) (wa_cons (w_var (pv 2)) (wa_cons w_int (wa_cons w_int wa_nil))))))) pa_nil))))
    (ws_cons (w_expr (w_app (pe_bm PySem.F.plainAttrs_list PySem.F.slot_list_append PySem.F.type_list_append mt_append (pv 5) (pa_cons (w_tup (wa_cons (w_mkx (xc_InvalidLine T) (hr.mono (by decide)) rfl (w_var (pv 2))) (wa_cons (w_attr (f := "index") T.xd rfl (by decide) (w_mkx (xc_InvalidLine T) (hr.mono (by decide)) rfl (w_var (pv 2)))) (wa_cons (w_attr (f := "index") T.xd rfl (by decide) (w_mkxk base_VE T.xr_InvalidLine T.gx_InvalidLine (xi_InvalidLine T) (kbx_InvalidLine T) (hr.mono (by decide)) rfl (w_var (pv 2)))) (wa_cons (w_var (pv 2)) (wa_cons w_int (wa_cons w_int wa_nil))))))) pa_nil))))
    (ws_cons (w_expr (w_app (pe_bm PySem.F.plainAttrs_list PySem.F.slot_list_append PySem.F.type_list_append mt_append (pv 5) (pa_cons (w_tup (wa_cons (w_mkx (xc_UnknownGroup T) (hr.mono (by decide)) rfl (w_var (pv 2))) (wa_cons (w_attr (f := "group") T.xd rfl (by decide) (w_mkx (xc_UnknownGroup T) (hr.mono (by decide)) rfl (w_var (pv 2)))) (wa_cons (w_attr (f := "group") T.xd rfl (by decide) (w_mkxk base_LE T.xr_UnknownGroup T.gx_UnknownGroup (xi_UnknownGroup T) (kbx_UnknownGroup T) (hr.mono (by decide)) rfl (w_var (pv 2)))) (wa_cons (w_var (pv 2)) (wa_cons w_int (wa_cons w_int wa_nil))))))) pa_nil))))
    (ws_cons (w_expr (w_app (pe_bm PySem.F.plainAttrs_list PySem.F.slot_list_append PySem.F.type_list_append mt_append (pv 5) (pa_cons (w_tup (wa_cons (w_mkx (xc_NoSuchSize T) (hr.mono (by decide)) rfl (w_var (pv 2))) (wa_cons (w_attr (f := "size") T.xd rfl (by decide) (w_mkx (xc_NoSuchSize T) (hr.mono (by decide)) rfl (w_var (pv 2)))) (wa_cons (w_attr (f := "size") T.xd rfl (by decide) (w_mkxk base_LE T.xr_NoSuchSize T.gx_NoSuchSize (xi_NoSuchSize T) (kbx_NoSuchSize T) (hr.mono (by decide)) rfl (w_var (pv 2)))) (wa_cons (w_var (pv 2)) (wa_cons w_int (wa_cons w_int wa_nil))))))) pa_nil))))
    (ws_cons (w_expr (w_app (pe_bm PySem.F.plainAttrs_list PySem.F.slot_list_append PySem.F.type_list_append mt_append (pv 5) (pa_cons (w_tup (wa_cons (w_mkx (xc_BadIndex T) (hr.mono (by decide)) rfl (w_var (pv 2))) (wa_cons (w_attr (f := "index") T.xd rfl (by decide) (w_mkx (xc_BadIndex T) (hr.mono (by decide)) rfl (w_var (pv 2)))) (wa_cons (w_attr (f := "index") T.xd rfl (by decide) (w_mkxk base_LE T.xr_BadIndex T.gx_BadIndex (xi_BadIndex T) (kbx_BadIndex T) (hr.mono (by decide)) rfl (w_var (pv 2)))) (wa_cons (w_var (pv 2)) (wa_cons w_int (wa_cons w_int wa_nil))))))) pa_nil))))
    (ws_cons (w_expr (w_app (pe_bm PySem.F.plainAttrs_list PySem.F.slot_list_append PySem.F.type_list_append mt_append (pv 5) (pa_cons (w_tup (wa_cons (w_mkx (xc_NoSuchDepth T) (hr.mono (by decide)) rfl (w_var (pv 2))) (wa_cons (w_attr (f := "depth") T.xd rfl (by decide) (w_mkx (xc_NoSuchDepth T) (hr.mono (by decide)) rfl (w_var (pv 2)))) (wa_cons (w_attr (f := "depth") T.xd rfl (by decide) (w_mkxk base_LE T.xr_NoSuchDepth T.gx_NoSuchDepth (xi_NoSuchDepth T) (kbx_NoSuchDepth T) (hr.mono (by decide)) rfl (w_var (pv 2)))) (wa_cons (w_var (pv 2)) (wa_cons w_int (wa_cons w_int wa_nil))))))) pa_nil))))
    (ws_cons (w_expr (w_app (pe_bm PySem.F.plainAttrs_list PySem.F.slot_list_append PySem.F.type_list_append mt_append (pv 5) (pa_cons (w_tup (wa_cons (w_mkx (xc_NotEnough T) (hr.mono (by decide)) rfl (w_var (pv 2))) (wa_cons (w_attr (f := "count") T.xd rfl (by decide) (w_mkx (xc_NotEnough T) (hr.mono (by decide)) rfl (w_var (pv 2)))) (wa_cons (w_attr (f := "count") T.xd rfl (by decide) (w_mkxk base_RE T.xr_NotEnough T.gx_NotEnough (xi_NotEnough T) (kbx_NotEnough T) (hr.mono (by decide)) rfl (w_var (pv 2)))) (wa_cons (w_var (pv 2)) (wa_cons w_int (wa_cons w_int wa_nil))))))) pa_nil))))
    (ws_cons (w_expr (w_app (pe_bm PySem.F.plainAttrs_list PySem.F.slot_list_append PySem.F.type_list_append mt_append (pv 5) (pa_cons (w_tup (wa_cons (w_mkx (xc_TooLong T) (hr.mono (by decide)) rfl (w_var (pv 2))) (wa_cons (w_attr (f := "size") T.xd rfl (by decide) (w_mkx (xc_TooLong T) (hr.mono (by decide)) rfl (w_var (pv 2)))) (wa_cons (w_attr (f := "size") T.xd rfl (by decide) (w_mkxk base_OE T.xr_TooLong T.gx_TooLong (xi_TooLong T) (kbx_TooLong T) (hr.mono (by decide)) rfl (w_var (pv 2)))) (wa_cons (w_var (pv 2)) (wa_cons w_int (wa_cons w_int wa_nil))))))) pa_nil))))
    (ws_cons (w_expr (w_app (pe_bm PySem.F.plainAttrs_list PySem.F.slot_list_append PySem.F.type_list_append mt_append (pv 5) (pa_cons (w_tup (wa_cons (w_mkx (xc_TooMany T) (hr.mono (by decide)) rfl (w_var (pv 2))) (wa_cons (w_attr (f := "size") T.xd rfl (by decide) (w_mkx (xc_TooMany T) (hr.mono (by decide)) rfl (w_var (pv 2)))) (wa_cons (w_attr (f := "size") T.xd rfl (by decide) (w_mkxk base_OE T.xr_TooMany T.gx_TooMany (xi_TooMany T) (kbx_TooMany T) (hr.mono (by decide)) rfl (w_var (pv 2)))) (wa_cons (w_var (pv 2)) (wa_cons w_int (wa_cons w_int wa_nil))))))) pa_nil))))
    (ws_cons (w_expr (w_app (pe_bm PySem.F.plainAttrs_list PySem.F.slot_list_append PySem.F.type_list_append mt_append (pv 5) (pa_cons (w_tup (wa_cons (w_mkx (xc_TooManyGroups T) (hr.mono (by decide)) rfl (w_var (pv 2))) (wa_cons (w_attr (f := "count") T.xd rfl (by decide) (w_mkx (xc_TooManyGroups T) (hr.mono (by decide)) rfl (w_var (pv 2)))) (wa_cons (w_attr (f := "count") T.xd rfl (by decide) (w_mkxk base_OE T.xr_TooManyGroups T.gx_TooManyGroups (xi_TooManyGroups T) (kbx_TooManyGroups T) (hr.mono (by decide)) rfl (w_var (pv 2)))) (wa_cons (w_var (pv 2)) (wa_cons w_int (wa_cons w_int wa_nil))))))) pa_nil))))
    (ws_cons (w_for (passes_of rfl) rfl (wi_seq rfl (w_var (pv 5))) (wg_tup rfl rfl (wgs_cons (wg_name (i := 6) sc_law.nd rfl (by first | exact .inl rfl | exact .inr rfl) rfl) (wgs_cons (wg_name (i := 7) sc_law.nd rfl (by first | exact .inl rfl | exact .inr rfl) rfl) (wgs_cons (wg_name (i := 8) sc_law.nd rfl (by first | exact .inl rfl | exact .inr rfl) rfl) (wgs_cons (wg_name (i := 9) sc_law.nd rfl (by first | exact .inl rfl | exact .inr rfl) rfl) (wgs_cons (wg_name (i := 10) sc_law.nd rfl (by first | exact .inl rfl | exact .inr rfl) rfl) (wgs_cons (wg_name (i := 11) sc_law.nd rfl (by first | exact .inl rfl | exact .inr rfl) rfl) wgs_nil)))))))
    (ws_one (w_if (wt_w (ww_or (wt_cmpR (op_neD hr.units) s_ne (wr_v (w_lst (wa_cons (w_var (pv 7)) (wa_cons (w_var (pv 8)) wa_nil)))) (wr_v (w_lst (wa_cons (w_var (pv 9)) (wa_cons (w_var (pv 9)) wa_nil))))) (ww_or1 (wt_not (wt_val (w_call (ok__law_right T) (hr.mono (by decide)) rfl T.g__law_right T.F__law_right.kp (bd__law_right T) (takes_of rfl rfl rfl rfl) (wA_v (w_var (pv 6)) (wA_v (w_var (pv 10)) (wA_v (w_var (pv 11)) wA_nil))))))))) (ws_one (w_ret w_bl)) ws_nil)))
    (ws_cons (w_if (wt_not (wt_val (w_callK0 (n := 0) (dd := []) (ok__law_limits_right T) (hr.mono (by decide)) (by rfl) T.g__law_limits_right T.F__law_limits_right.kp (kb__law_limits_right_0_ T) ⟨by decide, rfl, by decide⟩ .nil (by rfl) (fun _ _ j => j) (takes_of rfl rfl rfl rfl) wk_nil))) (ws_one (w_ret w_bl)) ws_nil)
    (ws_one (w_ret (w_and (w_call (ok__law_right T) (hr.mono (by decide)) rfl T.g__law_right T.F__law_right.kp (bd__law_right T) (takes_of rfl rfl rfl rfl) (wA_v (w_frz (w_mkx0 base_VE T.xr_InvalidState T.gx_InvalidState (xi_InvalidState T) (bdx_InvalidState T) (hr.mono (by decide)) rfl)) (wA_v w_int (wA_v w_int wA_nil)))) (w_one (w_call (ok__law_right T) (hr.mono (by decide)) rfl T.g__law_right T.F__law_right.kp (bd__law_right T) (takes_of rfl rfl rfl rfl) (wA_v (w_frz (w_mkx0 base_RE T.xr_LastPeople T.gx_LastPeople (xi_LastPeople T) (bdx_LastPeople T) (hr.mono (by decide)) rfl)) (wA_v w_int (wA_v w_int wA_nil))))))))))))))))))))))))))
end Wk56
namespace WC
open WF PySem L2
abbrev rngE (a b c : Int) : D := .lst true [.int a, .int b, .int c]
theorem pow_split {n : Nat} {s : Int} (h : s ≤ 10 ^ (7 * (n + 1))) : (s - 1) / 10000000 + 1 ≤ 10 ^ (7 * n) := by
  have e : (10 : Int) ^ (7 * (n + 1)) = 10 ^ (7 * n) * 10000000 := by rw [Nat.mul_add, Int.pow_add]; rfl
  rw [e] at h
  generalize (10 : Int) ^ (7 * n) = p at *
  omega
theorem pow_ge {n : Nat} (h : 1 ≤ n) : (10000000 : Int) ≤ 10 ^ (7 * n) := by
  obtain ⟨m, rfl⟩ : ∃ m, n = m + 1 := ⟨n - 1, by omega⟩
  have e : (10 : Int) ^ (7 * (m + 1)) = 10 ^ (7 * m) * 10000000 := by rw [Nat.mul_add, Int.pow_add]; rfl
  have p : (0 : Int) < 10 ^ (7 * m) := Int.pow_pos (by decide)
  omega
theorem draw_n {Q : D → List D → Prop} : ∀ (n : Nat) {span a b c : Int}, 0 ≤ a → 0 ≤ b → b < 2 ^ 31 → 0 ≤ c → c + 2 ^ n ≤ 2 ^ 40 → 1 ≤ span → span ≤ 10 ^ (7 * n) → span < 2 ^ 64 → 1 ≤ n →
    (∀ v a' c', 0 ≤ v → v < span → 0 ≤ a' → c ≤ c' → c' ≤ c + 2 ^ n → Q (.int v) [rngE a' b c', .int span]) → wF (m__law_draw n) [rngE a b c, .int span] Q
  | 0, span, a, b, c, ha, hb, hb2, hc, hcn, h1, h2, h3, hn, q => by omega
  | n + 1, span, a, b, c, ha, hb, hb2, hc, hcn, h1, h2, h3, hn, q => by
    have e2 : (2 : Int) ^ (n + 1) = 2 * 2 ^ n := by rw [Int.pow_succ]; omega
    have p2 : (0 : Int) < 2 ^ n := Int.pow_pos (by decide)
    rw [m__law_draw, wF_def]
    simp [b__law_draw]
    split
    · exact ⟨⟨by omega, by omega⟩, q _ _ _ (Int.emod_nonneg _ (by omega)) (Int.emod_lt_of_pos _ (by omega)) (Int.ediv_nonneg ha (by omega)) (by omega) (by omega)⟩
    · split
      · have hn1 : 1 ≤ n := by
          rcases Nat.eq_zero_or_pos n with e | e
          · subst e; simp at h2; omega
          · exact e
        refine draw_n n ha hb hb2 hc (by omega) (by omega) (pow_ge hn1) (by decide) hn1 fun v a' c' v0 v1 a0 c0 c1 => ?_
        simp
        refine draw_n n a0 hb hb2 (by omega) (by omega) (by omega) (pow_split h2) (by omega) hn1 fun v' a'' c'' v0' v1' a0' c0' c1' => ?_
        simp
        exact ⟨by omega, q _ _ _ (Int.emod_nonneg _ (by omega)) (Int.emod_lt_of_pos _ (by omega)) a0' (by omega) (by omega)⟩
      · exact ⟨by omega, .inl (by omega), .inl (by omega), .inl (by omega), by omega, q _ _ _ (Int.emod_nonneg _ (by omega)) (Int.emod_lt_of_pos _ (by omega)) ha (by omega) (by omega)⟩
structure Rg (k : Nat) (a b c : Int) : Prop where
  a0 : 0 ≤ a
  b0 : 0 ≤ b
  b1 : b < 2 ^ 31
  c0 : 0 ≤ c
  c1 : c ≤ 4096 * k
theorem Rg.mono {k k' : Nat} {a b c : Int} (r : Rg k a b c) (h : k ≤ k') : Rg k' a b c := ⟨r.a0, r.b0, r.b1, r.c0, by have := r.c1; omega⟩
theorem draw_sp {Q : D → List D → Prop} {k : Nat} {span a b c : Int} (r : Rg k a b c) (hk : k ≤ 200000000) (h1 : 1 ≤ span) (h3 : span < 2 ^ 64)
    (q : ∀ v a' c', 0 ≤ v → v < span → Rg (k + 1) a' b c' → Q (.int v) [rngE a' b c', .int span]) : wF (m__law_draw 12) [rngE a b c, .int span] Q := by
  have hc := r.c1
  refine draw_n 12 r.a0 r.b0 r.b1 r.c0 (by omega) h1 (by omega) h3 (by omega) fun v a' c' v0 v1 a0 c0 c1 => q v a' c' v0 v1 ⟨a0, r.b0, r.b1, by have := r.c0; omega, by omega⟩
end WC
namespace WC
open WF PySem L2
theorem atI_mem {α : Type} {xs : List α} {v : Int} (h0 : 0 ≤ v) (h1 : v < xs.length) : ∃ x ∈ xs, atI xs v = some x := by
  obtain ⟨k, rfl⟩ := Int.eq_ofNat_of_zero_le h0
  rw [WF.atI_nat]
  have hk : k < xs.length := by omega
  exact ⟨xs[k], List.getElem_mem hk, List.getElem?_eq_getElem hk⟩
theorem atI_map {α β : Type} {f : α → β} {xs : List α} {v : Int} : atI (xs.map f) v = (atI xs v).map f := by
  unfold atI
  rw [List.length_map]
  cases ixN xs.length v <;> simp
theorem mod_rg {x : Int} : 0 ≤ x % 2147483647 ∧ x % 2147483647 < 2 ^ 31 := ⟨by omega, by omega⟩
theorem stream_sp {Q : D → List D → Prop} {ns : List Int} {o : Bool} {i : Int} (h0 : 0 ≤ i)
    (q : ∀ a b, Rg 0 a b 0 → Q (rngE a b 0) [.lst o (ns.map .int), .int i]) : wF m__law_stream [.lst o (ns.map .int), .int i] Q := by
  have fin : ∀ x : Int, ((if x < 0 then -x else x).natAbs < 18446744073709551616 ∨
      (if 1000000000000000000 ≤ if x < 0 then -x else x then (1 : Int) else 0).natAbs < 18446744073709551616) ∧
    Q
      (D.lst true
        [D.int ((if x < 0 then -x else x) * if 1000000000000000000 ≤ if x < 0 then -x else x then 1 else 0),
          D.int ((x % 2147483629 + 32452843 * i + 61) * 48271 % 2147483647), D.int 0])
      [D.lst o (List.map D.int ns), D.int i] := fun x => by
    refine ⟨.inr ?_, q _ _ ⟨?_, mod_rg.1, mod_rg.2, by omega, by omega⟩⟩
    · split <;> omega
    · refine Int.mul_nonneg ?_ ?_
      · split <;> omega
      · split <;> omega
  rw [m__law_stream, wF_def]
  simp [b__law_stream]
  by_cases h : i < (ns.length : Int)
  · obtain ⟨x, hx, e⟩ := atI_mem h0 h
    cases o
    · simp [h, atI_map, e]
      exact fin x
    · simp [h, atI_map, e]
      exact fin x
  · simp [h]
    exact q _ _ ⟨by omega, mod_rg.1, mod_rg.2, by omega, by omega⟩
def cutG {α : Type} (xs : List α) (lo hi : Option Int) : List α := (xs.drop (HT.sIx xs.length 0 lo)).take (HT.sIx xs.length xs.length hi - HT.sIx xs.length 0 lo)
theorem cutD_map {α : Type} {f : α → D} {xs : List α} {lo hi : Option Int} : cutD (xs.map f) lo hi = (cutG xs lo hi).map f := by
  simp [cutD, cutG, List.map_take, List.map_drop]
theorem enumD_one {xs : List D} : enumD [xs] = some (xs.zipIdx.map fun p => .tup [.int (p.2 : Nat), p.1]) := rfl
theorem fold_sp {Q : D → List D → Prop} {ns : List Int} {m : Int} (h0 : 1 ≤ m) (h1 : m ≤ 60)
    (q : ∀ cs : List Int, cs.length ≤ m → Q (.lst true (cs.map .int)) [.scr ns, .int m]) : wF m__law_fold [.scr ns, .int m] Q := by
  rw [m__law_fold, wF_def]
  simp [b__law_fold, cutD_map, enumD_one]
  have l0 : (cutG ns none (some m)).length = min m.toNat ns.length := by
    simp [cutG, HT.sIx]
    rw [if_neg (by omega)]
    omega
  have l1 : (cutG ns (some m) (some 63)).length ≤ 63 := by
    simp [cutG, HT.sIx]
    omega
  have l2 : cutG ns (some m) (some 63) ≠ [] → m.toNat ≤ ns.length := fun h => by
    have := List.length_pos_iff.mpr h
    simp [cutG, HT.sIx] at this
    rw [if_neg (by omega)] at this
    omega
  refine loop_ind (fun ds S => ∃ (cs : List Int) (x y : D), S = [.scr ns, .int m, .lst true (cs.map .int), x, y] ∧ cs.length ≤ m ∧ (ds ≠ [] → (cs.length : Int) = m) ∧ ∀ d ∈ ds, ∃ (i : Nat), i < 1000 ∧ ∃ (v : Int), d = .tup [.int i, .int v]) ?_ ?_ ?_
  · rintro d ds S ⟨cs, x, y, rfl, c1, c2, c3⟩
    obtain ⟨i, hi, v, rfl⟩ := c3 d List.mem_cons_self
    have cl := c2 (by simp)
    have hm0 : 0 ≤ (i : Int) % m := Int.emod_nonneg _ (by omega)
    have hm1 : (i : Int) % m < cs.length := by rw [cl]; exact Int.emod_lt_of_pos _ (by omega)
    obtain ⟨z, hz, e⟩ := atI_mem hm0 hm1
    obtain ⟨j, hj⟩ : ∃ j, ixN cs.length ((i : Int) % m) = some j := by
      unfold atI at e
      cases h : ixN cs.length ((i : Int) % m) with
      | none => rw [h] at e; cases e
      | some j => exact ⟨j, rfl⟩
    simp [atI_map, e, hj]
    refine ⟨by omega, .inr (by omega), by omega, cs.set j (z + v * (↑i + 2)), ?_, by simpa using c1, fun _ => by simpa using cl, fun d hd => c3 d (List.mem_cons_of_mem _ hd)⟩
    simp [List.map_set]
  · rintro S ⟨cs, x, y, rfl, c1, c2, c3⟩
    simp
    exact q cs c1
  · refine ⟨_, _, _, rfl, by rw [l0]; omega, fun h => ?_, fun d hd => ?_⟩
    · rw [l0]
      have := l2 (fun z => h (by simp [z]))
      omega
    · simp only [List.mem_map, Prod.exists] at hd
      obtain ⟨x, i, hx, rfl⟩ := hd
      have h2 := List.mem_zipIdx hx
      simp at h2
      refine ⟨i, by omega, ?_⟩
      obtain ⟨h3, h4⟩ := h2
      rw [h4]
      exact ⟨_, rfl⟩
end WC
namespace WC
open WF PySem
open L2 (atI ixN)
@[simp] theorem frzs_intf {α : Type} {l : List α} {f : α → Int} : D.frzs (l.map fun x => .int (f x)) = l.map fun x => .int (f x) := frzs_id fun _ => rfl
def Rise (m : Int) : Int → List (Int × Int) → Prop
  | _, [] => True
  | w, p :: r => w < p.1 ∧ 1 ≤ p.2 ∧ p.2 ≤ m ∧ Rise m p.1 r
theorem comp_map0 {α : Type} {own : List Nat} {g : GM} {fe : EM} {S : S0} {Q : List D → S0 → Prop} {enc φ : α → D} (xs : List α) {acc : List D} (h : ∀ x ∈ xs, wG g (enc x) S fun S1 => wE fe S1 fun y S2 => y = φ x ∧ wipeS S2 own = S) (hl : acc.length + xs.length ≤ 1000000)
    (q : Q (acc ++ xs.map φ) S) : wC own g none fe (xs.map enc) S acc Q := by
  refine comp_ind0 (fun ds acc' T => T = S ∧ ∃ ys zs, xs = ys ++ zs ∧ ds = zs.map enc ∧ acc' = acc ++ ys.map φ) ?_ ?_ ⟨rfl, [], xs, rfl, rfl, by simp⟩
  · rintro d ds acc' T ⟨rfl, ys, zs, rfl, e, rfl⟩
    cases zs with
    | nil => simp at e
    | cons z zs =>
      simp only [List.map_cons, List.cons.injEq] at e
      obtain ⟨rfl, rfl⟩ := e
      refine (h z (by simp)).mono fun S1 q => q.mono fun y S2 ⟨e1, e2⟩ => ⟨?_, e2, ys ++ [z], zs, by simp, rfl, by simp [e1]⟩
      simp at hl ⊢
      omega
  · rintro acc' T ⟨rfl, ys, zs, rfl, e, rfl⟩
    cases zs with
    | nil => simpa using q
    | cons z zs => simp at e
end WC
namespace WC
open WF PySem
open L2 (atI ixN)
def StOk : List (Int × Int) → List Int → Prop
  | [], [] => True
  | p :: r, x :: xs => 0 ≤ x ∧ x ≤ p.2 ∧ StOk r xs
  | _, _ => False
theorem StOk.len : ∀ {gs : List (Int × Int)} {xs : List Int}, StOk gs xs → xs.length = gs.length
  | [], [], _ => rfl
  | p :: r, x :: xs, h => by simp [StOk.len h.2.2]
end WC
namespace WC
open WF PySem
open L2 (atI ixN)
@[simp] theorem isi_list {o : Bool} {xs : List D} : isiD [.lst o xs, .vl (.ty "list")] = some (.bl true) := rfl
@[simp] theorem isi_listT {xs : List D} : isiD [.tup xs, .vl (.ty "list")] = some (.bl false) := rfl
@[simp] theorem isi_tup {xs : List D} : isiD [.tup xs, .vl (.ty "tuple")] = some (.bl true) := rfl
@[simp] theorem isi_tupL {o : Bool} {xs : List D} : isiD [.lst o xs, .vl (.ty "tuple")] = some (.bl false) := rfl
@[simp] theorem isi_seqL {o : Bool} {xs : List D} : isiD [.lst o xs, .tup [.vl (.ty "list"), .vl (.ty "tuple")]] = some (.bl true) := rfl
@[simp] theorem isi_seqT {xs : List D} : isiD [.tup xs, .tup [.vl (.ty "list"), .vl (.ty "tuple")]] = some (.bl true) := rfl
@[simp] theorem isi_seqI {a : Int} : isiD [.int a, .tup [.vl (.ty "list"), .vl (.ty "tuple")]] = some (.bl false) := rfl
@[simp] theorem isi_seqB {a : Bool} : isiD [.bl a, .tup [.vl (.ty "list"), .vl (.ty "tuple")]] = some (.bl false) := rfl
@[simp] theorem isi_seqN : isiD [.non, .tup [.vl (.ty "list"), .vl (.ty "tuple")]] = some (.bl false) := rfl
@[simp] theorem isi_seqS {x : Str} : isiD [.str x, .tup [.vl (.ty "list"), .vl (.ty "tuple")]] = some (.bl false) := rfl
@[simp] theorem isi_strI {a : Int} : isiD [.int a, .vl (.ty "str")] = some (.bl false) := rfl
@[simp] theorem isi_strB {a : Bool} : isiD [.bl a, .vl (.ty "str")] = some (.bl false) := rfl
@[simp] theorem isi_strN : isiD [.non, .vl (.ty "str")] = some (.bl false) := rfl
@[simp] theorem isi_strS {x : Str} : isiD [.str x, .vl (.ty "str")] = some (.bl true) := rfl
@[simp] theorem isi_intI {a : Int} : isiD [.int a, .vl (.ty "int")] = some (.bl true) := rfl
@[simp] theorem isi_intB {a : Bool} : isiD [.bl a, .vl (.ty "int")] = some (.bl true) := rfl
@[simp] theorem isi_boolI {a : Int} : isiD [.int a, .vl (.ty "bool")] = some (.bl false) := rfl
@[simp] theorem isi_boolB {a : Bool} : isiD [.bl a, .vl (.ty "bool")] = some (.bl true) := rfl
@[simp] theorem isD_int {a : Int} {n : Bool} : isD n (.int a) .non = some (.bl n) := by cases n <;> rfl
@[simp] theorem isD_bl {a : Bool} {n : Bool} : isD n (.bl a) .non = some (.bl n) := by cases n <;> rfl
@[simp] theorem isD_tup {a : List D} {n : Bool} : isD n (.tup a) .non = some (.bl n) := by cases n <;> rfl
@[simp] theorem isD_non {n : Bool} : isD n .non .non = some (.bl !n) := by cases n <;> rfl
@[simp] theorem isD_str {x : Str} {n : Bool} : isD n (.str x) .non = some (.bl n) := by cases n <;> rfl
@[simp] theorem eqD_int {a b : Int} {n : Bool} : eqD n (.int a) (.int b) = some (.bl (if n = true then !decide (a = b) else decide (a = b))) := by
  have e : ∀ x : Int, SeqAt.shaped (.int x) = true := fun x => rfl
  cases n <;> simp [eqD, D.py, e, PyData.eqv] <;> exact decide_eq_decide.mpr Iff.rfl
@[simp] theorem eqD_bl {a b : Bool} {n : Bool} : eqD n (.bl a) (.bl b) = some (.bl (if n = true then a != b else a == b)) := by
  cases n <;> cases a <;> cases b <;> rfl
@[simp] theorem boolsD_mapf {α : Type} {f : α → Bool} {l : List α} : boolsD (l.map fun x => D.bl (f x)) = some (l.map f) := by
  have := boolsD_map' (l := l.map f)
  rwa [List.map_map] at this
def prL (p : Int × Int) : D := .lst true [.int p.1, .int p.2]
abbrev wellL (lim : Int) (gs : List (Int × Int)) : D := .lst true [.int lim, .lst true (gs.map prL)]
end WC
namespace WC
open WF PySem
open L2 (atI ixN)
theorem wF_iff {m : Fn} {as as' : List D} {r : D} (h : ∀ Q : D → List D → Prop, Q r as' → wF m as Q) {Q : D → List D → Prop} : wF m as Q ↔ Q r as' := by
  refine ⟨fun w => ?_, h Q⟩
  have h1 := h (fun d S => d = r ∧ S = as') ⟨rfl, rfl⟩
  unfold wF at w h1
  have w : WF0.oE (m as) Q := w
  have h1 : WF0.oE (m as) (fun d S => d = r ∧ S = as') := h1
  obtain ⟨d, S, e, e1, e2⟩ := WF0.oE_ex.mp h1
  rw [e] at w
  rw [← e1, ← e2]
  exact w
theorem wF_eq {m : Fn} {as as' : List D} {r : D} (h : ∀ Q : D → List D → Prop, wF m as Q ↔ Q r as') : m as = some (.ok r, as') := by
  have h1 := (h (fun d S => d = r ∧ S = as')).mpr ⟨rfl, rfl⟩
  unfold wF at h1
  have h1 : WF0.oE (m as) (fun d S => d = r ∧ S = as') := h1
  obtain ⟨d, S, e, e1, e2⟩ := WF0.oE_ex.mp h1
  rw [e, e1, e2]
@[simp] theorem frzs_rep {n : Nat} {d : D} : D.frzs (List.replicate n d) = List.replicate n d.frz := by simp [D.frzs_map]
theorem loop_pre {α : Type} {g : GM} {body : SM} {Q : Fl → S0 → Prop} (enc : α → D) (st : List α → S0 → Prop) (xs : List α) (step : ∀ pre x post, xs = pre ++ x :: post → ∀ S, st pre S → wG g (enc x) S fun S => wS body S fun fl S => match fl with
      | .nx => st (pre ++ [x]) S
      | .ct => st (pre ++ [x]) S
      | .bk => Q .nx S
      | fl => Q fl S) {S : S0} (h0 : st [] S) (fin : ∀ S, st xs S → Q .nx S) : wS (loopM g body (xs.map enc)) S Q := by
  refine loop_ind (fun ds S => ∃ pre post, xs = pre ++ post ∧ ds = post.map enc ∧ st pre S) ?_ ?_ ⟨[], xs, rfl, rfl, h0⟩
  · rintro d ds S ⟨pre, post, e, e1, h⟩
    cases post with
    | nil => cases e1
    | cons x post =>
      cases e1
      refine wG.mono (step pre x post e S h) fun S q => wS.mono q fun fl S q => ?_
      cases fl with
      | nx => exact ⟨pre ++ [x], post, by simp [e], rfl, q⟩
      | ct => exact ⟨pre ++ [x], post, by simp [e], rfl, q⟩
      | bk => exact q
      | rt d => exact q
      | ex x => exact q
  · rintro S ⟨pre, post, e, e1, h⟩
    cases post with
    | nil => rw [List.append_nil] at e; exact fin S (e ▸ h)
    | cons x post => cases e1
def sq : Bool → List D → D
  | true, xs => .tup xs
  | false, xs => .lst false xs
section
variable {t : Bool} {xs ys : List D} {a : Int} {d : D}
@[simp] theorem isUn_sq : isUn (sq t xs) = false := by cases t <;> rfl
@[simp] theorem frz_sq : D.frz (sq t xs) = sq t (D.frzs xs) := by cases t <;> rfl
@[simp] theorem lenD_sq : lenD [sq t xs] = some (.int xs.length) := by cases t <;> rfl
@[simp] theorem ixD_sq : ixD (sq t xs) (.int a) = atI (D.frzs xs) a := by cases t <;> rfl
theorem ixO_sq (h : D.frzs xs = xs) : ixO (sq t xs) (.int a) = (atI xs a).map fun x => (x, sq t xs) := by
  cases t
  · rfl
  · show (atI (D.frzs xs) a).map (fun x => (x, D.tup (D.frzs xs))) = _
    rw [h]; rfl
@[simp] theorem tupleD_sq : tupleD [sq t xs] = some (.tup xs) := by cases t <;> rfl
@[simp] theorem listD_sq : listD [sq t xs] = some (.lst true xs) := by cases t <;> rfl
@[simp] theorem itemsD_sq : itemsD (sq t xs) = some (D.frzs xs) := by cases t <;> rfl
@[simp] theorem seqV_sq : seqV (sq t xs) = some (D.frzs xs, sq t (D.frzs xs)) := by cases t <;> rfl
@[simp] theorem wG_sq {n : Nat} {gs : GMs} {S : S0} {QG : S0 → Prop} : wG (gTupM n gs) (sq t xs) S QG ↔ xs.length = n ∧ wGs gs xs S QG := by cases t <;> simp [sq]
end
abbrev stS (t : Bool) (xs : List Int) : D := sq t (xs.map .int)
@[simp] theorem ixO_stS {t : Bool} {xs : List Int} {a : Int} : ixO (stS t xs) (.int a) = (atI xs a).map fun x => (.int x, stS t xs) := by
  rw [ixO_sq (by simp), atI_map, Option.map_map]; rfl
def gpD (t : Bool) (p : Int × Int) : D := sq t [.int p.1, .int p.2]
def wlD (t : Bool) (lim : Int) (gs : List (Int × Int)) : D := sq t [.int lim, sq t (gs.map (gpD t))]
section
variable {t : Bool} {lim : Int} {gs : List (Int × Int)} {p : Int × Int} {S : S0} {QG : S0 → Prop}
@[simp] theorem frz_gpD : D.frz (gpD t p) = gpD t p := by cases t <;> rfl
@[simp] theorem isUn_gpD : isUn (gpD t p) = false := by cases t <;> rfl
@[simp] theorem frzs_gpD : D.frzs (gs.map (gpD t)) = gs.map (gpD t) := frzs_id fun _ => frz_gpD
@[simp] theorem ixD_gpD0 : ixD (gpD t p) (.int 0) = some (.int p.1) := by cases t <;> rfl
@[simp] theorem ixD_gpD1 : ixD (gpD t p) (.int 1) = some (.int p.2) := by cases t <;> rfl
@[simp] theorem ixO_gpD0 : ixO (gpD t p) (.int 0) = some (.int p.1, gpD t p) := by cases t <;> rfl
@[simp] theorem ixO_gpD1 : ixO (gpD t p) (.int 1) = some (.int p.2, gpD t p) := by cases t <;> rfl
@[simp] theorem wG_gpD {n : Nat} {gs : GMs} : wG (gTupM n gs) (gpD t p) S QG ↔ 2 = n ∧ wGs gs [.int p.1, .int p.2] S QG := by simp [gpD]
@[simp] theorem wG_prD {n : Nat} {gs : GMs} : wG (gTupM n gs) (prD p) S QG ↔ 2 = n ∧ wGs gs [.int p.1, .int p.2] S QG := by simp [prD]
@[simp] theorem frz_wlD : D.frz (wlD t lim gs) = wlD t lim gs := by simp [wlD]
@[simp] theorem isUn_wlD : isUn (wlD t lim gs) = false := by simp [wlD]
@[simp] theorem ixO_wlD0 : ixO (wlD t lim gs) (.int 0) = some (.int lim, wlD t lim gs) := by rw [wlD, ixO_sq (by simp)]; simp
@[simp] theorem ixO_wlD1 : ixO (wlD t lim gs) (.int 1) = some (sq t (gs.map (gpD t)), wlD t lim gs) := by rw [wlD, ixO_sq (by simp)]; simp
@[simp] theorem ixD_wlD0 : ixD (wlD t lim gs) (.int 0) = some (.int lim) := by rw [wlD]; simp
@[simp] theorem ixD_wlD1 : ixD (wlD t lim gs) (.int 1) = some (sq t (gs.map (gpD t))) := by rw [wlD]; simp
end
def wlO (lim : Int) (gs : List (Int × Int)) : D := wellL lim gs
@[simp] theorem frz_wlO {lim : Int} {gs : List (Int × Int)} : D.frz (wlO lim gs) = wlD false lim gs := by
  have : D.frzs (gs.map prL) = gs.map (gpD false) := by rw [D.frzs_map, List.map_map]; rfl
  simp [wlO, this, wlD, sq]
@[simp] theorem isUn_wlO {lim : Int} {gs : List (Int × Int)} : isUn (wlO lim gs) = false := rfl
@[simp] theorem ixD_prD0 {p : Int × Int} : ixD (prD p) (.int 0) = some (.int p.1) := rfl
@[simp] theorem ixD_prD1 {p : Int × Int} : ixD (prD p) (.int 1) = some (.int p.2) := rfl
@[simp] theorem ixO_prD0 {p : Int × Int} : ixO (prD p) (.int 0) = some (.int p.1, prD p) := rfl
@[simp] theorem ixO_prD1 {p : Int × Int} : ixO (prD p) (.int 1) = some (.int p.2, prD p) := rfl
@[simp] theorem imm_prD {p : Int × Int} : D.imm (prD p) = true := rfl
def grp (gs : List (Int × Int)) (k : Int) : Int × Int := gs.getD k.toNat (0, 0)
def cn (xs : List Int) (k : Int) : Int := xs.getD k.toNat 0
end WC
namespace WC
open WF PySem
open L2 (atI ixN)
end WC
namespace WC
open WF PySem
open L2 (atI ixN)
end WC
namespace WC
open WF PySem
open L2 (atI ixN)
inductive Pl : Nat → D → Prop
  | non {n} : Pl (n + 1) .non
  | bl {n b} : Pl (n + 1) (.bl b)
  | int {n a} : Pl (n + 1) (.int a)
  | str {n x} : PyData.strOk x = true → Pl (n + 1) (.str x)
  | tup {n xs} : (∀ x ∈ xs, Pl n x) → xs.length ≤ 1000000 → Pl (n + 1) (.tup xs)
  | lst {n o xs} : (∀ x ∈ xs, Pl n x) → xs.length ≤ 1000000 → Pl (n + 1) (.lst o xs)
section
variable {n : Nat} {xs : List D} {o : Bool} {t : Bool}
@[simp] theorem pl_non : Pl (n + 1) .non := .non
@[simp] theorem pl_bl {b : Bool} : Pl (n + 1) (.bl b) := .bl
@[simp] theorem pl_int {a : Int} : Pl (n + 1) (.int a) := .int
@[simp] theorem pl_tup : Pl (n + 1) (.tup xs) ↔ (∀ x ∈ xs, Pl n x) ∧ xs.length ≤ 1000000 := ⟨fun h => by cases h with | tup a b => exact ⟨a, b⟩, fun h => .tup h.1 h.2⟩
@[simp] theorem pl_lst : Pl (n + 1) (.lst o xs) ↔ (∀ x ∈ xs, Pl n x) ∧ xs.length ≤ 1000000 := ⟨fun h => by cases h with | lst a b => exact ⟨a, b⟩, fun h => .lst h.1 h.2⟩
@[simp] theorem pl_sq : Pl (n + 1) (sq t xs) ↔ (∀ x ∈ xs, Pl n x) ∧ xs.length ≤ 1000000 := by cases t <;> simp [sq]
@[simp] theorem pl_prD {p : Int × Int} : Pl (n + 2) (prD p) := by simp [prD]
end
mutual
theorem frz_frz : ∀ d : D, d.frz.frz = d.frz
  | .un => rfl | .non => rfl | .bl _ => rfl | .int _ => rfl | .str _ => rfl | .vl _ => rfl | .scr _ => rfl | .hld _ => rfl | .con _ => rfl | .tab _ => rfl
  | .exn c ks xs => by simp [D.frz, frzs_frzs xs]
  | .obj o c ks xs => by simp [D.frz, frzs_frzs xs]
  | .tup xs => by simp [frzs_frzs xs]
  | .lst o xs => by simp [frzs_frzs xs]
  | .dic o ks xs => by simp [D.frz, frzs_frzs xs]
  | .dtk o ks xs => by simp [D.frz, frzs_frzs xs]
theorem frzs_frzs : ∀ xs : List D, D.frzs (D.frzs xs) = D.frzs xs
  | [] => rfl
  | x :: xs => by simp [frz_frz x, frzs_frzs xs]
end
theorem Pl.frz {d : D} : ∀ {n : Nat}, Pl n d → Pl n d.frz
  | _, .non => .non
  | _, .bl => .bl
  | _, .int => .int
  | _, .str h => .str h
  | _, .tup h hl => by
    rw [frz_tup, pl_tup, D.frzs_map]
    exact ⟨fun x hx => by obtain ⟨y, hy, rfl⟩ := List.mem_map.mp hx; exact (h y hy).frz, by simpa using hl⟩
  | _, .lst h hl => by
    rw [frz_lst, pl_lst, D.frzs_map]
    exact ⟨fun x hx => by obtain ⟨y, hy, rfl⟩ := List.mem_map.mp hx; exact (h y hy).frz, by simpa using hl⟩
theorem Pl.un {n : Nat} {d : D} (h : Pl n d) : isUn d = false := by cases h <;> rfl
def lt' : D → D
  | .lst o xs => .lst o (D.frzs xs)
  | .tup xs => .tup (D.frzs xs)
  | d => d
section
variable {xs : List D} {o : Bool} {d : D}
@[simp] theorem lt_lst : lt' (.lst o xs) = .lst o (D.frzs xs) := rfl
@[simp] theorem lt_tup : lt' (.tup xs) = .tup (D.frzs xs) := rfl
@[simp] theorem lt_int {a : Int} : lt' (.int a) = .int a := rfl
@[simp] theorem lt_bl {a : Bool} : lt' (.bl a) = .bl a := rfl
@[simp] theorem lt_non : lt' .non = .non := rfl
@[simp] theorem lt_str {a : Str} : lt' (.str a) = .str a := rfl
@[simp] theorem lt_sq {t : Bool} : lt' (sq t xs) = sq t (D.frzs xs) := by cases t <;> rfl
end
@[simp] theorem eqD_non {n : Bool} : eqD n .non .non = some (.bl !n) := by cases n <;> rfl
theorem eqvAll_refl : ∀ {xs : List PyData}, (∀ x ∈ xs, PyData.eqv x x = true) → PyData.eqvAll xs xs = true
  | [], _ => rfl
  | x :: xs, h => by simp [PyData.eqvAll, h x, eqvAll_refl (xs := xs) fun y hy => h y (List.mem_cons_of_mem _ hy)]
theorem depthAll_le {n : Nat} : ∀ {xs : List PyData}, (∀ x ∈ xs, PyData.depth x ≤ n) → PyData.depthAll xs ≤ n
  | [], _ => by simp [PyData.depthAll]
  | x :: xs, h => by
    have h1 := h x List.mem_cons_self
    have h2 := depthAll_le (xs := xs) fun y hy => h y (List.mem_cons_of_mem _ hy)
    simp [PyData.depthAll]
    omega
theorem canLayAll_of : ∀ {xs : List PyData}, (∀ x ∈ xs, PyData.canLay0 x = true) → PyData.canLayAll0 xs = true
  | [], _ => rfl
  | x :: xs, h => by simp [PyData.canLayAll0, h x, canLayAll_of (xs := xs) fun y hy => h y (List.mem_cons_of_mem _ hy)]
theorem pys_of {P : PyData → Prop} : ∀ {xs : List D}, (∀ x ∈ xs, ∃ p, x.py = some p ∧ P p) → ∃ ps, D.pys xs = some ps ∧ ∀ p ∈ ps, P p
  | [], _ => ⟨[], rfl, fun _ h => nomatch h⟩
  | x :: xs, h => by
    obtain ⟨p, e1, h1⟩ := h x List.mem_cons_self
    obtain ⟨ps, e2, h2⟩ := pys_of (xs := xs) fun y hy => h y (List.mem_cons_of_mem _ hy)
    refine ⟨p :: ps, by simp [D.pys, e1, e2], fun q hq => ?_⟩
    rcases List.mem_cons.mp hq with rfl | hq
    · exact h1
    · exact h2 q hq
theorem Pl.py {d : D} : ∀ {n : Nat}, Pl n d → ∃ p, d.py = some p ∧ PyData.canLay0 p = true ∧ PyData.depth p ≤ n ∧ PyData.eqv p p = true
  | _, .non => ⟨_, rfl, rfl, by simp [PyData.depth], rfl⟩
  | _, .bl => ⟨_, rfl, rfl, by simp [PyData.depth], by simp [PyData.eqv]⟩
  | _, .int => ⟨_, rfl, rfl, by simp [PyData.depth], by simp [PyData.eqv]⟩
  | _, .str h => ⟨_, rfl, h, by simp [PyData.depth], by simp [PyData.eqv]⟩
  | n + 1, .tup h hl => by
    obtain ⟨ps, e, h1⟩ := pys_of fun x hx => (h x hx).py
    exact ⟨.tuple ps, by simp [D.py, e], canLayAll_of fun x hx => (h1 x hx).1, by have := depthAll_le fun x hx => (h1 x hx).2.1; simp [PyData.depth]; omega, eqvAll_refl fun x hx => (h1 x hx).2.2⟩
  | n + 1, .lst h hl => by
    obtain ⟨ps, e, h1⟩ := pys_of fun x hx => (h x hx).py
    exact ⟨.list ps, by simp [D.py, e], canLayAll_of fun x hx => (h1 x hx).1, by have := depthAll_le fun x hx => (h1 x hx).2.1; simp [PyData.depth]; omega, eqvAll_refl fun x hx => (h1 x hx).2.2⟩
mutual
theorem py_frz : ∀ d : D, d.frz.py = d.py
  | .un => rfl | .non => rfl | .bl _ => rfl | .int _ => rfl | .str _ => rfl | .vl _ => rfl | .scr _ => rfl | .hld _ => rfl | .con _ => rfl | .tab _ => rfl
  | .exn c ks xs => by simp [D.frz, D.py]
  | .obj o c ks xs => by simp [D.frz, D.py]
  | .tup xs => by simp [D.py, pys_frz xs]
  | .lst o xs => by simp [D.py, pys_frz xs]
  | .dic o ks xs => by simp [D.frz, D.py]
  | .dtk o ks xs => by simp [D.frz, D.py]
theorem pys_frz : ∀ xs : List D, D.pys (D.frzs xs) = D.pys xs
  | [] => rfl
  | x :: xs => by simp [D.pys, py_frz x, pys_frz xs]
end
theorem eqD_same {n : Nat} {d d' : D} {neg : Bool} (h : Pl n d) (hn : n ≤ 64) (e : d.frz = d'.frz) : eqD neg d d' = some (.bl !neg) := by
  obtain ⟨p, e1, h1, h2, h3⟩ := h.py
  have e2 : d'.py = some p := by rw [← py_frz, ← e, py_frz, e1]
  unfold eqD
  rw [e1, e2]
  have hd : p.depth ≤ 64 := by omega
  simp [SeqAt.shaped, h1, hd, h3]
end WC
namespace WC
open WF PySem
open L2 (atI ixN)
structure Wl (n : Nat) (m lim : Int) (gs : List (Int × Int)) : Prop where
  lim1 : 1 ≤ lim
  ne : gs ≠ []
  len : gs.length ≤ n
  rise : Rise m 0 gs
theorem StOk.nil : StOk [] [] := trivial
end WC
namespace WC
open WF PySem
open L2 (atI ixN)
structure EqE {α : Type} (n : Nat) (enc : α → D) : Prop where
  ok : ∀ x, ∃ p, (enc x).py = some p ∧ PyData.canLay0 p = true ∧ PyData.depth p ≤ n
  eq : ∀ x y p q, (enc x).py = some p → (enc y).py = some q → (PyData.eqv p q = true ↔ x = y)
theorem pys_map {α : Type} {n : Nat} {enc : α → D} (h : EqE n enc) : ∀ xs : List α, ∃ ps, D.pys (xs.map enc) = some ps ∧ PyData.canLayAll0 ps = true ∧ PyData.depthAll ps ≤ n
  | [] => ⟨[], rfl, rfl, by simp [PyData.depthAll]⟩
  | x :: xs => by
    obtain ⟨p, e1, h1, h2⟩ := h.ok x
    obtain ⟨ps, e2, h3, h4⟩ := pys_map h xs
    exact ⟨p :: ps, by simp [D.pys, e1, e2], by simp [PyData.canLayAll0, h1, h3], by simp [PyData.depthAll]; omega⟩
theorem eqv_map {α : Type} {n : Nat} {enc : α → D} (h : EqE n enc) : ∀ (xs ys : List α) (ps qs : List PyData), D.pys (xs.map enc) = some ps → D.pys (ys.map enc) = some qs → (PyData.eqvAll ps qs = true ↔ xs = ys)
  | [], [], ps, qs, h1, h2 => by cases h1; cases h2; simp [PyData.eqvAll]
  | [], y :: ys, ps, qs, h1, h2 => by
    obtain ⟨b, bs, e3, e4, rfl⟩ := pys_cons h2
    cases h1
    simp [PyData.eqvAll]
  | x :: xs, [], ps, qs, h1, h2 => by
    obtain ⟨b, bs, e3, e4, rfl⟩ := pys_cons h1
    cases h2
    simp [PyData.eqvAll]
  | x :: xs, y :: ys, ps, qs, h1, h2 => by
    obtain ⟨a, as, e1, e2, rfl⟩ := pys_cons h1
    obtain ⟨b, bs, e3, e4, rfl⟩ := pys_cons h2
    simp [PyData.eqvAll, h.eq x y a b e1 e3, eqv_map h xs ys as bs e2 e4]
section
variable {α : Type} {n : Nat} {enc : α → D} {neg o o' t : Bool} {xs ys : List α}
theorem eLst (h : EqE n enc) : EqE (n + 1) (fun xs : List α => .lst o (xs.map enc)) := ⟨fun xs => by
    obtain ⟨ps, e, h1, h2⟩ := pys_map h xs
    exact ⟨.list ps, by simp [D.py, e], h1, by simp [PyData.depth]; omega⟩, fun xs ys p q h1 h2 => by
    simp only [D.py, Option.map_eq_some_iff] at h1 h2
    obtain ⟨ps, h1, rfl⟩ := h1
    obtain ⟨qs, h2, rfl⟩ := h2
    exact eqv_map h xs ys ps qs h1 h2⟩
theorem eqD_enc [DecidableEq α] (h : EqE n enc) (hn : n ≤ 64) {x y : α} {d d' : D} (e1 : d.py = (enc x).py) (e2 : d'.py = (enc y).py) : eqD neg d d' = some (.bl (if neg = true then !decide (x = y) else decide (x = y))) := by
  obtain ⟨p, f1, c1, d1⟩ := h.ok x
  obtain ⟨q, f2, c2, d2⟩ := h.ok y
  have e := h.eq x y p q f1 f2
  unfold eqD
  rw [e1, e2, f1, f2]
  have hp : p.depth ≤ 64 := by omega
  have hq : q.depth ≤ 64 := by omega
  simp only [SeqAt.shaped, c1, c2, hp, hq, decide_true, Bool.and_self, if_true]
  by_cases hxy : x = y
  · rw [e.mpr hxy]; simp [hxy]
  · have : PyData.eqv p q = false := by
      cases hh : PyData.eqv p q with
      | false => rfl
      | true => exact absurd (e.mp hh) hxy
    rw [this]; simp [hxy]
theorem eqD_lst [DecidableEq α] (h : EqE n enc) (hn : n < 64) : eqD neg (.lst o (xs.map enc)) (.lst o' (ys.map enc)) = some (.bl (if neg = true then !decide (xs = ys) else decide (xs = ys))) := eqD_enc (enc := fun xs : List α => .lst true (xs.map enc)) (eLst h) (by omega) rfl rfl
end
def trD (p : Int × Int × Int) : D := .tup [.int p.1, .int p.2.1, .int p.2.2]
@[simp] theorem frz_trD {p : Int × Int × Int} : D.frz (trD p) = trD p := rfl
@[simp] theorem isUn_trD {p : Int × Int × Int} : isUn (trD p) = false := rfl
@[simp] theorem frzs_trD {l : List (Int × Int × Int)} : D.frzs (l.map trD) = l.map trD := frzs_id fun _ => rfl
@[simp] theorem wG_trD {n : Nat} {gs : GMs} {p : Int × Int × Int} {S : S0} {QG : S0 → Prop} : wG (gTupM n gs) (trD p) S QG ↔ 3 = n ∧ wGs gs [.int p.1, .int p.2.1, .int p.2.2] S QG := by simp [trD]
@[simp] theorem pl_trD {n : Nat} {p : Int × Int × Int} : Pl (n + 2) (trD p) := by simp [trD]
theorem stOk_iff : ∀ {gs : List (Int × Int)} {xs : List Int}, StOk gs xs ↔ xs.length = gs.length ∧ ∀ k : Nat, k < gs.length → 0 ≤ cn xs k ∧ cn xs k ≤ (grp gs k).2
  | [], [] => by simp [StOk]
  | [], x :: xs => by simp [StOk]
  | p :: r, [] => by simp [StOk]
  | p :: r, x :: xs => by
    simp only [StOk, stOk_iff (gs := r) (xs := xs), List.length_cons]
    constructor
    · rintro ⟨h1, h2, h3, h4⟩
      refine ⟨by omega, fun k hk => ?_⟩
      cases k with
      | zero => exact ⟨h1, h2⟩
      | succ k => exact h4 k (by omega)
    · rintro ⟨h1, h2⟩
      exact ⟨(h2 0 (by omega)).1, (h2 0 (by omega)).2, by omega, fun k hk => h2 (k + 1) (by omega)⟩
theorem StOk.at {gs : List (Int × Int)} {xs : List Int} (h : StOk gs xs) {k : Int} (h0 : 0 ≤ k) (h1 : k < gs.length) : 0 ≤ cn xs k ∧ cn xs k ≤ (grp gs k).2 := by
  obtain ⟨n, rfl⟩ := Int.eq_ofNat_of_zero_le h0
  exact (stOk_iff.mp h).2 n (by omega)
end WC
namespace Wk56
open WC
open WF PySem
abbrev DM : List Str := ["Unreachable", "InvalidCommand", "InvalidWord", "InvalidLine", "InvalidState", "UnknownGroup", "NoSuchSize", "BadIndex", "NoSuchDepth", "IllegalMove", "NotEnough", "LastPeople", "TooLong", "TooMany", "TooManyGroups"]
abbrev BT : List String := ["ValueError", "LookupError", "RuntimeError", "OverflowError", "KeyError", "IndexError", "TypeError", "ZeroDivisionError"]
section
variable {C : Str} {fs : List Str} {xs : List D} {Q : D → List D → Prop}
theorem isx (h : C ∈ DM) {y : Str} : isxD DM [.own y] (.exn C fs xs) = some (.bl (decide (C = y))) := by
  show (if C ∈ DM then _ else _) = _; rw [if_pos h]; simp [xsub]
theorem ist (h : C ∈ DM) {n : String} : isxD DM [.ty n] (.exn C fs xs) = some (.bl (xsub C (.ty n))) := by
  show (if C ∈ DM then _ else _) = _; rw [if_pos h]; simp
theorem fzx (hx : D.frzs xs = xs) : (D.exn C fs xs).frz = .exn C fs xs := by rw [D.frz, hx]
theorem unx : isUn (.exn C fs xs) = false := rfl
theorem kinds_eq (hx : D.frzs xs = xs) (h : C ∈ DM) : wF m__law_kinds [.exn C fs xs] Q ↔ Q (.lst true ((DM.map fun y => decide (C = y)).map .bl)) [.exn C fs xs] := by
  refine wF_iff fun Q q => ?_
  rw [m__law_kinds, wF_def]
  simp [b__law_kinds, isx h, unx, fzx hx]
  exact q
theorem unders_eq (hx : D.frzs xs = xs) (h : C ∈ DM) : wF m__law_unders [.exn C fs xs] Q ↔ Q (.lst true ((BT.map fun n => xsub C (.ty n)).map .bl)) [.exn C fs xs] := by
  refine wF_iff fun Q q => ?_
  rw [m__law_unders, wF_def]
  simp [b__law_unders, ist h, unx, fzx hx]
  exact q
theorem kinds_k (hx : D.frzs xs = xs) (h : C ∈ DM) {ks : List Bool} (hk : (DM.map fun y => decide (C = y)) = ks) : wF m__law_kinds [.exn C fs xs] Q ↔ Q (.lst true (ks.map .bl)) [.exn C fs xs] := by rw [kinds_eq hx h, hk]
theorem unders_k (hx : D.frzs xs = xs) (h : C ∈ DM) {ks : List Bool} (hk : (BT.map fun n => xsub C (.ty n)) = ks) : wF m__law_unders [.exn C fs xs] Q ↔ Q (.lst true (ks.map .bl)) [.exn C fs xs] := by rw [unders_eq hx h, hk]
theorem eBl {n : Nat} : EqE n D.bl := ⟨fun x => ⟨_, rfl, rfl, by cases x <;> simp [PyData.depth]⟩, fun x y p q h1 h2 => by cases h1; cases h2; cases x <;> cases y <;> simp [PyData.eqv]⟩
theorem rng_nat {n : Nat} : rngD 0 n = (List.range n).map fun k : Nat => D.int k := by simp [rngD]
theorem right_eq (hx : D.frzs xs = xs) (h : C ∈ DM) {place under : Int} (hp : (DM.map fun y => decide (C = y)) = (List.range 15).map fun k : Nat => decide ((k : Int) = place)) (hu : (BT.map fun n => xsub C (.ty n)) = (List.range 8).map fun k : Nat => decide ((k : Int) = under)) :
    wF m__law_right_v47 [.exn C fs xs, .int place, .int under] Q ↔ Q (.bl true) [.exn C fs xs, .int place, .int under] := by
  refine wF_iff fun Q q => ?_
  obtain ⟨ks, hk⟩ : ∃ ks, ks = (List.range 15).map fun k : Nat => decide ((k : Int) = place) := ⟨_, rfl⟩
  obtain ⟨us, hv⟩ : ∃ us, us = (List.range 8).map fun k : Nat => decide ((k : Int) = under) := ⟨_, rfl⟩
  rw [← hk] at hp
  rw [← hv] at hu
  rw [m__law_right_v47, wF_def]
  simp [b__law_right_v47, kinds_k hx h hp, unx, fzx hx]
  have e15 : rngD 0 15 = (List.range 15).map fun k : Nat => D.int k := rng_nat (n := 15)
  have e8 : rngD 0 8 = (List.range 8).map fun k : Nat => D.int k := rng_nat (n := 8)
  rw [e15]
  refine comp_map0 (φ := fun k : Nat => .bl (decide ((k : Int) = place))) (List.range 15) (fun k _ => ?_) (by simp) ?_
  · simp [fzx hx, unx]
  have m15 : ((List.range 15).map fun k : Nat => D.bl (decide ((k : Int) = place))) = ks.map D.bl := by rw [hk, List.map_map]; rfl
  rw [m15]
  simp [fzx hx, unx, eqD_lst (eBl (n := 2)), unders_k hx h hu]
  rw [e8]
  refine comp_map0 (φ := fun k : Nat => .bl (decide ((k : Int) = under))) (List.range 8) (fun k _ => ?_) (by simp) ?_
  · simp [fzx hx, unx]
  have m8 : ((List.range 8).map fun k : Nat => D.bl (decide ((k : Int) = under))) = us.map D.bl := by rw [hv, List.map_map]; rfl
  rw [m8]
  simp [fzx hx, unx, eqD_lst (eBl (n := 2))]
  exact q
theorem attr_eq (h : C ∈ DM) {f : Str} {d : D} : attrD DM f (.exn C [f] [d]) = some d := by
  show (if C ∈ DM then _ else _) = _
  rw [if_pos h]
  simp [List.lookup]
theorem limits_eq : wF (pickF [] [] [] m__law_limits_right) [] Q ↔ Q (.bl true) [] := by
  refine wF_iff fun Q q => ?_
  have e : eqD false (.lst true [.int 300, .int 200, .int 9, .int 12]) (.lst true [.int 300, .int 200, .int 9, .int 12]) = some (.bl true) := eqD_same (n := 4) (.lst (fun x m => by simp at m; rcases m with rfl | rfl | rfl | rfl <;> exact .int) (by simp)) (by omega) rfl
  simp [wF_pick]
  rw [m__law_limits_right, wF_def]
  simp [b__law_limits_right, e]
  exact q
end
structure En where
  C : Str
  f : Str
  d : D
  p : Int
  u : Int
def entD (x : En) : D := .tup [.exn x.C [x.f] [x.d], x.d, x.d, x.d, .int x.p, .int x.u]
def okB (C : Str) (p u : Int) : Bool := decide (C ∈ DM) && (decide ((DM.map fun y => decide (C = y)) = (List.range 15).map fun k : Nat => decide ((k : Int) = p)) && decide ((BT.map fun n => xsub C (.ty n)) = (List.range 8).map fun k : Nat => decide ((k : Int) = u)))
structure EnOk (x : En) : Prop where
  ok : okB x.C x.p x.u = true
  pl : Pl 3 x.d
  fz : x.d.frz = x.d
section
variable {C : Str} {fs : List Str} {xs : List D} {Q : D → List D → Prop}
theorem right_ok {p u : Int} (h : okB C p u = true) (hx : D.frzs xs = xs) : wF m__law_right_v47 [.exn C fs xs, .int p, .int u] Q ↔ Q (.bl true) [.exn C fs xs, .int p, .int u] := by
  unfold okB at h
  simp only [Bool.and_eq_true, decide_eq_true_eq] at h
  exact right_eq hx h.1 h.2.1 h.2.2
end
def ens (n : Int) : List En := [⟨"Unreachable", "reason", .tup [.str "more", .int (n % 12)], 0, 0⟩, ⟨"IllegalMove", "pair", .tup [.int (n % 12), .int (n % 12 - 1)], 9, 2⟩, ⟨"InvalidCommand", "index", .int n, 1, 0⟩, ⟨"InvalidWord", "index", .int n, 2, 0⟩, ⟨"InvalidLine", "index", .int n, 3, 0⟩, ⟨"UnknownGroup", "group", .int n, 5, 1⟩,
  ⟨"NoSuchSize", "size", .int n, 6, 1⟩, ⟨"BadIndex", "index", .int n, 7, 1⟩, ⟨"NoSuchDepth", "depth", .int n, 8, 1⟩, ⟨"NotEnough", "count", .int n, 10, 2⟩, ⟨"TooLong", "size", .int n, 12, 3⟩, ⟨"TooMany", "size", .int n, 13, 3⟩, ⟨"TooManyGroups", "count", .int n, 14, 3⟩]
theorem ens_ok {n : Int} : ∀ x ∈ ens n, EnOk x := by
  have q1 : PyData.strOk "more" = true := by kernel_rfl
  have f2 : ∀ {a b : Int}, (D.tup [.int a, .int b]).frz = .tup [.int a, .int b] := rfl
  have p0 : Pl 3 (.tup [.str "more", .int (n % 12)]) := by simp; exact .str q1
  have p1 : Pl 3 (.tup [.int (n % 12), .int (n % 12 - 1)]) := by simp
  intro x hx
  simp only [ens, List.mem_cons, List.not_mem_nil, or_false] at hx
  rcases hx with rfl | rfl | rfl | rfl | rfl | rfl | rfl | rfl | rfl | rfl | rfl | rfl | rfl
  · exact ⟨by kernel_rfl, p0, rfl⟩
  · exact ⟨by kernel_rfl, p1, rfl⟩
  all_goals exact ⟨by kernel_rfl, .int, rfl⟩
theorem law_true {ns : List Int} (h : ns.length ≤ 63) : ∃ d, m_law_v53 [.scr ns] = some (.ok (.bl true), [d]) := by
  refine ⟨.scr ns, wF_eq fun Q => wF_iff fun Q q => ?_⟩
  rw [m_law_v53, wF_def]
  simp [b_law_v53]
  refine fold_sp (by omega) (by omega) fun cs hc => ?_
  simp
  refine stream_sp (by omega) fun a b r => ?_
  simp
  refine draw_sp r (by omega) (by omega) (by omega) fun v a c v0 v1 r => ?_
  have A : ∀ {C f : Str} {d : D}, decide (C ∈ DM) = true → attrD DM f (.exn C [f] [d]) = some d := fun {C f d} h => attr_eq (of_decide_eq_true h)
  have a1 := fun d => A (C := "Unreachable") (f := "reason") (d := d) (by kernel_rfl)
  have a2 := fun d => A (C := "IllegalMove") (f := "pair") (d := d) (by kernel_rfl)
  have a3 := fun d => A (C := "InvalidCommand") (f := "index") (d := d) (by kernel_rfl)
  have a4 := fun d => A (C := "InvalidWord") (f := "index") (d := d) (by kernel_rfl)
  have a5 := fun d => A (C := "InvalidLine") (f := "index") (d := d) (by kernel_rfl)
  have a6 := fun d => A (C := "UnknownGroup") (f := "group") (d := d) (by kernel_rfl)
  have a7 := fun d => A (C := "NoSuchSize") (f := "size") (d := d) (by kernel_rfl)
  have a8 := fun d => A (C := "BadIndex") (f := "index") (d := d) (by kernel_rfl)
  have a9 := fun d => A (C := "NoSuchDepth") (f := "depth") (d := d) (by kernel_rfl)
  have a10 := fun d => A (C := "NotEnough") (f := "count") (d := d) (by kernel_rfl)
  have a11 := fun d => A (C := "TooLong") (f := "size") (d := d) (by kernel_rfl)
  have a12 := fun d => A (C := "TooMany") (f := "size") (d := d) (by kernel_rfl)
  have a13 := fun d => A (C := "TooManyGroups") (f := "count") (d := d) (by kernel_rfl)
  generalize hn : 1 + v = n
  simp (disch := omega) [hn, mkxM, unx, a1, a2, a3, a4, a5, a6, a7, a8, a9, a10, a11, a12, a13]
  obtain ⟨X, hX⟩ : ∃ X, X = D.lst false ((ens n).map entD) := ⟨_, rfl⟩
  have go : ∀ (x3 x4 : D) (Q1 : Fl → S0 → Prop), (∀ x6 x7 x8 x9 x10 x11, Q1 .nx [.scr ns, rngE a b c, .int n, x3, x4, X, x6, x7, x8, x9, x10, x11]) → wS
    (loopM (gTupM 6 (gConsM (gSetM 6) (gConsM (gSetM 7) (gConsM (gSetM 8) (gConsM (gSetM 9) (gConsM (gSetM 10) (gConsM (gSetM 11) gNilM)))))))
      (ifS (WF.orM (roM (op2 (eqD true)) [Ar.v (lstM [varM 7, varM 8]), Ar.v (lstM [varM 9, varM 9])]) (WF.notM (callM m__law_right_v47 [Ar.v (varM 6), Ar.v (varM 10), Ar.v (varM 11)]))) (retS (retM (D.bl false))) skipM)
      ((ens n).map entD)) [.scr ns, rngE a b c, .int n, x3, x4, X, .un, .un, .un, .un, .un, .un] Q1 := fun x3 x4 Q1 q1 => by
    refine loop_pre entD (fun _ S => ∃ x6 x7 x8 x9 x10 x11, S = [.scr ns, rngE a b c, .int n, x3, x4, X, x6, x7, x8, x9, x10, x11]) (ens n) ?_ ⟨_, _, _, _, _, _, rfl⟩ ?_
    · rintro pre ⟨C, f, d, p, u⟩ post e S ⟨x6, x7, x8, x9, x10, x11, rfl⟩
      have E : EnOk ⟨C, f, d, p, u⟩ := ens_ok _ (by rw [e]; simp)
      obtain ⟨ok, pl, fz⟩ := E
      have fz : d.frz = d := fz
      have ok : okB C p u = true := ok
      have hx : D.frzs [d] = [d] := by simp [D.frzs, fz]
      have hd : isUn d = false := by
        have pl : Pl 3 d := pl
        cases pl <;> rfl
      have e1 : eqD true (.lst true [d, d]) (.lst true [d, d]) = some (.bl false) := eqD_same (n := 4) (.lst (fun x m => by simp at m; subst m; exact pl) (by simp)) (by omega) rfl
      simp [entD, unx, hd, fz, fzx hx, e1, right_ok ok hx]
    · rintro S ⟨x6, x7, x8, x9, x10, x11, rfl⟩
      exact q1 _ _ _ _ _ _
  have k1 : okB "InvalidState" 4 0 = true := by kernel_rfl
  have k2 : okB "LastPeople" 11 2 = true := by kernel_rfl
  subst hX
  refine go _ _ _ fun x6 x7 x8 x9 x10 x11 => ?_
  simp [limits_eq, mkx0M, fzx (show D.frzs [] = [] from rfl), unx, right_ok k1 (show D.frzs [] = [] from rfl), right_ok k2 (show D.frzs [] = [] from rfl)]
  exact q
end Wk56
namespace Wk56
open WF WC PySem PySem.Spec PyProof.Rows L2
def d__law_stream : He.DefD := ⟨("_law_stream", none), "_law_stream", "_law_stream", defArgs (top 21), defBody (top 21), defScope (top 21), [], []⟩
def d__law_fold : He.DefD := ⟨("_law_fold", none), "_law_fold", "_law_fold", defArgs (top 23), defBody (top 23), defScope (top 23), [], []⟩
def d__law_draw : He.DefD := ⟨("_law_draw", none), "_law_draw", "_law_draw", defArgs (top 22), defBody (top 22), defScope (top 22), [], []⟩
def d__law_limits_right : He.DefD := ⟨("_law_limits_right", none), "_law_limits_right", "_law_limits_right", defArgs (top 27), defBody (top 27), defScope (top 27), [], []⟩
def d__law_kinds : He.DefD := ⟨("_law_kinds", none), "_law_kinds", "_law_kinds", defArgs (top 24), defBody (top 24), defScope (top 24), [], []⟩
def d__law_unders : He.DefD := ⟨("_law_unders", none), "_law_unders", "_law_unders", defArgs (top 25), defBody (top 25), defScope (top 25), [], []⟩
def d__law_right : He.DefD := ⟨("_law_right", none), "_law_right", "_law_right", defArgs (top 26), defBody (top 26), defScope (top 26), [], []⟩
def d_law : He.DefD := ⟨("law", none), "law", "law", defArgs (top 28), defBody (top 28), defScope (top 28), [], []⟩
def di_Unreachable : He.DefD := ⟨("Unreachable", some "__init__"), "__init__", "Unreachable.__init__", defArgs (cini 1), defBody (cini 1), defScope (cini 1), [], []⟩
def di_InvalidCommand : He.DefD := ⟨("InvalidCommand", some "__init__"), "__init__", "InvalidCommand.__init__", defArgs (cini 2), defBody (cini 2), defScope (cini 2), [], []⟩
def di_InvalidWord : He.DefD := ⟨("InvalidWord", some "__init__"), "__init__", "InvalidWord.__init__", defArgs (cini 3), defBody (cini 3), defScope (cini 3), [], []⟩
def di_InvalidLine : He.DefD := ⟨("InvalidLine", some "__init__"), "__init__", "InvalidLine.__init__", defArgs (cini 4), defBody (cini 4), defScope (cini 4), [], []⟩
def di_InvalidState : He.DefD := ⟨("InvalidState", some "__init__"), "__init__", "InvalidState.__init__", defArgs (cini 5), defBody (cini 5), defScope (cini 5), [], []⟩
def di_UnknownGroup : He.DefD := ⟨("UnknownGroup", some "__init__"), "__init__", "UnknownGroup.__init__", defArgs (cini 6), defBody (cini 6), defScope (cini 6), [], []⟩
def di_NoSuchSize : He.DefD := ⟨("NoSuchSize", some "__init__"), "__init__", "NoSuchSize.__init__", defArgs (cini 7), defBody (cini 7), defScope (cini 7), [], []⟩
def di_BadIndex : He.DefD := ⟨("BadIndex", some "__init__"), "__init__", "BadIndex.__init__", defArgs (cini 8), defBody (cini 8), defScope (cini 8), [], []⟩
def di_NoSuchDepth : He.DefD := ⟨("NoSuchDepth", some "__init__"), "__init__", "NoSuchDepth.__init__", defArgs (cini 9), defBody (cini 9), defScope (cini 9), [], []⟩
def di_IllegalMove : He.DefD := ⟨("IllegalMove", some "__init__"), "__init__", "IllegalMove.__init__", defArgs (cini 10), defBody (cini 10), defScope (cini 10), [], []⟩
def di_NotEnough : He.DefD := ⟨("NotEnough", some "__init__"), "__init__", "NotEnough.__init__", defArgs (cini 11), defBody (cini 11), defScope (cini 11), [], []⟩
def di_LastPeople : He.DefD := ⟨("LastPeople", some "__init__"), "__init__", "LastPeople.__init__", defArgs (cini 12), defBody (cini 12), defScope (cini 12), [], []⟩
def di_TooLong : He.DefD := ⟨("TooLong", some "__init__"), "__init__", "TooLong.__init__", defArgs (cini 13), defBody (cini 13), defScope (cini 13), [], []⟩
def di_TooMany : He.DefD := ⟨("TooMany", some "__init__"), "__init__", "TooMany.__init__", defArgs (cini 14), defBody (cini 14), defScope (cini 14), [], []⟩
def di_TooManyGroups : He.DefD := ⟨("TooManyGroups", some "__init__"), "__init__", "TooManyGroups.__init__", defArgs (cini 15), defBody (cini 15), defScope (cini 15), [], []⟩
def fac0 : List He.Fa := [.glo "_law_stream", .glo "_law_fold", .glo "_law_draw", .glo "_law_limits_right", .glo "_law_kinds", .glo "_law_unders", .glo "_law_right", .glo "law", .free "IndexError", .free "KeyError", .free "LookupError", .free "OverflowError", .free "RuntimeError", .free "TypeError", .free "ValueError", .free "ZeroDivisionError", .free "abs", .free "divmod", .free "enumerate", .free "int", .free "isinstance", .free "len", .free "list", .free "range", .int "MAX_GROUPS" (12), .int "MAX_PEOPLE" (200), .int "MAX_PEOPLE_IN_SEQUENCES" (9), .int "MAX_SEQUENCE" (300), .glo "Unreachable", .glo "InvalidCommand"]
def fac1 : List He.Fa := [.glo "InvalidWord", .glo "InvalidLine", .glo "InvalidState", .glo "UnknownGroup", .glo "NoSuchSize", .glo "BadIndex", .glo "NoSuchDepth", .glo "IllegalMove", .glo "NotEnough", .glo "LastPeople", .glo "TooLong", .glo "TooMany", .glo "TooManyGroups"]
def fac : List He.Fa := fac0 ++ fac1
def fns0 : List He.DefD := [d__law_stream, d__law_fold, d__law_draw, d__law_limits_right, d__law_kinds, d__law_unders, d__law_right, d_law, di_Unreachable, di_InvalidCommand, di_InvalidWord, di_InvalidLine, di_InvalidState, di_UnknownGroup, di_NoSuchSize, di_BadIndex, di_NoSuchDepth, di_IllegalMove, di_NotEnough, di_LastPeople, di_TooLong, di_TooMany, di_TooManyGroups]
def fns : List He.DefD := fns0
def loo0 : List Str := ["Unreachable", "InvalidCommand", "InvalidWord", "InvalidLine", "InvalidState", "UnknownGroup", "NoSuchSize", "BadIndex", "NoSuchDepth", "IllegalMove", "NotEnough", "LastPeople", "TooLong", "TooMany", "TooManyGroups", "MAX_SEQUENCE", "MAX_PEOPLE", "MAX_PEOPLE_IN_SEQUENCES", "MAX_GROUPS", "_law_stream", "_law_draw", "_law_fold", "_law_kinds", "_law_unders", "_law_right", "_law_limits_right"]
def loo : List Str := loo0
abbrev R : PySem.W.OpenRow := PySem.W.OpenLaw.row PySem.Challenge.rw_wellfolk_k56_error_classes
def exK (K : PySem.W.Frag) : Bool := xdomB K ["Unreachable", "InvalidCommand", "InvalidWord", "InvalidLine", "InvalidState", "UnknownGroup", "NoSuchSize", "BadIndex", "NoSuchDepth", "IllegalMove", "NotEnough", "LastPeople", "TooLong", "TooMany", "TooManyGroups"] [.own "Unreachable", .own "InvalidCommand", .own "InvalidWord", .own "InvalidLine", .own "InvalidState", .own "UnknownGroup", .own "NoSuchSize", .own "BadIndex", .own "NoSuchDepth", .own "IllegalMove", .own "NotEnough", .own "LastPeople", .own "TooLong", .own "TooMany", .own "TooManyGroups", .ty "ValueError", .ty "LookupError", .ty "RuntimeError", .ty "OverflowError", .ty "KeyError", .ty "IndexError", .ty "TypeError", .ty "ZeroDivisionError"] ["reason", "pair", "index", "group", "size", "depth", "count"] && (xcatB K ["Unreachable", "InvalidCommand", "InvalidWord", "InvalidLine", "InvalidState", "UnknownGroup", "NoSuchSize", "BadIndex", "NoSuchDepth", "IllegalMove", "NotEnough", "LastPeople", "TooLong", "TooMany", "TooManyGroups"] [] && (xrB K "Unreachable" "reason" "ValueError.__new__" mroVE && (xrB K "InvalidCommand" "index" "ValueError.__new__" mroVE && (xrB K "InvalidWord" "index" "ValueError.__new__" mroVE && (xrB K "InvalidLine" "index" "ValueError.__new__" mroVE && (xrB K "InvalidState" "" "ValueError.__new__" mroVE && (xrB K "UnknownGroup" "group" "LookupError.__new__" mroLE && (xrB K "NoSuchSize" "size" "LookupError.__new__" mroLE && (xrB K "BadIndex" "index" "LookupError.__new__" mroLE && (xrB K "NoSuchDepth" "depth" "LookupError.__new__" mroLE && (xrB K "IllegalMove" "pair" "RuntimeError.__new__" mroRE && (xrB K "NotEnough" "count" "RuntimeError.__new__" mroRE && (xrB K "LastPeople" "" "RuntimeError.__new__" mroRE && (xrB K "TooLong" "size" "OverflowError.__new__" mroOE && (xrB K "TooMany" "size" "OverflowError.__new__" mroOE && (xrB K "TooManyGroups" "count" "OverflowError.__new__" mroOE))))))))))))))))
abbrev hk : PySem.W.Hook := He.hookX 4 fac fns [] [] exK
def ob (s : PySem.W.SharedT) : He.AlX := He.obsX 4 fac fns [] [] exK (HandSHeadRun.getT s)
theorem ob_eq (s : PySem.W.SharedT) : ob s = hk.obs s.abs := He.obsX_eq (HandSHeadRun.getT_eq s)
theorem run (w : World) : HandSHeadRun.RunEq R (PySem.W.view R.prog [28]) hk ob 4000 loo w := by
  intro os
  kernel_rfl
def nm : Nat → Str
  | 21 => "_law_stream"
  | 22 => "_law_draw"
  | 23 => "_law_fold"
  | 24 => "_law_kinds"
  | 25 => "_law_unders"
  | 26 => "_law_right"
  | 27 => "_law_limits_right"
  | 28 => "law"
  | _ => "law"
theorem tx_of {K : PySem.W.Frag} {h : Heap} {mg : Str → Option Value} (X : K.In h) (G : h.Ns mainGlobals mg) (c : He.SaysD fac fns K) (hx : exK K = true) : ∃ fdd : Nat → FuncData, Tx K mg (fun i => He.ga K (nm i)) fdd := by
  simp only [exK, Bool.and_eq_true] at hx
  obtain ⟨hxd, hxc, hx0, hx1, hx2, hx3, hx4, hx5, hx6, hx7, hx8, hx9, hx10, hx11, hx12, hx13, hx14⟩ := hx
  obtain ⟨fd21, F21⟩ := c.def_ 0 (d := d__law_stream) rfl
  obtain ⟨fd23, F23⟩ := c.def_ 1 (d := d__law_fold) rfl
  obtain ⟨fd22, F22⟩ := c.def_ 2 (d := d__law_draw) rfl
  obtain ⟨fd27, F27⟩ := c.def_ 3 (d := d__law_limits_right) rfl
  obtain ⟨fd24, F24⟩ := c.def_ 4 (d := d__law_kinds) rfl
  obtain ⟨fd25, F25⟩ := c.def_ 5 (d := d__law_unders) rfl
  obtain ⟨fd26, F26⟩ := c.def_ 6 (d := d__law_right) rfl
  obtain ⟨fd28, F28⟩ := c.def_ 7 (d := d_law) rfl
  obtain ⟨fd1, FI1⟩ := c.def_ 8 (d := di_Unreachable) rfl
  obtain ⟨fd2, FI2⟩ := c.def_ 9 (d := di_InvalidCommand) rfl
  obtain ⟨fd3, FI3⟩ := c.def_ 10 (d := di_InvalidWord) rfl
  obtain ⟨fd4, FI4⟩ := c.def_ 11 (d := di_InvalidLine) rfl
  obtain ⟨fd5, FI5⟩ := c.def_ 12 (d := di_InvalidState) rfl
  obtain ⟨fd6, FI6⟩ := c.def_ 13 (d := di_UnknownGroup) rfl
  obtain ⟨fd7, FI7⟩ := c.def_ 14 (d := di_NoSuchSize) rfl
  obtain ⟨fd8, FI8⟩ := c.def_ 15 (d := di_BadIndex) rfl
  obtain ⟨fd9, FI9⟩ := c.def_ 16 (d := di_NoSuchDepth) rfl
  obtain ⟨fd10, FI10⟩ := c.def_ 17 (d := di_IllegalMove) rfl
  obtain ⟨fd11, FI11⟩ := c.def_ 18 (d := di_NotEnough) rfl
  obtain ⟨fd12, FI12⟩ := c.def_ 19 (d := di_LastPeople) rfl
  obtain ⟨fd13, FI13⟩ := c.def_ 20 (d := di_TooLong) rfl
  obtain ⟨fd14, FI14⟩ := c.def_ 21 (d := di_TooMany) rfl
  obtain ⟨fd15, FI15⟩ := c.def_ 22 (d := di_TooManyGroups) rfl
  refine ⟨(fun i => match i with | 21 => fd21 | 22 => fd22 | 23 => fd23 | 24 => fd24 | 25 => fd25 | 26 => fd26 | 27 => fd27 | 1 => fd1 | 2 => fd2 | 3 => fd3 | 4 => fd4 | 5 => fd5 | 6 => fd6 | 7 => fd7 | 8 => fd8 | 9 => fd9 | 10 => fd10 | 11 => fd11 | 12 => fd12 | 13 => fd13 | 14 => fd14 | 15 => fd15 | _ => fd28), ?_⟩
  exact ⟨F21, He.glo_ok X G (c.fact 0 (f := .glo "_law_stream") rfl), F23, He.glo_ok X G (c.fact 1 (f := .glo "_law_fold") rfl), F22, He.glo_ok X G (c.fact 2 (f := .glo "_law_draw") rfl), F27, He.glo_ok X G (c.fact 3 (f := .glo "_law_limits_right") rfl), F24, He.glo_ok X G (c.fact 4 (f := .glo "_law_kinds") rfl), F25, He.glo_ok X G (c.fact 5 (f := .glo "_law_unders") rfl), F26, He.glo_ok X G (c.fact 6 (f := .glo "_law_right") rfl), F28, He.glo_ok X G (c.fact 7 (f := .glo "law") rfl), He.free_ok X G (c.fact 8 (f := .free "IndexError") rfl), He.free_ok X G (c.fact 9 (f := .free "KeyError") rfl), He.free_ok X G (c.fact 10 (f := .free "LookupError") rfl), He.free_ok X G (c.fact 11 (f := .free "OverflowError") rfl), He.free_ok X G (c.fact 12 (f := .free "RuntimeError") rfl), He.free_ok X G (c.fact 13 (f := .free "TypeError") rfl), He.free_ok X G (c.fact 14 (f := .free "ValueError") rfl), He.free_ok X G (c.fact 15 (f := .free "ZeroDivisionError") rfl), He.free_ok X G (c.fact 16 (f := .free "abs") rfl), He.free_ok X G (c.fact 17 (f := .free "divmod") rfl), He.free_ok X G (c.fact 18 (f := .free "enumerate") rfl), He.free_ok X G (c.fact 19 (f := .free "int") rfl), He.free_ok X G (c.fact 20 (f := .free "isinstance") rfl), He.free_ok X G (c.fact 21 (f := .free "len") rfl), He.free_ok X G (c.fact 22 (f := .free "list") rfl), He.free_ok X G (c.fact 23 (f := .free "range") rfl), He.int_ok X G (c.fact 24 (f := .int "MAX_GROUPS" (12)) rfl), He.int_ok X G (c.fact 25 (f := .int "MAX_PEOPLE" (200)) rfl), He.int_ok X G (c.fact 26 (f := .int "MAX_PEOPLE_IN_SEQUENCES" (9)) rfl), He.int_ok X G (c.fact 27 (f := .int "MAX_SEQUENCE" (300)) rfl), He.glo_ok X G (c.fact 28 (f := .glo "Unreachable") rfl), He.glo_ok X G (c.fact 29 (f := .glo "InvalidCommand") rfl), He.glo_ok X G (c.fact 30 (f := .glo "InvalidWord") rfl), He.glo_ok X G (c.fact 31 (f := .glo "InvalidLine") rfl), He.glo_ok X G (c.fact 32 (f := .glo "InvalidState") rfl), He.glo_ok X G (c.fact 33 (f := .glo "UnknownGroup") rfl), He.glo_ok X G (c.fact 34 (f := .glo "NoSuchSize") rfl), He.glo_ok X G (c.fact 35 (f := .glo "BadIndex") rfl), He.glo_ok X G (c.fact 36 (f := .glo "NoSuchDepth") rfl), He.glo_ok X G (c.fact 37 (f := .glo "IllegalMove") rfl), He.glo_ok X G (c.fact 38 (f := .glo "NotEnough") rfl), He.glo_ok X G (c.fact 39 (f := .glo "LastPeople") rfl), He.glo_ok X G (c.fact 40 (f := .glo "TooLong") rfl), He.glo_ok X G (c.fact 41 (f := .glo "TooMany") rfl), He.glo_ok X G (c.fact 42 (f := .glo "TooManyGroups") rfl), xrB_ok hx0, FI1, xrB_ok hx1, FI2, xrB_ok hx2, FI3, xrB_ok hx3, FI4, xrB_ok hx4, FI5, xrB_ok hx5, FI6, xrB_ok hx6, FI7, xrB_ok hx7, FI8, xrB_ok hx8, FI9, xrB_ok hx9, FI10, xrB_ok hx10, FI11, xrB_ok hx11, FI12, xrB_ok hx12, FI13, xrB_ok hx13, FI14, xrB_ok hx14, FI15, xdomB_ok hxd, xcatB_ok hxc⟩
theorem facts {P : Program} {w : World} {K : PySem.W.Frag} {h : Heap} {mg : Str → Option Value} {f : Addr} (X : K.In h) (G : h.Ns mainGlobals mg) (hfa : mg ("law" : Str) = some (.ref f)) (c : He.SaysD fac fns K) (hx : exK K = true) :
    ∃ fd : FuncData, (∀ (s : Shared) (v : Value), BindsTo s fd ⟨[v], []⟩ [("_law_script", v)]) ∧ ∀ base : Heap, K.In base → base.Ns mainGlobals mg → FnOk P w K mg base (L2.CX P w) 13 f fd ["_law_script"] (spOf K 1 m_law_v53) := by
  obtain ⟨fdd, T⟩ := tx_of X G c hx
  have e := hfa.symm.trans T.g_law
  cases e
  have b := FunD.bindsA (ps := ["_law_script"]) T.F_law fun _ _ _ _ _ _ us hl => match us, hl with | [_], _ => rfl
  exact ⟨fdd 28, fun s v => b s [v] rfl, fun base _ _ => ok_law T⟩
theorem sp_law {K : PySem.W.Frag} {H : Hp} {a : Addr} {ns : List Int}  (h : ∃ d, m_law_v53 [.scr ns] = some (.ok (.bl true), [d])) (hS : SqL K H a (ns.map V.int)) : spOf K 1 m_law_v53 [.ref a] H (fun v _ => v = .bl true) fun _ _ _ => False := by
  obtain ⟨d, h⟩ := h
  refine ⟨rfl, [.scr ns], [], rfl, ⟨H, [], fun _ _ h => h, .scr hS .nil, .nil, fun _ m => nomatch m⟩, ?_⟩
  rw [h]
  exact ⟨rfl, fun v H' j => j.is_bl⟩
end Wk56
open PySem PySem.W PySem.Calls PyProof.Rows
theorem PySem.Challenge.cw_wellfolk_k56_error_classes_holds : PySem.Challenge.rw_wellfolk_k56_error_classes.Holds := by
  w_on; o_law
  refine HandSHeadRun.head_any (r := OpenLaw.row PySem.Challenge.rw_wellfolk_k56_error_classes) (q := view (OpenLaw.row PySem.Challenge.rw_wellfolk_k56_error_classes).prog [28]) (H := Wk56.hk) (ob := Wk56.ob) (M := 4000) (loose := Wk56.loo) (d := HandSHeadRun.topDef (OpenLaw.row PySem.Challenge.rw_wellfolk_k56_error_classes).prog 28) (kwd := []) Wk56.ob_eq
    (by kernel_rfl) (fun s => by kernel_rfl) Wk56.run (by kernel_rfl) (by kernel_rfl) (by kernel_rfl) (by rfl) (by first | assumption | decide +kernel) (by decide +kernel) ⟨rfl, rfl, rfl, rfl, rfl, by decide +kernel⟩ ?hw ?hc
  case hw => w_witness2
  case hc =>
    refine L2.walk_ofE (l := PySem.Challenge.rw_wellfolk_k56_error_classes) (n := 63) (k := 13) (x := "_law_script") (CX := L2.CX0) rfl (by decide) (by kernel_rfl) ⟨rfl, by decide, by decide⟩ ?F (fun _ _ _ _ z => z)
    intro w mg fa h Y G hmg0
    obtain ⟨K, KX, c⟩ := Y
    have hmg : mg ("law" : PySem.Str) = some (.ref fa) := by
      have e : (HandSHeadRun.topDef (OpenLaw.row PySem.Challenge.rw_wellfolk_k56_error_classes).prog 28).name = ("law" : PySem.Str) := by kernel_rfl
      rw [← e]
      exact hmg0
    obtain ⟨fd, hb, hF⟩ := Wk56.facts (P := (PySem.Challenge.rw_wellfolk_k56_error_classes).prog) (w := w) KX G hmg c.t.d c.more
    exact ⟨K, fd, (fun vs H Q _ => WF.spOf K 1 WC.m_law_v53 vs H Q fun _ _ _ => False), KX, hb, fun H a ns hl _ hS => Wk56.sp_law (Wk56.law_true hl) hS, fun base h1 h2 => WF.fn_cx0 (hF base h1 h2)⟩
