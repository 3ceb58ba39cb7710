import PyProof.Rows.All
import Wide.All
import OpenK.AllK
import Wide.FinOn
import HandS.ForMost
import HandS.Walk
import HandS.Nested
import HandS.HeadHook1
import HandS.ForExc
import HandS.CallSlots
import HandS.NoneIn
import HandS.Style
import HandS.TupAny
import HandS.TupMul
import HandS.Wide
import HandS.WideBits
import HandS.Deep
import HandS.IsInst
import HandS.Zip
import KE.GoesMore
import KE.GoesZip
import PyProof.EnumMake
import HandS.Rev
import HandS.Defaults
import HandS.MakeKwOnly
import HandS.SortInts
import HandS.SortRule
import HandS.SetFor
import HandS.Strs
import HandS.CallLocal
import HandS.TupSets
import HandS.TupLen
import HandS.More
import HandS.Conv
import HandS.WordsDict
import KE.KDictDisplayH
import HandS.DictTup
import HandS.DictComp
import HandS.HeadEnd
import PyProof.ReprRoads
import HandS.OwnIter
import PyProof.CollectWalk
import HandS.Dict
import HandS.Small
import PyProof.Rows.IntBool
import KE.DataMinMax
import HandS.ExcInit
import HandS.ExcIs
import HandS.ExcField
import KE.KExcInit
import KE.KTryMore
import HandS.TryMany
import HandS.HeadHook4
import HandS.Base
import KE.KStateDown
import Lean
import HandS.Head0
import HandS.Head1
import HandS.Head2
import HandS.HeadHook2
import PySem.Challenge.RW_wellfolk_k12_meets
set_option Elab.async false
set_option linter.all false
set_option maxRecDepth 100000
set_option maxHeartbeats 0
namespace WF
open PySem PySem.Spec PyProof.Rows L2
inductive D where
  | un | non | bl (b : Bool) | int (i : Int) | str (x : Str) | vl (v : V)
  | tup (xs : List D) | lst (o : Bool) (xs : List D)
  | dic (o : Bool) (ks : List Key) (xs : List D)
  | dtk (o : Bool) (ks : List (List Key)) (xs : List D)
  | scr (ns : List Int)
  | hld (u : HO)
  | con (u : HO)
  | tab (nm : Nat → Nat → Str)
  | obj (o : Bool) (c : Str) (fs : List Str) (xs : List D)
  | exn (c : Str) (fs : List Str) (xs : List D)
mutual
def D.frz : D → D
  | .tup xs => .tup (D.frzs xs)
  | .exn c fs xs => .exn c fs (D.frzs xs)
  | .lst _ xs => .lst false (D.frzs xs)
  | .dic _ ks xs => .dic false ks (D.frzs xs)
  | .dtk _ ks xs => .dtk false ks (D.frzs xs)
  | .hld _ => .un
  | .tab _ => .un
  | .obj _ c fs xs => .obj false c fs (D.frzs xs)
  | d => d
def D.frzs : List D → List D
  | [] => []
  | x :: xs => x.frz :: D.frzs xs
end
theorem D.frzs_map : ∀ xs : List D, D.frzs xs = xs.map D.frz
  | [] => rfl
  | x :: xs => by simp [D.frzs, D.frzs_map xs]
example : (D.tup [.lst true [.int 3]]).frz = D.tup [.lst false [.int 3]] := rfl
def GSub (G H : Hp) : Prop := ∀ a o, G a = some o → H a = some o
theorem GSub.refl {G : Hp} : GSub G G := fun _ _ h => h
theorem GSub.trans {G H J : Hp} (a : GSub G H) (b : GSub H J) : GSub G J := fun x o h => b x o (a x o h)
theorem sqL_mono {K : PySem.W.Frag} {G G' : Hp} {p : Addr} {xs : List V} (g : GSub G G') (h : SqL K G p xs) : SqL K G' p xs := by
  rcases h with (h | ⟨o, h⟩) | h
  · exact .inl (.inl (g _ _ h))
  · exact .inl (.inr ⟨o, g _ _ h⟩)
  · exact .inr h
def exk (p : Addr) (cls : Value) (dd : Option Addr) : HO := .ext fun h => ∃ (o : Obj) (vs : Array Value), h.get? p = some o ∧ o.cls = cls ∧ o.dict = dd ∧ o.data = .fields vs
def HldOk (u : HO) : Prop := (∀ xs, u ≠ .tup xs) ∧ (∀ ps, u ≠ .tbl ps) ∧ (∀ φ, u ≠ .ext φ) ∧ ∀ fs, u ≠ .xd fs
theorem hld_frz {o : Obj} {v : HO} : HldOk (.frz o v) := ⟨(fun _ e => by cases e), (fun _ e => by cases e), (fun _ e => by cases e), (fun _ e => by cases e)⟩
def TabG (G H : Hp) (P : Addr) (nm : Nat → Nat → Str) : Prop := ∃ ps : Array Value, H P = some (.tbl ps) ∧ TriplesOk ps.toList ∧ ∀ (pos : Pos) (cv : Value), codeAmong pos ps.toList = some cv → ∃ c, cv = .ref c ∧ G c = some (LamX.CodeO c (nm pos.line pos.col))
theorem TabG.mono {G G' H H' : Hp} {P : Addr} {nm : Nat → Nat → Str} (t : TabG G H P nm) (g : GSub G G') (h : ∀ o, H P = some o → H' P = some o) : TabG G' H' P nm := by
  obtain ⟨ps, a, b, c⟩ := t
  exact ⟨ps, h _ a, b, fun pos cv e => let ⟨x, e1, e2⟩ := c pos cv e; ⟨x, e1, g _ _ e2⟩⟩
abbrev Pr := V × D
inductive Reps (K : PySem.W.Frag) (G H : Hp) : List Pr → List Addr → Prop where
  | nil : Reps K G H [] []
  | un {v L fp} : Reps K G H L fp → Reps K G H ((v, .un) :: L) fp
  | non {L fp} : Reps K G H L fp → Reps K G H ((.non, .non) :: L) fp
  | bl {b L fp} : Reps K G H L fp → Reps K G H ((.bl b, .bl b) :: L) fp
  | int {i L fp} : Reps K G H L fp → Reps K G H ((.int i, .int i) :: L) fp
  | str {x L fp} : Reps K G H L fp → Reps K G H ((.str x, .str x) :: L) fp
  | vl {v L fp} : Reps K G H L fp → Reps K G H ((v, .vl v) :: L) fp
  | tup {p C vs ds f L fp} : G p = some (.tup vs) → C.map Prod.fst = vs → C.map Prod.snd = ds → Reps K G H C f → Reps K G H L fp → Reps K G H ((.ref p, .tup ds) :: L) (f ++ fp)
  | exn {p dd c fs kvs C ds L fp} : G p = some (exk p (.ref (He.ga K c)) dd) → (dd = none ∧ kvs = [] ∨ ∃ dx, dd = some dx ∧ G dx = some (.xd kvs)) → kvs.map Prod.fst = fs → C.map Prod.fst = kvs.map Prod.snd → C.map Prod.snd = ds → Reps K G H C [] → Reps K G H L fp → Reps K G H ((.ref p, .exn c fs ds) :: L) fp
  | hld {p u L fp} : HldOk u → H p = some u → Reps K G H L fp → Reps K G H ((.ref p, .hld u) :: L) (p :: fp)
  | con {p u L fp} : (∀ ps, u ≠ .tbl ps) → G p = some u → Reps K G H L fp → Reps K G H ((.ref p, .con u) :: L) fp
  | tab {p nm L fp} : TabG G H p nm → Reps K G H L fp → Reps K G H ((.ref p, .tab nm) :: L) (p :: fp)
  | of {p dx c fs kvs C ds L fp} : G p = some (.ins (He.ga K c) dx kvs) → G dx = some (.own p) → kvs.map Prod.fst = fs → C.map Prod.fst = kvs.map Prod.snd → C.map Prod.snd = ds → Reps K G H C [] → Reps K G H L fp → Reps K G H ((.ref p, .obj false c fs ds) :: L) fp
  | oo {p dx c fs kvs C ds f L fp} : H p = some (.ins (He.ga K c) dx kvs) → H dx = some (.own p) → kvs.map Prod.fst = fs → C.map Prod.fst = kvs.map Prod.snd → C.map Prod.snd = ds → Reps K G H C f → Reps K G H L fp → Reps K G H ((.ref p, .obj true c fs ds) :: L) (p :: dx :: (f ++ fp))
  | scr {p ns L fp} : SqL K G p (ns.map V.int) → Reps K G H L fp → Reps K G H ((.ref p, .scr ns) :: L) fp
  | lf {p C vs ds L fp} : G p = some (.lst vs) → C.map Prod.fst = vs → C.map Prod.snd = ds → Reps K G H C [] → Reps K G H L fp → Reps K G H ((.ref p, .lst false ds) :: L) fp
  | lo {p C vs ds f L fp} : H p = some (.lst vs) → C.map Prod.fst = vs → C.map Prod.snd = ds → Reps K G H C f → Reps K G H L fp → Reps K G H ((.ref p, .lst true ds) :: L) (p :: (f ++ fp))
  | kf {p C ks ds kvs L fp} : G p = some (.dK kvs) → kvs.map Prod.fst = ks → C.map Prod.fst = kvs.map Prod.snd → C.map Prod.snd = ds → Reps K G H C [] → Reps K G H L fp → Reps K G H ((.ref p, .dic false ks ds) :: L) fp
  | ko {p C ks ds kvs f L fp} : H p = some (.dK kvs) → kvs.map Prod.fst = ks → C.map Prod.fst = kvs.map Prod.snd → C.map Prod.snd = ds → Reps K G H C f → Reps K G H L fp → Reps K G H ((.ref p, .dic true ks ds) :: L) (p :: (f ++ fp))
  | tf {p C ks ds kvs L fp} : G p = some (.dT kvs) → kvs.map Prod.fst = ks → C.map Prod.fst = kvs.map Prod.snd → C.map Prod.snd = ds → Reps K G H C [] → Reps K G H L fp → Reps K G H ((.ref p, .dtk false ks ds) :: L) fp
  | to {p C ks ds kvs f L fp} : H p = some (.dT kvs) → kvs.map Prod.fst = ks → C.map Prod.fst = kvs.map Prod.snd → C.map Prod.snd = ds → Reps K G H C f → Reps K G H L fp → Reps K G H ((.ref p, .dtk true ks ds) :: L) (p :: (f ++ fp))
section
variable {K : PySem.W.Frag} {G G' H H' : Hp}
theorem Reps.mono {L : List Pr} {fp : List Addr} (r : Reps K G H L fp) (g : GSub G G') (h : ∀ a o, a ∈ fp → H a = some o → H' a = some o) : Reps K G' H' L fp := by
  induction r with
  | nil => exact .nil
  | un _ ih => exact .un (ih h)
  | non _ ih => exact .non (ih h)
  | bl _ ih => exact .bl (ih h)
  | int _ ih => exact .int (ih h)
  | str _ ih => exact .str (ih h)
  | vl _ ih => exact .vl (ih h)
  | hld q a _ ih => exact .hld q (h _ _ List.mem_cons_self a) (ih fun a o m => h a o (List.mem_cons_of_mem _ m))
  | con q a _ ih => exact .con q (g _ _ a) (ih h)
  | tab a _ ih => exact .tab (a.mono g fun o e => h _ _ List.mem_cons_self e) (ih fun a o m => h a o (List.mem_cons_of_mem _ m))
  | of a a2 e b c _ _ ih1 ih2 => exact .of (g _ _ a) (g _ _ a2) e b c (ih1 fun a o m => nomatch m) (ih2 h)
  | oo a a2 e b c _ _ ih1 ih2 => exact .oo (h _ _ (List.mem_cons_self) a) (h _ _ (List.mem_cons_of_mem _ List.mem_cons_self) a2) e b c (ih1 fun a o m => h a o (List.mem_cons_of_mem _ (List.mem_cons_of_mem _ (List.mem_append_left _ m)))) (ih2 fun a o m => h a o (List.mem_cons_of_mem _ (List.mem_cons_of_mem _ (List.mem_append_right _ m))))
  | scr a _ ih => exact .scr (sqL_mono g a) (ih h)
  | tup a b c _ _ ih1 ih2 => exact .tup (g _ _ a) b c (ih1 fun a o m => h a o (List.mem_append_left _ m)) (ih2 fun a o m => h a o (List.mem_append_right _ m))
  | exn a a2 e b c _ _ ih1 ih2 => exact .exn (g _ _ a) (a2.imp id fun ⟨dx, e1, e2⟩ => ⟨dx, e1, g _ _ e2⟩) e b c (ih1 fun a o m => nomatch m) (ih2 h)
  | lf a b c _ _ ih1 ih2 => exact .lf (g _ _ a) b c (ih1 fun a o m => nomatch m) (ih2 h)
  | lo a b c _ _ ih1 ih2 => exact .lo (h _ _ (List.mem_cons_self) a) b c (ih1 fun a o m => h a o (List.mem_cons_of_mem _ (List.mem_append_left _ m))) (ih2 fun a o m => h a o (List.mem_cons_of_mem _ (List.mem_append_right _ m)))
  | kf a e b c _ _ ih1 ih2 => exact .kf (g _ _ a) e b c (ih1 fun a o m => nomatch m) (ih2 h)
  | ko a e b c _ _ ih1 ih2 => exact .ko (h _ _ (List.mem_cons_self) a) e b c (ih1 fun a o m => h a o (List.mem_cons_of_mem _ (List.mem_append_left _ m))) (ih2 fun a o m => h a o (List.mem_cons_of_mem _ (List.mem_append_right _ m)))
  | tf a e b c _ _ ih1 ih2 => exact .tf (g _ _ a) e b c (ih1 fun a o m => nomatch m) (ih2 h)
  | to a e b c _ _ ih1 ih2 => exact .to (h _ _ (List.mem_cons_self) a) e b c (ih1 fun a o m => h a o (List.mem_cons_of_mem _ (List.mem_append_left _ m))) (ih2 fun a o m => h a o (List.mem_cons_of_mem _ (List.mem_append_right _ m)))
theorem Reps.append {L L' : List Pr} {fp fp' : List Addr} (r : Reps K G H L fp) (r' : Reps K G H L' fp') : Reps K G H (L ++ L') (fp ++ fp') := by
  induction r with
  | nil => exact r'
  | un _ ih => exact .un ih
  | non _ ih => exact .non ih
  | bl _ ih => exact .bl ih
  | int _ ih => exact .int ih
  | str _ ih => exact .str ih
  | vl _ ih => exact .vl ih
  | hld q a _ ih => exact .hld q a ih
  | con q a _ ih => exact .con q a ih
  | tab a _ ih => exact .tab a ih
  | of a a2 e b c r1 _ _ ih2 => exact .of a a2 e b c r1 ih2
  | oo a a2 e b c r1 _ _ ih2 => have q := Reps.oo (G := G) a a2 e b c r1 ih2; rw [← List.append_assoc] at q; exact q
  | scr a _ ih => exact .scr a ih
  | tup a b c r1 _ _ ih2 => rw [List.append_assoc]; exact .tup a b c r1 ih2
  | exn a a2 e b c r1 _ _ ih2 => exact .exn a a2 e b c r1 ih2
  | lf a b c r1 _ _ ih2 => exact .lf a b c r1 ih2
  | lo a b c r1 _ _ ih2 => have q := Reps.lo (G := G) a b c r1 ih2; rw [← List.append_assoc] at q; exact q
  | kf a e b c r1 _ _ ih2 => exact .kf a e b c r1 ih2
  | ko a e b c r1 _ _ ih2 => have q := Reps.ko (G := G) a e b c r1 ih2; rw [← List.append_assoc] at q; exact q
  | tf a e b c r1 _ _ ih2 => exact .tf a e b c r1 ih2
  | to a e b c r1 _ _ ih2 => have q := Reps.to (G := G) a e b c r1 ih2; rw [← List.append_assoc] at q; exact q
theorem Reps.uncons {x : Pr} {L : List Pr} {fp : List Addr} (r : Reps K G H (x :: L) fp) : ∃ f1 f2, fp = f1 ++ f2 ∧ Reps K G H [x] f1 ∧ Reps K G H L f2 := by
  cases r with
  | un r => exact ⟨[], _, rfl, .un .nil, r⟩
  | non r => exact ⟨[], _, rfl, .non .nil, r⟩
  | bl r => exact ⟨[], _, rfl, .bl .nil, r⟩
  | int r => exact ⟨[], _, rfl, .int .nil, r⟩
  | str r => exact ⟨[], _, rfl, .str .nil, r⟩
  | vl r => exact ⟨[], _, rfl, .vl .nil, r⟩
  | hld q a r => exact ⟨[_], _, rfl, .hld q a .nil, r⟩
  | con q a r => exact ⟨[], _, rfl, .con q a .nil, r⟩
  | tab a r => exact ⟨[_], _, rfl, .tab a .nil, r⟩
  | of a a2 e b c r1 r => exact ⟨[], _, rfl, .of a a2 e b c r1 .nil, r⟩
  | oo a a2 e b c r1 r => exact ⟨_ :: _ :: _, _, rfl, by have := Reps.oo (G := G) a a2 e b c r1 (.nil (K := K) (G := G) (H := H)); rwa [List.append_nil] at this, r⟩
  | scr a r => exact ⟨[], _, rfl, .scr a .nil, r⟩
  | tup a b c r1 r => exact ⟨_, _, rfl, by have := Reps.tup a b c r1 (.nil (K := K) (G := G) (H := H)); rwa [List.append_nil] at this, r⟩
  | exn a a2 e b c r1 r => exact ⟨[], _, rfl, .exn a a2 e b c r1 .nil, r⟩
  | lf a b c r1 r => exact ⟨[], _, rfl, .lf a b c r1 .nil, r⟩
  | lo a b c r1 r => exact ⟨_ :: _, _, rfl, by have := Reps.lo (G := G) a b c r1 (.nil (K := K) (G := G) (H := H)); rwa [List.append_nil] at this, r⟩
  | kf a e b c r1 r => exact ⟨[], _, rfl, .kf a e b c r1 .nil, r⟩
  | ko a e b c r1 r => exact ⟨_ :: _, _, rfl, by have := Reps.ko (G := G) a e b c r1 (.nil (K := K) (G := G) (H := H)); rwa [List.append_nil] at this, r⟩
  | tf a e b c r1 r => exact ⟨[], _, rfl, .tf a e b c r1 .nil, r⟩
  | to a e b c r1 r => exact ⟨_ :: _, _, rfl, by have := Reps.to (G := G) a e b c r1 (.nil (K := K) (G := G) (H := H)); rwa [List.append_nil] at this, r⟩
theorem Reps.cons {x : Pr} {L : List Pr} {f1 f2 : List Addr} (r1 : Reps K G H [x] f1) (r2 : Reps K G H L f2) : Reps K G H (x :: L) (f1 ++ f2) := r1.append r2
theorem Reps.unappend : ∀ {L L' : List Pr} {fp : List Addr}, Reps K G H (L ++ L') fp → ∃ f1 f2, fp = f1 ++ f2 ∧ Reps K G H L f1 ∧ Reps K G H L' f2
  | [], L', fp, r => ⟨[], fp, rfl, .nil, r⟩
  | x :: L, L', fp, r => by
    obtain ⟨f1, f2, rfl, r1, r2⟩ := Reps.uncons (L := L ++ L') r
    obtain ⟨f3, f4, rfl, r3, r4⟩ := Reps.unappend r2
    exact ⟨f1 ++ f3, f4, by rw [List.append_assoc], r1.cons r3, r4⟩
theorem Reps.perm {L L' : List Pr} (p : L.Perm L') : ∀ {fp : List Addr}, Reps K G H L fp → ∃ fp', fp.Perm fp' ∧ Reps K G H L' fp' := by
  induction p with
  | nil => intro fp r; exact ⟨fp, .refl _, r⟩
  | cons x _ ih =>
    intro fp r
    obtain ⟨f1, f2, rfl, r1, r2⟩ := r.uncons
    obtain ⟨f3, p3, r3⟩ := ih r2
    exact ⟨f1 ++ f3, p3.append_left f1, r1.cons r3⟩
  | swap x y l =>
    intro fp r
    obtain ⟨f1, f2, rfl, r1, r2⟩ := r.uncons
    obtain ⟨f3, f4, rfl, r3, r4⟩ := r2.uncons
    refine ⟨f3 ++ (f1 ++ f4), ?_, r3.cons (r1.cons r4)⟩
    rw [← List.append_assoc, ← List.append_assoc]
    exact List.Perm.append_right _ List.perm_append_comm
  | trans _ _ ih1 ih2 =>
    intro fp r
    obtain ⟨f1, p1, r1⟩ := ih1 r
    obtain ⟨f2, p2, r2⟩ := ih2 r1
    exact ⟨f2, p1.trans p2, r2⟩
theorem Reps.freeze {L : List Pr} {fp : List Addr} (r : Reps K G H L fp) (g : GSub G G') (h : ∀ a o, a ∈ fp → H a = some o → G' a = some o) : Reps K G' H (L.map fun x => (x.1, x.2.frz)) [] := by
  have mp1 : ∀ {C : List Pr} {vs : List V}, C.map Prod.fst = vs → (C.map fun x : Pr => (x.1, x.2.frz)).map Prod.fst = vs := fun {C vs} e => by
    rw [← e, List.map_map]; rfl
  have mp2 : ∀ {C : List Pr} {ds : List D}, C.map Prod.snd = ds → (C.map fun x : Pr => (x.1, x.2.frz)).map Prod.snd = D.frzs ds := fun {C ds} e => by
    rw [← e, List.map_map, D.frzs_map, List.map_map]; rfl
  induction r with
  | nil => exact .nil
  | un _ ih => exact .un (ih h)
  | non _ ih => exact .non (ih h)
  | bl _ ih => exact .bl (ih h)
  | int _ ih => exact .int (ih h)
  | str _ ih => exact .str (ih h)
  | vl _ ih => exact .vl (ih h)
  | hld q a _ ih => exact .un (ih fun a o m => h a o (List.mem_cons_of_mem _ m))
  | con q a _ ih => exact .con q (g _ _ a) (ih h)
  | tab a _ ih => exact .un (ih fun a o m => h a o (List.mem_cons_of_mem _ m))
  | of a a2 e b c _ _ ih1 ih2 => exact .of (g _ _ a) (g _ _ a2) e (mp1 b) (mp2 c) (ih1 fun a o m => nomatch m) (ih2 h)
  | oo a a2 e b c _ _ ih1 ih2 => exact .of (h _ _ (List.mem_cons_self) a) (h _ _ (List.mem_cons_of_mem _ List.mem_cons_self) a2) e (mp1 b) (mp2 c) (ih1 fun a o m => h a o (List.mem_cons_of_mem _ (List.mem_cons_of_mem _ (List.mem_append_left _ m)))) (ih2 fun a o m => h a o (List.mem_cons_of_mem _ (List.mem_cons_of_mem _ (List.mem_append_right _ m))))
  | scr a _ ih => exact .scr (sqL_mono g a) (ih h)
  | tup a b c _ _ ih1 ih2 => exact Reps.tup (f := []) (g _ _ a) (mp1 b) (mp2 c) (ih1 fun a o m => h a o (List.mem_append_left _ m)) (ih2 fun a o m => h a o (List.mem_append_right _ m))
  | exn a a2 e b c _ _ ih1 ih2 => exact .exn (g _ _ a) (a2.imp id fun ⟨dx, e1, e2⟩ => ⟨dx, e1, g _ _ e2⟩) e (mp1 b) (mp2 c) (ih1 fun a o m => nomatch m) (ih2 h)
  | lf a b c _ _ ih1 ih2 => exact .lf (g _ _ a) (mp1 b) (mp2 c) (ih1 fun a o m => nomatch m) (ih2 h)
  | lo a b c _ _ ih1 ih2 => exact .lf (h _ _ (List.mem_cons_self) a) (mp1 b) (mp2 c) (ih1 fun a o m => h a o (List.mem_cons_of_mem _ (List.mem_append_left _ m))) (ih2 fun a o m => h a o (List.mem_cons_of_mem _ (List.mem_append_right _ m)))
  | kf a e b c _ _ ih1 ih2 => exact .kf (g _ _ a) e (mp1 b) (mp2 c) (ih1 fun a o m => nomatch m) (ih2 h)
  | ko a e b c _ _ ih1 ih2 => exact .kf (h _ _ (List.mem_cons_self) a) e (mp1 b) (mp2 c) (ih1 fun a o m => h a o (List.mem_cons_of_mem _ (List.mem_append_left _ m))) (ih2 fun a o m => h a o (List.mem_cons_of_mem _ (List.mem_append_right _ m)))
  | tf a e b c _ _ ih1 ih2 => exact .tf (g _ _ a) e (mp1 b) (mp2 c) (ih1 fun a o m => nomatch m) (ih2 h)
  | to a e b c _ _ ih1 ih2 => exact .tf (h _ _ (List.mem_cons_self) a) e (mp1 b) (mp2 c) (ih1 fun a o m => h a o (List.mem_cons_of_mem _ (List.mem_append_left _ m))) (ih2 fun a o m => h a o (List.mem_cons_of_mem _ (List.mem_append_right _ m)))
end
def Joint (K : PySem.W.Frag) (H : Hp) (L : List Pr) : Prop :=
  ∃ G fp, GSub G H ∧ Reps K G H L fp ∧ fp.Nodup ∧ ∀ a ∈ fp, G a = none
section
variable {K : PySem.W.Frag} {H H' : Hp} {L L' : List Pr} {x : Pr}
theorem Joint.perm (p : L.Perm L') (j : Joint K H L) : Joint K H L' := by
  obtain ⟨G, fp, g, r, n, z⟩ := j
  obtain ⟨fp', pp, r'⟩ := r.perm p
  exact ⟨G, fp', g, r', pp.nodup_iff.mp n, fun a h => z a (pp.mem_iff.mpr h)⟩
theorem Joint.drop (j : Joint K H (x :: L)) : Joint K H L := by
  obtain ⟨G, fp, g, r, n, z⟩ := j
  obtain ⟨f1, f2, rfl, r1, r2⟩ := r.uncons
  exact ⟨G, f2, g, r2, (List.nodup_append.mp n).2.1, fun a h => z a (List.mem_append_right _ h)⟩
theorem Joint.ext (j : Joint K H L) (e : ∀ a o, H a = some o → H' a = some o) : Joint K H' L := by
  obtain ⟨G, fp, g, r, n, z⟩ := j
  exact ⟨G, fp, g.trans e, r.mono .refl fun a o _ h => e a o h, n, z⟩
theorem Joint.new {p : Addr} {o : HO} (j : Joint K H L) (h : H p = none) : Joint K (upd H p o) L :=
  j.ext fun a u e => by rw [upd_ne (ne_of_none e h)]; exact e
theorem Joint.freeze {v : V} {d : D} (j : Joint K H ((v, d) :: L)) : Joint K H ((v, d.frz) :: (v, d.frz) :: L) := by
  obtain ⟨G, fp, g, r, n, z⟩ := j
  obtain ⟨f1, f2, rfl, r1, r2⟩ := r.uncons
  obtain ⟨n1, n2, n3⟩ := List.nodup_append.mp n
  let G' : Hp := fun a => if a ∈ f1 then H a else G a
  have gg : GSub G G' := fun a o e => by
    show (if a ∈ f1 then H a else G a) = some o
    split
    · exact g a o e
    · exact e
  have gH : GSub G' H := fun a o e => by
    have e : (if a ∈ f1 then H a else G a) = some o := e
    split at e
    · exact e
    · exact g a o e
  have fr : Reps K G' H [(v, d.frz)] [] := r1.freeze gg fun a o m e => by
    show (if a ∈ f1 then H a else G a) = some o
    rw [if_pos m]; exact e
  refine ⟨G', f2, gH, fr.cons (fr.cons (r2.mono gg fun _ _ _ h => h)), n2, fun a m => ?_⟩
  show (if a ∈ f1 then H a else G a) = none
  rw [if_neg (fun q => n3 a q a m rfl)]
  exact z a (List.mem_append_right _ m)
theorem Joint.nil : Joint K H [] := ⟨fun _ => none, [], (fun _ _ e => by cases e), Reps.nil, List.nodup_nil, (fun _ m => by cases m)⟩
theorem Joint.un {v : V} (j : Joint K H L) : Joint K H ((v, .un) :: L) := by
  obtain ⟨G, fp, g, r, n, z⟩ := j
  exact ⟨G, fp, g, .un r, n, z⟩
theorem Joint.dropL : ∀ {L1 : List Pr}, Joint K H (L1 ++ L) → Joint K H L
  | [], j => j
  | _ :: _, j => (Joint.drop j).dropL
end
end WF
namespace WF
open PySem PySem.Spec PyProof.Rows L2
structure Xn where
  C : Str
  fs : List (Str × D)
inductive Out where
  | ok (d : D)
  | ex (x : Xn)
abbrev S0 := List D
abbrev EM := S0 → Option (Out × S0)
def retM (d : D) : EM := fun S => some (.ok d, S)
def optM (o : Option D) : EM := fun S => match o with
  | some d => some (.ok d, S)
  | none => none
def bindM (fa : EM) (g : D → EM) : EM := fun S => match fa S with
  | some (.ok d, S') => g d S'
  | some (.ex x, S') => some (.ex x, S')
  | none => none
structure Cfg where
  K : PySem.W.Frag
  PV : List (Option (Option V))
  rs : List Pr
  W : WX
def slotL (σ : L2.St) (S : S0) : List Pr := (σ.map (·.getD .non)).zip S
structure SJ (c : Cfg) (S : S0) (tm : List Pr) (σ : L2.St) (H : Hp) : Prop where
  len : σ.length = S.length
  set : ∀ (i : Nat) d, S[i]? = some d → d ≠ .un → ∃ v, σ[i]? = some (some v)
  pv : ∀ (i : Nat) o, c.PV[i]? = some (some o) → σ[i]? = some o
  lp : c.PV.length = σ.length
  jt : Joint c.K H (slotL σ S ++ (tm ++ c.rs))
def XJ (c : Cfg) (x : Xn) (S : S0) (cls : Value) (dd : Option Addr) (σ : L2.St) (H : Hp) : Prop :=
  ∃ fv : List Pr, cls = .ref (He.ga c.K x.C) ∧ fv.map Prod.snd = x.fs.map Prod.snd ∧ ((dd = none ∧ fv = []) ∨ ∃ dx, dd = some dx ∧ H dx = some (.xd ((x.fs.map Prod.fst).zip (fv.map Prod.fst)))) ∧ SJ c S fv σ H
def post (c : Cfg) (o : Option (Out × S0)) (tm : List Pr) (σ : L2.St) (Q : VK) : Prop := match o with
  | some (.ok d, S) => ∀ v H, SJ c S ((v, d) :: tm) σ H → Q v H
  | some (.ex x, S) => ∀ cls dd H, XJ c x S cls dd σ H → c.W cls dd σ H
  | none => False
def T (c : Cfg) (f : EM) : TE := fun σ H Q => ∃ S tm, SJ c S tm σ H ∧ post c (f S) tm σ Q
section
variable {c : Cfg} {S : S0} {tm : List Pr} {σ : L2.St} {H H' : Hp} {x : Pr} {X : Cx}
theorem perm_take {A B : List Pr} : (A ++ (x :: B)).Perm (x :: (A ++ B)) := List.perm_middle
theorem perm_sw {A B C : List Pr} : (A ++ (B ++ C)).Perm (B ++ (A ++ C)) := by
  rw [← List.append_assoc, ← List.append_assoc]
  exact List.Perm.append_right _ List.perm_append_comm
theorem SJ.take (j : SJ c S (x :: tm) σ H) : Joint c.K H (x :: (slotL σ S ++ (tm ++ c.rs))) := j.jt.perm perm_take
theorem SJ.put {tm' : List Pr} (j : SJ c S tm' σ H) (k : Joint c.K H' (x :: (slotL σ S ++ (tm ++ c.rs)))) : SJ c S (x :: tm) σ H' := ⟨j.len, j.set, j.pv, j.lp, k.perm perm_take.symm⟩
theorem SJ.with {tm' : List Pr} (j : SJ c S tm' σ H) (k : Joint c.K H' (slotL σ S ++ (tm ++ c.rs))) : SJ c S tm σ H' := ⟨j.len, j.set, j.pv, j.lp, k⟩
theorem SJ.drop (j : SJ c S (x :: tm) σ H) : SJ c S tm σ H := j.with j.take.drop
theorem SJ.dropL : ∀ {ex : List Pr}, SJ c S (ex ++ tm) σ H → SJ c S tm σ H
  | [], j => j
  | _ :: _, j => (SJ.drop j).dropL
theorem SJ.ext (j : SJ c S tm σ H) (e : ∀ a o, H a = some o → H' a = some o) : SJ c S tm σ H' := j.with (j.jt.ext e)
theorem pe_mono {e : Expr} {t t' : TE} (h : PE X e t) (hi : ∀ σ H Q, t' σ H Q → t σ H Q) : PE X e t' := ⟨fun pins s σ H Q I w => h.run pins s σ H Q I (hi σ H Q w)⟩
theorem pt_mono {e : Expr} {t t' : TT} (h : PT X e t) (hi : ∀ σ H Q, t' σ H Q → t σ H Q) : PT X e t' := ⟨fun pins s σ H Q I w => h.run pins s σ H Q I (hi σ H Q w)⟩
theorem ps_mono {e : Stmt} {t t' : TS} (h : PS X e t) (hi : ∀ D σ H, t' D σ H → t D σ H) : PS X e t' := ⟨fun pins s σ H D I w => h.run pins s σ H D I (hi D σ H w)⟩
theorem pss_mono {e : List Stmt} {t t' : TS} (h : PSs X e t) (hi : ∀ D σ H, t' D σ H → t D σ H) : PSs X e t' := ⟨fun pins s σ H D I w => h.run pins s σ H D I (hi D σ H w)⟩
theorem post_bind {fa : EM} {g : D → EM} {tm0 : List Pr} {Q : VK} (j : SJ c S tm σ H) (p : post c (bindM fa g S) tm0 σ Q) :
    T c fa σ H (fun v H1 => ∃ d S', SJ c S' ((v, d) :: tm) σ H1 ∧ post c (g d S') tm0 σ Q) := by
  refine ⟨S, tm, j, ?_⟩
  unfold bindM at p
  cases h : fa S with
  | none => rw [h] at p; exact p.elim
  | some o =>
    obtain ⟨o, S'⟩ := o
    cases o with
    | ok d => rw [h] at p; exact fun v H' j' => ⟨d, S', j', p⟩
    | ex x => rw [h] at p; exact p
theorem post_opt {o : Option D} {Q : VK} (p : post c (optM o S) tm σ Q) : ∃ d, o = some d ∧ ∀ v H, SJ c S ((v, d) :: tm) σ H → Q v H := by
  unfold optM at p
  cases o with
  | none => exact p.elim
  | some d => exact ⟨d, rfl, p⟩
theorem T.mono {f : EM} {Q Q' : VK} (h : T c f σ H Q) (q : ∀ v H, Q v H → Q' v H) : T c f σ H Q' := by
  obtain ⟨S, tm, j, p⟩ := h
  refine ⟨S, tm, j, ?_⟩
  unfold post at p ⊢
  split at p
  · exact fun v H j => q v H (p v H j)
  · exact p
  · exact p
def Op2 (K : PySem.W.Frag) (r : R2) (op : D → D → Option D) : Prop := ∀ H (R : List Pr) v1 v2 d1 d2 d (Q : VK), op d1 d2 = some d → Joint K H ((v2, d2) :: (v1, d1) :: R) → (∀ v H', Joint K H' ((v, d) :: R) → Q v H') → r v1 v2 H Q
def Op1 (K : PySem.W.Frag) (r : V → Hp → VK → Prop) (op : D → Option D) : Prop := ∀ H (R : List Pr) v1 d1 d (Q : VK), op d1 = some d → Joint K H ((v1, d1) :: R) → (∀ v H', Joint K H' ((v, d) :: R) → Q v H') → r v1 H Q
def binM (op : D → D → Option D) (fa fb : EM) : EM := bindM fa fun x => bindM fb fun y => optM (op x y)
def unM (op : D → Option D) (fa : EM) : EM := bindM fa fun x => optM (op x)
theorem t_op2 {r : R2} {op : D → D → Option D} {fa fb : EM} {Q : VK} (hs : Op2 c.K r op) (h : T c (binM op fa fb) σ H Q) : tOp r (T c fa) (T c fb) σ H Q := by
  obtain ⟨S, tm, j, p⟩ := h
  refine (post_bind j p).mono fun v1 H1 ⟨d1, S1, j1, p1⟩ => ?_
  refine (post_bind j1 p1).mono fun v2 H2 ⟨d2, S2, j2, p2⟩ => ?_
  obtain ⟨d, e, q⟩ := post_opt p2
  exact hs _ _ _ _ _ _ _ _ e (j2.take.perm ((List.Perm.cons _ perm_take))) fun v H' k => q v H' (j2.put k)
theorem t_op1 {r : V → Hp → VK → Prop} {op : D → Option D} {fa : EM} {Q : VK} (hs : Op1 c.K r op) (h : T c (unM op fa) σ H Q) : tUn r (T c fa) σ H Q := by
  obtain ⟨S, tm, j, p⟩ := h
  refine (post_bind j p).mono fun v1 H1 ⟨d1, S1, j1, p1⟩ => ?_
  obtain ⟨d, e, q⟩ := post_opt p1
  exact hs _ _ _ _ _ _ e j1.take fun v H' k => q v H' (j1.put k)
variable {a b e : Expr} {fa fb fe : EM} {pos : Pos}
theorem w_bin {o : Operator} {r : R2} {op : D → D → Option D} (ho : OpR X (binaryOp o) r) (hs : Op2 c.K r op) (ha : PE X a (T c fa)) (hb : PE X b (T c fb)) : PE X (.BinOp a o b pos) (T c (binM op fa fb)) :=
  pe_mono (pe_op ho ha hb) fun _ _ _ h => t_op2 hs h
theorem w_un {o : UnaryOp} {r : V → Hp → VK → Prop} {op : D → Option D} (ho : UnR X (unaryOp o) r) (hs : Op1 c.K r op) (ha : PE X a (T c fa)) : PE X (.UnaryOp o a pos) (T c (unM op fa)) :=
  pe_mono (pe_un ho ha) fun _ _ _ h => t_op1 hs h
theorem post_ret {d : D} {v : V} {Q : VK} (j : SJ c S tm σ H) (hr : ∀ R, Joint c.K H R → Joint c.K H ((v, d) :: R)) (p : post c (retM d S) tm σ Q) : Q v H := p v H (j.put (hr _ j.jt))
theorem w_c {v : V} {d : D} (he : PE X e (tC v)) (hr : ∀ H R, Joint c.K H R → Joint c.K H ((v, d) :: R)) : PE X e (T c (retM d)) :=
  pe_mono he fun σ H Q h => let ⟨S, tm, j, p⟩ := h; post_ret j (hr H) p
theorem j_int {i : Int} (H : Hp) (R : List Pr) (j : Joint c.K H R) : Joint c.K H ((.int i, .int i) :: R) := let ⟨G, fp, g, r, n, z⟩ := j; ⟨G, fp, g, .int r, n, z⟩
theorem j_bl {i : Bool} (H : Hp) (R : List Pr) (j : Joint c.K H R) : Joint c.K H ((.bl i, .bl i) :: R) := let ⟨G, fp, g, r, n, z⟩ := j; ⟨G, fp, g, .bl r, n, z⟩
theorem j_non (H : Hp) (R : List Pr) (j : Joint c.K H R) : Joint c.K H ((.non, .non) :: R) := let ⟨G, fp, g, r, n, z⟩ := j; ⟨G, fp, g, .non r, n, z⟩
theorem j_vl {v : V} (H : Hp) (R : List Pr) (j : Joint c.K H R) : Joint c.K H ((v, .vl v) :: R) := let ⟨G, fp, g, r, n, z⟩ := j; ⟨G, fp, g, .vl r, n, z⟩
theorem w_int {i : Int} {k} : PE X (.Constant (.int i) k pos) (T c (retM (.int i))) := w_c pe_int j_int
theorem w_bl {i : Bool} {k} : PE X (.Constant (.bool i) k pos) (T c (retM (.bl i))) := w_c pe_bl j_bl
theorem w_non {k} : PE X (.Constant .none k pos) (T c (retM .non)) := w_c pe_non j_non
theorem slot_get : ∀ {σ : L2.St} {S : S0} {i : Nat} {v : V} {d : D}, σ[i]? = some (some v) → S[i]? = some d → σ.length = S.length → ∃ Z, (slotL σ S).Perm ((v, d) :: Z) ∧ (∀ d', (slotL σ (S.set i d')).Perm ((v, d') :: Z)) ∧ ∀ v' d', (slotL (σ.set i (some v')) (S.set i d')).Perm ((v', d') :: Z)
  | o :: σ, e :: S, 0, v, d, h1, h2, _ => by
    simp at h1 h2
    subst h1 h2
    exact ⟨slotL σ S, .refl _, fun _ => .refl _, fun _ _ => .refl _⟩
  | o :: σ, e :: S, i + 1, v, d, h1, h2, hl => by
    obtain ⟨Z, p1, p2, p3⟩ := slot_get (σ := σ) (S := S) (i := i) (by simpa using h1) (by simpa using h2) (by simpa using hl)
    have sw : ∀ {x y : Pr} {A : List Pr}, A.Perm (x :: Z) → (y :: A).Perm (x :: y :: Z) := fun p => (List.Perm.cons _ p).trans (List.Perm.swap _ _ _)
    exact ⟨(o.getD .non, e) :: Z, sw p1, fun d' => sw (p2 d'), fun v' d' => sw (p3 v' d')⟩
  | [], _, _, _, _, h1, _, _ => by simp at h1
  | _ :: _, [], _, _, _, _, h2, _ => by simp at h2
theorem slot_set : ∀ {σ : L2.St} {S : S0} {i : Nat}, i < S.length → σ.length = S.length → ∃ Z v0 d0, (slotL σ S).Perm ((v0, d0) :: Z) ∧ (∀ v' d', (slotL (σ.set i (some v')) (S.set i d')).Perm ((v', d') :: Z))
  | o :: σ, e :: S, 0, _, _ => ⟨slotL σ S, o.getD .non, e, .refl _, fun _ _ => .refl _⟩
  | o :: σ, e :: S, i + 1, hi, hl => by
    obtain ⟨Z, v0, d0, p1, p3⟩ := slot_set (σ := σ) (S := S) (i := i) (by simpa using hi) (by simpa using hl)
    have sw : ∀ {x y : Pr} {A : List Pr}, A.Perm (x :: Z) → (y :: A).Perm (x :: y :: Z) := fun p => (List.Perm.cons _ p).trans (List.Perm.swap _ _ _)
    exact ⟨(o.getD .non, e) :: Z, v0, d0, sw p1, fun v' d' => sw (p3 v' d')⟩
  | [], [], _, h, _ => by simp at h
  | [], _ :: _, _, _, h => by simp at h
  | _ :: _, [], _, h, _ => by simp at h
def isUn : D → Bool
  | .un => true
  | _ => false
theorem isUn_ne {d : D} (h : isUn d = false) : d ≠ .un := fun e => by rw [e] at h; cases h
def varM (i : Nat) : EM := fun S => match S[i]? with
  | some d => if isUn d then none else some (.ok d.frz, S.set i d.frz)
  | none => none
theorem SJ.get {i : Nat} {d : D} (j : SJ c S tm σ H) (h : S[i]? = some d) (hu : isUn d = false) : ∃ v, σ[i]? = some (some v) ∧ ∃ Z, Joint c.K H ((v, d) :: Z) ∧
    ∀ (d' : D) (tm' : List Pr) H', Joint c.K H' ((v, d') :: (tm' ++ Z)) → SJ c (S.set i d') (tm' ++ tm) σ H' := by
  obtain ⟨v, e⟩ := j.set i d h (isUn_ne hu)
  obtain ⟨Z, p1, p2, _⟩ := slot_get e h j.len
  refine ⟨v, e, Z ++ (tm ++ c.rs), j.jt.perm (List.Perm.append_right _ p1), fun d' tm' H' k => ⟨?_, fun n u h' hn => ?_, j.pv, j.lp, ?_⟩⟩
  · rw [List.length_set]; exact j.len
  · by_cases hi : n = i
    · exact ⟨v, by rw [hi]; exact e⟩
    · rw [List.getElem?_set_ne (Ne.symm hi)] at h'
      exact j.set n u h' hn
  · refine k.perm ?_
    have e1 : ((v, d') :: (tm' ++ (Z ++ (tm ++ c.rs)))).Perm (((v, d') :: Z) ++ ((tm' ++ tm) ++ c.rs)) := by
      refine List.Perm.cons _ ?_
      rw [List.append_assoc tm' tm]
      exact perm_sw
    exact e1.trans (List.Perm.append_right _ (p2 d').symm)
theorem w_var {i : Nat} (he : PE X e (tVar i)) : PE X e (T c (varM i)) := by
  refine pe_mono he fun σ H Q h => ?_
  obtain ⟨S, tm, j, p⟩ := h
  unfold varM at p
  split at p
  · rename_i d hd
    split at p
    · exact p.elim
    · rename_i hu
      obtain ⟨v, ev, Z, k, put⟩ := j.get hd (by simpa using hu)
      refine ⟨v, ev, p v H ?_⟩
      have k2 := k.freeze
      exact put d.frz [(v, d.frz)] H k2
  · exact p.elim
end
end WF
namespace WF
open PySem PySem.Spec PyProof.Rows L2
section
variable {K : PySem.W.Frag} {G H H' : Hp} {L R : List Pr} {p : Addr} {vs : List V} {ds : List D}
theorem Reps.has {fp : List Addr} (r : Reps K G H L fp) : ∀ a ∈ fp, ∃ o, H a = some o := by
  induction r with
  | nil => intro a m; cases m
  | un _ ih => exact ih
  | non _ ih => exact ih
  | bl _ ih => exact ih
  | int _ ih => exact ih
  | str _ ih => exact ih
  | vl _ ih => exact ih
  | hld q h _ ih => intro a m; rcases List.mem_cons.mp m with rfl | m; exact ⟨_, h⟩; exact ih a m
  | con _ _ _ ih => exact ih
  | tab h _ ih => intro a m; rcases List.mem_cons.mp m with rfl | m; (obtain ⟨ps, h, _⟩ := h; exact ⟨_, h⟩); exact ih a m
  | of _ _ _ _ _ _ _ ih1 ih2 => exact ih2
  | oo h h2 _ _ _ _ _ ih1 ih2 => intro a m; rcases List.mem_cons.mp m with rfl | m; exact ⟨_, h⟩; rcases List.mem_cons.mp m with rfl | m; exact ⟨_, h2⟩; rcases List.mem_append.mp m with m | m; exact ih1 a m; exact ih2 a m
  | scr _ _ ih => exact ih
  | tup _ _ _ _ _ ih1 ih2 => intro a m; rcases List.mem_append.mp m with m | m; exact ih1 a m; exact ih2 a m
  | exn _ _ _ _ _ _ _ ih1 ih2 => exact ih2
  | lf _ _ _ _ _ ih1 ih2 => exact ih2
  | lo h _ _ _ _ ih1 ih2 => intro a m; rcases List.mem_cons.mp m with rfl | m; exact ⟨_, h⟩; rcases List.mem_append.mp m with m | m; exact ih1 a m; exact ih2 a m
  | kf _ _ _ _ _ _ ih1 ih2 => exact ih2
  | ko h _ _ _ _ _ ih1 ih2 => intro a m; rcases List.mem_cons.mp m with rfl | m; exact ⟨_, h⟩; rcases List.mem_append.mp m with m | m; exact ih1 a m; exact ih2 a m
  | tf _ _ _ _ _ _ ih1 ih2 => exact ih2
  | to h _ _ _ _ _ ih1 ih2 => intro a m; rcases List.mem_cons.mp m with rfl | m; exact ⟨_, h⟩; rcases List.mem_append.mp m with m | m; exact ih1 a m; exact ih2 a m
theorem zip_fst : ∀ {vs : List V} {ds : List D}, vs.length = ds.length → (vs.zip ds).map Prod.fst = vs
  | [], [], _ => rfl
  | v :: vs, d :: ds, h => by rw [List.zip_cons_cons, List.map_cons, zip_fst (by simpa using h)]
  | [], _ :: _, h => by simp at h
  | _ :: _, [], h => by simp at h
theorem zip_snd : ∀ {vs : List V} {ds : List D}, vs.length = ds.length → (vs.zip ds).map Prod.snd = ds
  | [], [], _ => rfl
  | v :: vs, d :: ds, h => by rw [List.zip_cons_cons, List.map_cons, zip_snd (by simpa using h)]
  | [], _ :: _, h => by simp at h
  | _ :: _, [], h => by simp at h
theorem zip_map : ∀ {C : List Pr}, (C.map Prod.fst).zip (C.map Prod.snd) = C
  | [] => rfl
  | x :: C => by rw [List.map_cons, List.map_cons, List.zip_cons_cons, zip_map]
theorem Joint.tup (hl : vs.length = ds.length) (j : Joint K H (vs.zip ds ++ R)) (h : H p = none) : Joint K (upd H p (.tup vs)) ((.ref p, .tup ds) :: R) := by
  obtain ⟨G, fp, g, r, n, z⟩ := j
  obtain ⟨f1, f2, rfl, r1, r2⟩ := r.unappend
  have hp : G p = none := by
    cases q : G p with
    | none => rfl
    | some o => rw [g p o q] at h; cases h
  have gg : GSub G (upd G p (.tup vs)) := fun a o e => by rw [upd_ne (ne_of_none e hp)]; exact e
  have hh : ∀ a o, H a = some o → upd H p (.tup vs) a = some o := fun a o e => by rw [upd_ne (ne_of_none e h)]; exact e
  refine ⟨upd G p (.tup vs), f1 ++ f2, fun a o e => ?_, .tup upd_same (zip_fst hl) (zip_snd hl) (r1.mono gg fun a o _ => hh a o) (r2.mono gg fun a o _ => hh a o), n, fun a m => ?_⟩
  · by_cases ha : a = p
    · subst ha; rw [upd_same] at e ⊢; exact e
    · rw [upd_ne ha] at e ⊢; exact g a o e
  · obtain ⟨o, ho⟩ := r.has a m
    rw [upd_ne (ne_of_none ho h)]
    exact z a m
theorem Joint.lst (hl : vs.length = ds.length) (j : Joint K H (vs.zip ds ++ R)) (h : H p = none) : Joint K (upd H p (.lst vs)) ((.ref p, .lst true ds) :: R) := by
  obtain ⟨G, fp, g, r, n, z⟩ := j
  obtain ⟨f1, f2, rfl, r1, r2⟩ := r.unappend
  have hp : G p = none := by
    cases q : G p with
    | none => rfl
    | some o => rw [g p o q] at h; cases h
  have hh : ∀ a o, H a = some o → upd H p (.lst vs) a = some o := fun a o e => by rw [upd_ne (ne_of_none e h)]; exact e
  refine ⟨G, p :: (f1 ++ f2), fun a o e => hh a o (g a o e), .lo upd_same (zip_fst hl) (zip_snd hl) (r1.mono .refl fun a o _ => hh a o) (r2.mono .refl fun a o _ => hh a o), List.nodup_cons.mpr ⟨fun m => ?_, n⟩, fun a m => ?_⟩
  · obtain ⟨o, ho⟩ := r.has p m
    rw [h] at ho; cases ho
  · rcases List.mem_cons.mp m with rfl | m
    · exact hp
    · exact z a m
theorem Joint.untup (j : Joint K H ((.ref p, .tup ds) :: R)) : ∃ vs, H p = some (.tup vs) ∧ vs.length = ds.length ∧ Joint K H (vs.zip ds ++ R) := by
  obtain ⟨G, fp, g, r, n, z⟩ := j
  cases r with
  | @tup p C vs ds f L fp a b e r1 r2 =>
    subst b e
    refine ⟨_, g _ _ a, by simp, G, _, g, ?_, n, z⟩
    rw [zip_map]
    exact r1.append r2
theorem Joint.unlst {o : Bool} (j : Joint K H ((.ref p, .lst o ds) :: R)) : ∃ vs, H p = some (.lst vs) ∧ vs.length = ds.length ∧ Joint K H (vs.zip ds ++ R) := by
  obtain ⟨G, fp, g, r, n, z⟩ := j
  cases r with
  | @lf p C vs ds L fp a b e r1 r2 =>
    subst b e
    refine ⟨_, g _ _ a, by simp, G, _, g, ?_, n, z⟩
    rw [zip_map]
    exact r1.append r2
  | @lo p C vs ds f L fp a b e r1 r2 =>
    subst b e
    refine ⟨_, a, by simp, G, _, g, ?_, (List.nodup_cons.mp n).2, fun a m => z a (List.mem_cons_of_mem _ m)⟩
    rw [zip_map]
    exact r1.append r2
theorem Joint.is_int {v : V} {i : Int} (j : Joint K H ((v, .int i) :: R)) : v = .int i := by
  obtain ⟨G, fp, g, r, n, z⟩ := j
  cases r; rfl
theorem Joint.is_bl {v : V} {i : Bool} (j : Joint K H ((v, .bl i) :: R)) : v = .bl i := by
  obtain ⟨G, fp, g, r, n, z⟩ := j
  cases r; rfl
theorem Joint.is_str {v : V} {i : Str} (j : Joint K H ((v, .str i) :: R)) : v = .str i := by
  obtain ⟨G, fp, g, r, n, z⟩ := j
  cases r; rfl
theorem Joint.is_non {v : V} (j : Joint K H ((v, .non) :: R)) : v = .non := by
  obtain ⟨G, fp, g, r, n, z⟩ := j
  cases r; rfl
theorem Joint.is_vl {v w : V} (j : Joint K H ((v, .vl w) :: R)) : v = w := by
  obtain ⟨G, fp, g, r, n, z⟩ := j
  cases r; rfl
theorem Joint.is_tup {v : V} (j : Joint K H ((v, .tup ds) :: R)) : ∃ p, v = .ref p := by
  obtain ⟨G, fp, g, r, n, z⟩ := j
  cases r; exact ⟨_, rfl⟩
theorem Joint.is_lst {v : V} {o : Bool} (j : Joint K H ((v, .lst o ds) :: R)) : ∃ p, v = .ref p := by
  obtain ⟨G, fp, g, r, n, z⟩ := j
  cases r <;> exact ⟨_, rfl⟩
end
def argsM : List EM → (List D → EM) → EM
  | [], g => g []
  | f :: fs, g => bindM f fun d => argsM fs fun ds => g (d :: ds)
def tArgs (c : Cfg) : List EM → TA
  | [] => tNil
  | f :: fs => tCons (T c f) (tArgs c fs)
section
variable {c : Cfg} {X : Cx}
theorem tArgs_mono : ∀ {fs : List EM} {σ : L2.St} {H : Hp} {Q Q' : List V → Hp → Prop}, tArgs c fs σ H Q → (∀ vs H, Q vs H → Q' vs H) → tArgs c fs σ H Q'
  | [], _, _, _, _, h, q => q _ _ h
  | f :: fs, _, _, _, _, h, q => T.mono h fun _ _ h2 => tArgs_mono h2 fun vs H h3 => q _ H h3
theorem SJ.perm {S : S0} {tm tm' : List Pr} {σ : L2.St} {H : Hp} (p : tm.Perm tm') (j : SJ c S tm σ H) : SJ c S tm' σ H := j.with (j.jt.perm (List.Perm.append_left _ (List.Perm.append_right _ p)))
theorem post_args : ∀ (fs : List EM) {g : List D → EM} {S : S0} {tm tm0 : List Pr} {σ : L2.St} {H : Hp} {Q : VK}, SJ c S tm σ H → post c (argsM fs g S) tm0 σ Q →
    tArgs c fs σ H (fun vs H1 => ∃ ds S', vs.length = ds.length ∧ ds.length = fs.length ∧ SJ c S' (vs.zip ds ++ tm) σ H1 ∧ post c (g ds S') tm0 σ Q)
  | [], _, S, _, _, _, _, _, j, p => ⟨[], S, rfl, rfl, j, p⟩
  | f :: fs, g, S, tm, tm0, σ, H, Q, j, p => by
    refine (post_bind (fa := f) j p).mono fun v H1 ⟨d, S1, j1, p1⟩ => ?_
    refine tArgs_mono (post_args fs j1 p1) fun vs H2 ⟨ds, S2, e1, e2, j2, p2⟩ => ?_
    exact ⟨d :: ds, S2, by simp [e1], by simp [e2], j2.perm perm_take, p2⟩
theorem wa_nil : PA X [] (tArgs c []) := pa_nil
theorem wa_cons {e : Expr} {es : List Expr} {f : EM} {fs : List EM} (h : PE X e (T c f)) (hr : PA X es (tArgs c fs)) (hs : starEach (e :: es) X.env = (false, eval e X.env) :: starEach es X.env := by rfl) : PA X (e :: es) (tArgs c (f :: fs)) := pa_cons h hr hs
def CallS (K : PySem.W.Frag) (r : List V → Hp → VK → Prop) (op : List D → Option D) : Prop := ∀ H (R : List Pr) vs ds d (Q : VK), vs.length = ds.length → op ds = some d → Joint K H (vs.zip ds ++ R) → (∀ v H', Joint K H' ((v, d) :: R) → Q v H') → r vs H Q
def cbM (op : List D → Option D) (fs : List EM) : EM := argsM fs fun ds => optM (op ds)
theorem t_cb {r : List V → Hp → VK → Prop} {op : List D → Option D} {fs : List EM} {σ : L2.St} {H : Hp} {Q : VK} (hs : CallS c.K r op) (h : T c (cbM op fs) σ H Q) : tCB r (tArgs c fs) σ H Q := by
  obtain ⟨S, tm, j, p⟩ := h
  refine tArgs_mono (post_args fs j p) fun vs H1 ⟨ds, S1, e1, e2, j1, p1⟩ => ?_
  obtain ⟨d, e, q⟩ := post_opt p1
  refine hs H1 (slotL σ S1 ++ (tm ++ c.rs)) vs ds d Q e1 e (j1.jt.perm ?_) fun v H' k => q v H' (j1.put k)
  rw [List.append_assoc]
  exact perm_sw
variable {x : Str} {id ty : String} {e : Expr} {es : List Expr} {fs : List EM} {r : List V → Hp → VK → Prop} {op : List D → Option D} {p pos : Pos}
theorem w_callB (hc : CallR X (.builtin id) r) (hs : CallS c.K r op) (hg : Gl X x) (hm : X.mg x = none) (hv : bootBuiltins x = some (.builtin id)) (ha : PA X (e :: es) (tArgs c fs)) (hn : x ≠ "__name__" := by decide) (hdb : (x == ("__debug__" : Str)) = false := by decide)
    (he : starEach (e :: es) X.env = (false, eval e X.env) :: starEach es X.env := by rfl) (hpl : (backTo pos (starEach es X.env)).any (·.1) = false := by rfl) : PE X (.Call (.Name x p) (e :: es) [] pos) (T c (cbM op fs)) :=
  pe_mono (pe_callB hc hg hm hv ha hn hdb he hpl) fun _ _ _ h => t_cb hs h
theorem w_callTy (hc : CallR X (.type ty) r) (hs : CallS c.K r op) (hg : Gl X x) (hm : X.mg x = none) (hv : bootBuiltins x = some (.type ty)) (ha : PA X (e :: es) (tArgs c fs)) (hn : x ≠ "__name__" := by decide) (hdb : (x == ("__debug__" : Str)) = false := by decide)
    (he : starEach (e :: es) X.env = (false, eval e X.env) :: starEach es X.env := by rfl) (hpl : (backTo pos (starEach es X.env)).any (·.1) = false := by rfl) : PE X (.Call (.Name x p) (e :: es) [] pos) (T c (cbM op fs)) :=
  pe_mono (pe_callTy hc hg hm hv ha hn hdb he hpl) fun _ _ _ h => t_cb hs h
def tupM (fs : List EM) : EM := argsM fs fun ds => retM (.tup ds)
def lstM (fs : List EM) : EM := argsM fs fun ds => retM (.lst true ds)
theorem w_tup {k} (ha : PA X es (tArgs c fs)) (hl : fs.length ≤ 1000 := by decide) : PE X (.Tuple es k pos) (T c (tupM fs)) := pe_mono (pe_tup ha) fun σ H Q h => by
  obtain ⟨S, tm, j, p⟩ := h
  refine tArgs_mono (post_args fs j p) fun vs H1 ⟨ds, S1, e1, e2, j1, p1⟩ => ⟨Nat.le_trans (by omega : vs.length ≤ 1000) (by decide), fun q hq => p1 _ _ (j1.put (Joint.tup e1 (j1.jt.perm ?_) hq))⟩
  rw [List.append_assoc]
  exact perm_sw
theorem w_lst (ha : PA X es (tArgs c fs)) (hl : fs.length ≤ 1000 := by decide) : PE X (.List es pos) (T c (lstM fs)) := pe_mono (pe_lst ha) fun σ H Q h => by
  obtain ⟨S, tm, j, p⟩ := h
  refine tArgs_mono (post_args fs j p) fun vs H1 ⟨ds, S1, e1, e2, j1, p1⟩ => ⟨Nat.le_trans (by omega : vs.length ≤ 1000) (by decide), fun q hq => p1 _ _ (j1.put (Joint.lst e1 (j1.jt.perm ?_) hq))⟩
  rw [List.append_assoc]
  exact perm_sw
end
inductive Fl where
  | nx | rt (d : D) | bk | ct | ex (x : Xn)
abbrev SM := S0 → Option (Fl × S0)
def postS (c : Cfg) (o : Option (Fl × S0)) (tm : List Pr) (E : Ends) : Prop := match o with
  | some (.nx, S) => ∀ σ H, SJ c S tm σ H → E.nx σ H
  | some (.rt d, S) => ∀ v σ H, SJ c S ((v, d) :: tm) σ H → E.rt v H
  | some (.bk, S) => ∀ σ H, SJ c S tm σ H → E.bk σ H
  | some (.ct, S) => ∀ σ H, SJ c S tm σ H → E.ct σ H
  | some (.ex x, S) => ∀ cls dd σ H, XJ c x S cls dd σ H → c.W cls dd σ H
  | none => False
def U (c : Cfg) (f : SM) : TS := fun E σ H => ∃ S tm, SJ c S tm σ H ∧ postS c (f S) tm E
def seqM (f g : SM) : SM := fun S => match f S with
  | some (.nx, S') => g S'
  | o => o
def skipM : SM := fun S => some (.nx, S)
def failM : SM := fun _ => none
def raiseM (x f : Str) (fe : EM) : SM := fun S => match fe S with
  | some (.ok d, S') => some (.ex ⟨x, [(f, d)]⟩, S')
  | some (.ex y, S') => some (.ex y, S')
  | none => none
def raise0M (x : Str) : SM := fun S => some (.ex ⟨x, []⟩, S)
def bindS (fa : EM) (g : D → SM) : SM := fun S => match fa S with
  | some (.ok d, S') => g d S'
  | some (.ex x, S') => some (.ex x, S')
  | none => none
section
variable {c : Cfg} {X : Cx} {S : S0} {tm tm0 : List Pr} {σ : L2.St} {H : Hp} {E : Ends} {fa fe : EM} {f g : SM} {st : Stmt} {sts : List Stmt} {e : Expr} {pos : Pos}
theorem post_bindS {g : D → SM} (j : SJ c S tm σ H) (p : postS c (bindS fa g S) tm0 E) : T c fa σ H (fun v H1 => ∃ d S', SJ c S' ((v, d) :: tm) σ H1 ∧ postS c (g d S') tm0 E) := by
  refine ⟨S, tm, j, ?_⟩
  unfold bindS at p
  cases h : fa S with
  | none => rw [h] at p; exact p.elim
  | some o =>
    obtain ⟨o, S'⟩ := o
    cases o with
    | ok d => rw [h] at p; exact fun v H' j' => ⟨d, S', j', p⟩
    | ex x => rw [h] at p; exact fun cls dd H' xj => p cls dd σ H' xj
theorem u_seq (h : U c (seqM f g) E σ H) : tSeq (U c f) (U c g) E σ H := by
  obtain ⟨S, tm, j, p⟩ := h
  refine ⟨S, tm, j, ?_⟩
  unfold seqM at p
  cases h : f S with
  | none => rw [h] at p; exact p.elim
  | some o =>
    obtain ⟨o, S'⟩ := o
    rw [h] at p
    cases o with
    | nx => exact fun σ' H' j' => ⟨S', tm, j', p⟩
    | rt d => exact p
    | bk => exact p
    | ct => exact p
    | ex x => exact p
theorem ws_cons (h1 : PS X st (U c f)) (h2 : PSs X sts (U c g)) : PSs X (st :: sts) (U c (seqM f g)) := pss_mono (pss_cons h1 h2) fun _ _ _ h => u_seq h
theorem ws_one (h1 : PS X st (U c f)) : PSs X [st] (U c f) := pss_one h1
theorem ws_nil : PSs X [] (U c skipM) := pss_mono pss_nil fun E σ H h => let ⟨S, tm, j, p⟩ := h; p σ H j
def retS (fe : EM) : SM := bindS fe fun d S => some (.rt d, S)
theorem w_ret (he : PE X e (T c fe)) : PS X (.Return (some e) pos) (U c (retS fe)) := ps_mono (ps_ret he) fun E σ H h => by
  obtain ⟨S, tm, j, p⟩ := h
  exact (post_bindS j p).mono fun v H1 ⟨d, S', j', p'⟩ => p' v σ H1 j'
def exprS (fe : EM) : SM := bindS fe fun _ S => some (.nx, S)
theorem w_expr (he : PE X e (T c fe)) (hs : swapsWith e none pos.line X.env = pure false := by rfl) : PS X (.Expr e pos) (U c (exprS fe)) := ps_mono (ps_expr he hs) fun E σ H h => by
  obtain ⟨S, tm, j, p⟩ := h
  exact (post_bindS j p).mono fun v H1 ⟨d, S', j', p'⟩ => p' σ H1 j'.drop
abbrev GM := D → S0 → Option S0
def UG (c : Cfg) (g : GM) : TG := fun v σ H Q => ∃ d S tm, SJ c S ((v, d) :: tm) σ H ∧ match g d S with
  | some S' => ∀ σ' H', SJ c S' tm σ' H' → Q σ' H'
  | none => False
abbrev GMs := List D → S0 → Option S0
def UGs (c : Cfg) (g : GMs) : TGs := fun vs σ H Q => ∃ ds S tm, vs.length = ds.length ∧ SJ c S (vs.zip ds ++ tm) σ H ∧ match g ds S with
  | some S' => ∀ σ' H', SJ c S' tm σ' H' → Q σ' H'
  | none => False
theorem pg_mono {t : Expr} {g g' : TG} (h : PG X t g) (hi : ∀ v σ H Q, g' v σ H Q → g v σ H Q) : PG X t g' := by
  constructor
  intro pins s σ H v u Q I r w
  exact h.run pins s σ H v u Q I r (hi v σ H Q w)
theorem pgs_mono {t : List Expr} {g g' : TGs} (h : PGs X t g) (hi : ∀ v σ H Q, g' v σ H Q → g v σ H Q) : PGs X t g' := by
  constructor
  intro pins s σ H v u Q I r w
  exact h.run pins s σ H v u Q I r (hi v σ H Q w)
def gSetM (i : Nat) : GM := fun d S => if i < S.length then some (S.set i d) else none
theorem SJ.setSlot {i : Nat} {v : V} {d : D} (j : SJ c S ((v, d) :: tm) σ H) (hi : i < S.length) (hp : c.PV[i]? = some none) : SJ c (S.set i d) tm (σ.set i (some v)) H := by
  obtain ⟨Z, v0, d0, p1, p2⟩ := slot_set hi j.len
  refine ⟨by rw [List.length_set, List.length_set]; exact j.len, fun n u h hn => ?_, fun n u h => ?_, by rw [List.length_set]; exact j.lp, ?_⟩
  · by_cases hni : n = i
    · subst hni
      exact ⟨v, List.getElem?_set_self (by rw [j.len]; exact hi)⟩
    · rw [List.getElem?_set_ne (Ne.symm hni)] at h ⊢
      exact j.set n u h hn
  · have hni : n ≠ i := fun e => by rw [e, hp] at h; cases h
    rw [List.getElem?_set_ne (Ne.symm hni)]
    exact j.pv n u h
  · have k := j.take.perm (List.Perm.cons _ (List.Perm.append_right _ p1))
    have k2 : Joint c.K H ((v, d) :: (Z ++ (tm ++ c.rs))) := (k.perm (List.Perm.swap _ _ _)).drop
    exact k2.perm (List.Perm.append_right _ (p2 v d).symm)
theorem wg_name {i : Nat} {x : Str} (hN : X.N.Nodup) (hi : X.N[i]? = some x) (hx : Loc X.env.scope x) (hp : c.PV[i]? = some none) (hf : X.fn x = true ∨ X.env.scope.names.lookup x = some .local := by first | exact .inl rfl | exact .inr rfl | assumption) : PG X (.Name x pos) (UG c (gSetM i)) :=
  pg_mono (pg_name hN hi hx hf) fun v σ H Q h => by
    obtain ⟨d, S, tm, j, p⟩ := h
    unfold gSetM at p
    split at p
    · rename_i heq
      split at heq
      · cases heq
        exact p _ _ (j.setSlot (by assumption) hp)
      · cases heq
    · exact p.elim
def gNilM : GMs := fun ds S => match ds with
  | [] => some S
  | _ => none
def gConsM (g : GM) (gs : GMs) : GMs := fun ds S => match ds with
  | d :: r => (g d S).bind fun S' => gs r S'
  | [] => none
theorem wgs_nil : PGs X [] (UGs c gNilM) := pgs_mono pgs_nil fun vs σ H Q h => by
  obtain ⟨ds, S, tm, hl, j, p⟩ := h
  cases ds with
  | nil =>
    cases vs with
    | nil => exact ⟨rfl, p σ H j⟩
    | cons _ _ => simp at hl
  | cons _ _ => exact p.elim
theorem wgs_cons {t : Expr} {ts : List Expr} {g : GM} {gs : GMs} (h1 : PG X t (UG c g)) (h2 : PGs X ts (UGs c gs)) (hs : (assignEach (t :: ts) X.env).map (·.2) = assign t X.env :: (assignEach ts X.env).map (·.2) := by rfl) : PGs X (t :: ts) (UGs c (gConsM g gs)) := pgs_mono (pgs_cons h1 h2 hs) fun vs σ H Q h => by
  obtain ⟨ds, S, tm, hl, j, p⟩ := h
  cases ds with
  | nil => exact p.elim
  | cons d r =>
    cases vs with
    | nil => simp at hl
    | cons v r' =>
      refine ⟨v, r', rfl, d, S, r'.zip r ++ tm, j, ?_⟩
      have p : match (g d S).bind fun S' => gs r S' with | some S' => ∀ σ' H', SJ c S' tm σ' H' → Q σ' H' | none => False := p
      cases hg : g d S with
      | none => rw [hg] at p; exact p.elim
      | some S' =>
        rw [hg] at p
        exact fun σ' H' j' => ⟨r, S', tm, by simpa using hl, j', p⟩
end
end WF
namespace WF
open PySem PySem.Spec PyProof.Rows L2
section
variable {c : Cfg} {X : Cx} {S : S0} {tm tm0 : List Pr} {σ : L2.St} {H : Hp} {E : Ends} {fa fb fc fe : EM} {f g : SM} {st : Stmt} {sts ss2 : List Stmt} {e a b : Expr} {pos : Pos}
def asgM (fe : EM) (g : GM) : SM := bindS fe fun d S => (g d S).map fun S' => (Fl.nx, S')
theorem w_asg {t : Expr} {g : GM} (he : PE X e (T c fe)) (hg : PG X t (UG c g)) (hs : swapsWithSole [t] e pos.line X.env = pure false := by rfl) (hw : swappedStores [t] e X.env = pure none := by rfl) (h1 : List.map (fun x => x.snd) (assignEach [t] X.env) = [assign t X.env] := by rfl) : PS X (.Assign [t] e pos) (U c (asgM fe g)) :=
  ps_mono (ps_asg he hg hs hw h1) fun E σ H h => by
    obtain ⟨S, tm, j, p⟩ := h
    refine (post_bindS j p).mono fun v H1 ⟨d, S', j', p'⟩ => ⟨d, S', tm, j', ?_⟩
    cases hg : g d S' with
    | none => rw [hg] at p'; exact p'
    | some S2 => rw [hg] at p'; exact p'
theorem w_set {i : Nat} {x : Str} {px : Pos} (he : PE X e (T c fe)) (hN : X.N.Nodup) (hi : X.N[i]? = some x) (hx : Loc X.env.scope x) (hp : c.PV[i]? = some none) (hs : swapsWith e (some (.Name x px)) pos.line X.env = pure false := by rfl) (hf : X.fn x = true ∨ X.env.scope.names.lookup x = some .local := by first | exact .inl rfl | exact .inr rfl | assumption) :
    PS X (.Assign [.Name x px] e pos) (U c (asgM fe (gSetM i))) :=
  ps_mono (ps_set hN hi hx he hs hf) fun E σ H h => by
    obtain ⟨S, tm, j, p⟩ := h
    refine (post_bindS j p).mono fun v H1 ⟨d, S', j', p'⟩ => ?_
    unfold gSetM at p'
    by_cases hl : i < S'.length
    · rw [if_pos hl] at p'
      exact p' _ _ (j'.setSlot hl hp)
    · rw [if_neg hl] at p'; exact p'.elim
def gTupM (n : Nat) (gs : GMs) : GM := fun d S => match d with
  | .tup ds => if ds.length = n then gs ds S else none
  | .lst _ ds => if ds.length = n then gs ds S else none
  | _ => none
theorem PG.or {t : Expr} {g g' : TG} (h : PG X t g) (h' : PG X t g') : PG X t (fun v σ H Q => g v σ H Q ∨ g' v σ H Q) :=
  ⟨fun pins s σ H v u Q I r w => w.elim (h.run pins s σ H v u Q I r) (h'.run pins s σ H v u Q I r)⟩
theorem wg_tup {es : List Expr} {k : Nat} {gs : GMs} {n : Nat} (hK : c.K = X.K) (hc : X.calm = true) (h : PGs X es (UGs c gs)) (hn : (assignEach es X.env).length = n := by rfl) (hst : (assignEach es X.env).findIdx? (·.1) = none := by rfl) : PG X (.Tuple es k pos) (UG c (gTupM n gs)) :=
  pg_mono (PG.or (pg_tup hc h hn hst) (pg_unl hc h hn hst)) fun v σ H Q h => by
    obtain ⟨d, S, tm, j, p⟩ := h
    unfold gTupM at p
    split at p
    · rename_i S' heq
      split at heq
      · rename_i ds
        split at heq
        · rename_i hlen
          obtain ⟨q, rfl⟩ := j.take.is_tup
          obtain ⟨vs, sq, hl, k⟩ := j.take.untup
          refine .inl ⟨q, vs, rfl, .inl (.inl sq), hl.trans hlen, ds, S, tm, hl, j.with ?_, ?_⟩
          · rw [List.append_assoc]
            exact k.perm perm_sw
          · rw [heq]; exact p
        · cases heq
      · rename_i o ds
        split at heq
        · rename_i hlen
          obtain ⟨q, rfl⟩ := j.take.is_lst
          obtain ⟨vs, sq, hl, k⟩ := j.take.unlst
          refine .inr ⟨q, vs, rfl, .inl (.inl sq), hl.trans hlen, ds, S, tm, hl, j.with ?_, ?_⟩
          · rw [List.append_assoc]
            exact k.perm perm_sw
          · rw [heq]; exact p
        · cases heq
      · cases heq
    · exact p.elim
def Tt (c : Cfg) (f : EM) : TT := tB (T c f)
theorem wt_val (h : PE X e (T c fe)) (he : ∀ whole, isTrue e X.env whole = (do let v ← whole; standAt e.pos; holding [v] (truthy v)) := by intro _; rfl) : PT X e (Tt c fe) := pt_val h he
def brM (d : D) (f g : EM) : EM := match d with
  | .bl true => f
  | .bl false => g
  | _ => fun _ => none
def brS (d : D) (f g : SM) : SM := match d with
  | .bl true => f
  | .bl false => g
  | _ => fun _ => none
def andM (fa fb : EM) : EM := bindM fa fun d => brM d fb (retM (.bl false))
def orM (fa fb : EM) : EM := bindM fa fun d => brM d (retM (.bl true)) fb
def notM (fa : EM) : EM := bindM fa fun d => brM d (retM (.bl false)) (retM (.bl true))
def ifM (fc fa fb : EM) : EM := bindM fc fun d => brM d fa fb
def ifS (fc : EM) (f g : SM) : SM := bindS fc fun d => brS d f g
theorem br_post {d : D} {v : V} {Q : VK} (j : SJ c S ((v, d) :: tm) σ H) (p : post c (brM d fa fb S) tm0 σ Q) : (v = .bl true ∧ post c (fa S) tm0 σ Q) ∨ (v = .bl false ∧ post c (fb S) tm0 σ Q) := by
  unfold brM at p
  split at p
  · exact .inl ⟨j.take.is_bl, p⟩
  · exact .inr ⟨j.take.is_bl, p⟩
  · exact p.elim
theorem br_postS {d : D} {v : V} (j : SJ c S ((v, d) :: tm) σ H) (p : postS c (brS d f g S) tm0 E) : (v = .bl true ∧ postS c (f S) tm0 E) ∨ (v = .bl false ∧ postS c (g S) tm0 E) := by
  unfold brS at p
  split at p
  · exact .inl ⟨j.take.is_bl, p⟩
  · exact .inr ⟨j.take.is_bl, p⟩
  · exact p.elim
theorem t_and {Q : Bool → Hp → Prop} (h : Tt c (andM fa fb) σ H Q) : tAnd (Tt c fa) (Tt c fb) σ H Q := by
  obtain ⟨S, tm, j, p⟩ := h
  refine (post_bind j p).mono fun v H1 ⟨d, S1, j1, p1⟩ => ?_
  rcases br_post j1 p1 with ⟨rfl, p2⟩ | ⟨rfl, p2⟩
  · exact ⟨true, rfl, S1, tm, j1.drop, p2⟩
  · obtain ⟨b, e, q⟩ := post_ret j1.drop (j_bl H1) p2
    cases e
    exact ⟨false, rfl, q⟩
theorem t_or {Q : Bool → Hp → Prop} (h : Tt c (orM fa fb) σ H Q) : tOr (Tt c fa) (Tt c fb) σ H Q := by
  obtain ⟨S, tm, j, p⟩ := h
  refine (post_bind j p).mono fun v H1 ⟨d, S1, j1, p1⟩ => ?_
  rcases br_post j1 p1 with ⟨rfl, p2⟩ | ⟨rfl, p2⟩
  · obtain ⟨b, e, q⟩ := post_ret j1.drop (j_bl H1) p2
    cases e
    exact ⟨true, rfl, q⟩
  · exact ⟨false, rfl, S1, tm, j1.drop, p2⟩
theorem pw_mono {t t' : TT} (h : PW X e t) (hi : ∀ σ H Q, t' σ H Q → t σ H Q) : PW X e t' := ⟨fun w pins s σ H Q I q => h.run w pins s σ H Q I (hi σ H Q q)⟩
variable {rest : List Expr}
theorem ww_and1 (ha : PT X a (Tt c fa)) : PW X (.BoolOp .And [a] pos) (Tt c fa) := pw_and1 ha
theorem ww_or1 (ha : PT X a (Tt c fa)) : PW X (.BoolOp .Or [a] pos) (Tt c fa) := pw_or1 ha
theorem ww_and (ha : PT X a (Tt c fa)) (hb : PW X (.BoolOp .And (b :: rest) pos) (Tt c fb)) : PW X (.BoolOp .And (a :: b :: rest) pos) (Tt c (andM fa fb)) := pw_mono (pw_and ha hb) fun _ _ _ h => t_and h
theorem ww_or (ha : PT X a (Tt c fa)) (hb : PW X (.BoolOp .Or (b :: rest) pos) (Tt c fb)) : PW X (.BoolOp .Or (a :: b :: rest) pos) (Tt c (orM fa fb)) := pw_mono (pw_or ha hb) fun _ _ _ h => t_or h
theorem wt_w (h : PW X e (Tt c fe)) : PT X e (Tt c fe) := h.pt
theorem wt_not (ha : PT X a (Tt c fa)) : PT X (.UnaryOp .Not a pos) (Tt c (notM fa)) := pt_mono (pt_not ha) fun σ H Q h => by
  obtain ⟨S, tm, j, p⟩ := h
  refine (post_bind j p).mono fun v H1 ⟨d, S1, j1, p1⟩ => ?_
  rcases br_post j1 p1 with ⟨rfl, p2⟩ | ⟨rfl, p2⟩
  · obtain ⟨b, e, q⟩ := post_ret j1.drop (j_bl H1) p2
    cases e
    exact ⟨true, rfl, q⟩
  · obtain ⟨b, e, q⟩ := post_ret j1.drop (j_bl H1) p2
    cases e
    exact ⟨false, rfl, q⟩
theorem w_one {op} (h : PE X a (T c fa)) : PE X (.BoolOp op [a] pos) (T c fa) := pe_one h
theorem w_and (ha : PE X a (T c fa)) (hb : PE X (.BoolOp .And (b :: rest) pos) (T c fb)) : PE X (.BoolOp .And (a :: b :: rest) pos) (T c (andM fa fb)) := pe_mono (pe_and ha hb) fun σ H Q h => by
  obtain ⟨S, tm, j, p⟩ := h
  refine (post_bind j p).mono fun v H1 ⟨d, S1, j1, p1⟩ => ?_
  rcases br_post j1 p1 with ⟨rfl, p2⟩ | ⟨rfl, p2⟩
  · exact ⟨true, rfl, S1, tm, j1.drop, p2⟩
  · exact ⟨false, rfl, post_ret j1.drop (j_bl H1) p2⟩
theorem w_or (ha : PE X a (T c fa)) (hb : PE X (.BoolOp .Or (b :: rest) pos) (T c fb)) : PE X (.BoolOp .Or (a :: b :: rest) pos) (T c (orM fa fb)) := pe_mono (pe_or ha hb) fun σ H Q h => by
  obtain ⟨S, tm, j, p⟩ := h
  refine (post_bind j p).mono fun v H1 ⟨d, S1, j1, p1⟩ => ?_
  rcases br_post j1 p1 with ⟨rfl, p2⟩ | ⟨rfl, p2⟩
  · exact ⟨true, rfl, post_ret j1.drop (j_bl H1) p2⟩
  · exact ⟨false, rfl, S1, tm, j1.drop, p2⟩
theorem w_ifE {ce : Expr} (hc : PT X ce (Tt c fc)) (ha : PE X a (T c fa)) (hb : PE X b (T c fb)) : PE X (.IfExp ce a b pos) (T c (ifM fc fa fb)) := pe_mono (pe_ifExp hc ha hb) fun σ H Q h => by
  obtain ⟨S, tm, j, p⟩ := h
  refine (post_bind j p).mono fun v H1 ⟨d, S1, j1, p1⟩ => ?_
  rcases br_post j1 p1 with ⟨rfl, p2⟩ | ⟨rfl, p2⟩
  · exact ⟨true, rfl, S1, tm, j1.drop, p2⟩
  · exact ⟨false, rfl, S1, tm, j1.drop, p2⟩
theorem w_if {ce : Expr} (hc : PT X ce (Tt c fc)) (ha : PSs X sts (U c f)) (hb : PSs X ss2 (U c g)) : PS X (.If ce sts ss2 pos) (U c (ifS fc f g)) := ps_mono (ps_if hc ha hb) fun E σ H h => by
  obtain ⟨S, tm, j, p⟩ := h
  refine (post_bindS j p).mono fun v H1 ⟨d, S1, j1, p1⟩ => ?_
  rcases br_postS j1 p1 with ⟨rfl, p2⟩ | ⟨rfl, p2⟩
  · exact ⟨true, rfl, S1, tm, j1.drop, p2⟩
  · exact ⟨false, rfl, S1, tm, j1.drop, p2⟩
end
end WF
namespace WF
open PySem PySem.Spec PyProof.Rows L2
abbrev Fn := List D → Option (Out × List D)
def XF (K : PySem.W.Frag) (x : Xn) (L : List Pr) (cls : Value) (dd : Option Addr) (H : Hp) : Prop :=
  ∃ fv : List Pr, cls = .ref (He.ga K x.C) ∧ fv.map Prod.snd = x.fs.map Prod.snd ∧ ((dd = none ∧ fv = []) ∨ ∃ dx, dd = some dx ∧ H dx = some (.xd ((x.fs.map Prod.fst).zip (fv.map Prod.fst)))) ∧ Joint K H (fv ++ L)
def spOf (K : PySem.W.Frag) (n : Nat) (m : Fn) : Sp := fun vs H Q E => vs.length = n ∧ ∃ ds rs, ds.length = n ∧ Joint K H (vs.zip ds ++ rs) ∧ match m ds with
  | some (.ok r, ds') => ds'.length = n ∧ ∀ v H', Joint K H' ((v, r) :: (vs.zip ds' ++ rs)) → Q v H'
  | some (.ex x, ds') => ds'.length = n ∧ ∀ cls dd H', XF K x (vs.zip ds' ++ rs) cls dd H' → E cls dd H'
  | none => False
inductive Ar where
  | v (f : EM)
  | s (i : Nat)
abbrev Av := Sum D Nat
def argsA : List Ar → (List Av → EM) → EM
  | [], g => g []
  | .v f :: r, g => bindM f fun d => argsA r fun ds => g (.inl d :: ds)
  | .s i :: r, g => fun S => match S[i]? with
    | some d => if isUn d then none else argsA r (fun ds => g (.inr i :: ds)) S
    | none => none
def tArgsA (c : Cfg) : List Ar → TA
  | [] => tNil
  | .v f :: r => tCons (T c f) (tArgsA c r)
  | .s i :: r => tCons (tVar i) (tArgsA c r)
inductive AvOk (σ : L2.St) : List Av → List V → List Pr → Prop where
  | nil : AvOk σ [] [] []
  | v {d v as vs L} : AvOk σ as vs L → AvOk σ (.inl d :: as) (v :: vs) ((v, d) :: L)
  | s {i v as vs L} : σ[i]? = some (some v) → AvOk σ as vs L → AvOk σ (.inr i :: as) (v :: vs) L
def takeA : List Av → S0 → Option (List D × S0)
  | [], S => some ([], S)
  | .inl d :: r, S => (takeA r S).map fun x => (d :: x.1, x.2)
  | .inr i :: r, S => match S[i]? with
    | some d => if isUn d then none else (takeA r (S.set i .un)).map fun x => (d :: x.1, x.2)
    | none => none
def putA : List Av → List D → S0 → S0
  | .inl _ :: r, _ :: ds, S => putA r ds S
  | .inr i :: r, d :: ds, S => (putA r ds S).set i d
  | _, _, S => S
def callM (m : Fn) (as : List Ar) : EM := argsA as fun av S => match takeA av S with
  | some (ds, S1) => match m ds with
    | some (o, ds') => if ds'.length = av.length then some (o, putA av ds' S1) else none
    | none => none
  | none => none
section
variable {c : Cfg} {X : Cx}
theorem tArgsA_mono : ∀ {fs : List Ar} {σ : L2.St} {H : Hp} {Q Q' : List V → Hp → Prop}, tArgsA c fs σ H Q → (∀ vs H, Q vs H → Q' vs H) → tArgsA c fs σ H Q'
  | [], _, _, _, _, h, q => q _ _ h
  | .v f :: fs, _, _, _, _, h, q => T.mono h fun _ _ h2 => tArgsA_mono h2 fun vs H h3 => q _ H h3
  | .s i :: fs, _, _, _, _, ⟨v, e, h⟩, q => ⟨v, e, tArgsA_mono h fun vs H h3 => q _ H h3⟩
theorem post_argsA : ∀ (fs : List Ar) {g : List Av → EM} {S : S0} {tm tm0 : List Pr} {σ : L2.St} {H : Hp} {Q : VK}, SJ c S tm σ H → post c (argsA fs g S) tm0 σ Q →
    tArgsA c fs σ H (fun vs H1 => ∃ as S' L, AvOk σ as vs L ∧ as.length = fs.length ∧ SJ c S' (L ++ tm) σ H1 ∧ post c (g as S') tm0 σ Q)
  | [], _, S, _, _, _, _, _, j, p => ⟨[], S, [], .nil, rfl, j, p⟩
  | .v f :: fs, g, S, tm, tm0, σ, H, Q, j, p => by
    refine (post_bind (fa := f) j p).mono fun v H1 ⟨d, S1, j1, p1⟩ => ?_
    refine tArgsA_mono (post_argsA fs j1 p1) fun vs H2 ⟨as, S2, L, a, al, j2, p2⟩ => ?_
    exact ⟨.inl d :: as, S2, _, .v a, by simp [al], j2.perm perm_take, p2⟩
  | .s i :: fs, g, S, tm, tm0, σ, H, Q, j, p => by
    unfold argsA at p
    split at p
    · rename_i d hd
      split at p
      · exact p.elim
      · rename_i hu
        obtain ⟨v, ev⟩ := j.set i d hd (isUn_ne (by simpa using hu))
        refine ⟨v, ev, tArgsA_mono (post_argsA fs j p) fun vs H2 ⟨as, S2, L, a, al, j2, p2⟩ => ?_⟩
        exact ⟨.inr i :: as, S2, L, .s ev a, by simp [al], j2, p2⟩
    · exact p.elim
structure SL (c : Cfg) (S : S0) (σ : L2.St) : Prop where
  len : σ.length = S.length
  set : ∀ (i : Nat) d, S[i]? = some d → d ≠ .un → ∃ v, σ[i]? = some (some v)
  pv : ∀ (i : Nat) o, c.PV[i]? = some (some o) → σ[i]? = some o
  lp : c.PV.length = σ.length
theorem SJ.sl {S : S0} {tm : List Pr} {σ : L2.St} {H : Hp} (j : SJ c S tm σ H) : SL c S σ := ⟨j.len, j.set, j.pv, j.lp⟩
theorem SL.sj {S : S0} {tm : List Pr} {σ : L2.St} {H : Hp} (l : SL c S σ) (j : Joint c.K H (slotL σ S ++ (tm ++ c.rs))) : SJ c S tm σ H := ⟨l.len, l.set, l.pv, l.lp, j⟩
theorem SL.upd {S : S0} {σ : L2.St} {i : Nat} {v : V} {d : D} (l : SL c S σ) (h : σ[i]? = some (some v)) : SL c (S.set i d) σ :=
  ⟨by rw [List.length_set]; exact l.len, fun n u h' hn => by
    by_cases hi : n = i
    · exact ⟨v, by rw [hi]; exact h⟩
    · rw [List.getElem?_set_ne (Ne.symm hi)] at h'
      exact l.set n u h' hn, l.pv, l.lp⟩
theorem take_ok : ∀ {as : List Av} {vs : List V} {L : List Pr} {S S1 : S0} {ds : List D} {σ : L2.St} {H : Hp} {R : List Pr}, AvOk σ as vs L → takeA as S = some (ds, S1) → SL c S σ → Joint c.K H (slotL σ S ++ (L ++ R)) →
    vs.length = ds.length ∧ as.length = ds.length ∧ SL c S1 σ ∧ Joint c.K H (vs.zip ds ++ (slotL σ S1 ++ R)) ∧
    ∀ ds' : List D, ds'.length = ds.length → SL c (putA as ds' S1) σ ∧ ∀ (H' : Hp) (R' : List Pr), Joint c.K H' (vs.zip ds' ++ (slotL σ S1 ++ R')) → Joint c.K H' (slotL σ (putA as ds' S1) ++ R')
  | _, _, _, S, _, _, σ, H, R, .nil, e, l, j => by
    simp only [takeA, Option.some.injEq, Prod.mk.injEq] at e
    obtain ⟨rfl, rfl⟩ := e
    refine ⟨rfl, rfl, l, j, fun ds' hd => ?_⟩
    have : ds' = [] := by cases ds' with | nil => rfl | cons _ _ => simp at hd
    subst this
    exact ⟨l, fun H' R' k => k⟩
  | .inl d :: as, v :: vs, _, S, S1, ds, σ, H, R, .v a, e, l, j => by
    simp only [takeA, Option.map_eq_some_iff] at e
    obtain ⟨⟨ds2, S2⟩, e2, e3⟩ := e
    simp only [Prod.mk.injEq] at e3
    obtain ⟨rfl, rfl⟩ := e3
    rename_i L
    have jj : Joint c.K H (slotL σ S ++ (L ++ ((v, d) :: R))) := j.perm (List.Perm.append_left _ (by
      show ((v, d) :: (L ++ R)).Perm (L ++ ((v, d) :: R))
      exact perm_take.symm))
    obtain ⟨h1, h2, h3, h4, h5⟩ := take_ok a e2 l jj
    refine ⟨by simp [h1], by simp [h2], h3, ?_, fun ds' hd => ?_⟩
    · refine h4.perm ?_
      show (vs.zip ds2 ++ (slotL σ S2 ++ (v, d) :: R)).Perm ((v, d) :: (vs.zip ds2 ++ (slotL σ S2 ++ R)))
      exact (List.Perm.append_left _ perm_take).trans perm_take
    · cases ds' with
      | nil => simp at hd
      | cons d' r =>
        obtain ⟨g1, g2⟩ := h5 r (by simpa using hd)
        exact ⟨g1, fun H' R' k => g2 H' R' (Joint.drop (x := (v, d')) k)⟩
  | .inr i :: as, v :: vs, L, S, S1, ds, σ, H, R, .s ev a, e, l, j => by
    unfold takeA at e
    split at e
    · rename_i d hd
      split at e
      · cases e
      · rename_i hu
        simp only [Option.map_eq_some_iff] at e
        obtain ⟨⟨ds2, S2⟩, e2, e3⟩ := e
        simp only [Prod.mk.injEq] at e3
        obtain ⟨rfl, rfl⟩ := e3
        obtain ⟨Z, p1, p2, _⟩ := slot_get ev hd l.len
        have jj : Joint c.K H (slotL σ (S.set i .un) ++ (L ++ ((v, d) :: R))) := by
          have k1 : Joint c.K H ((v, d) :: (Z ++ (L ++ R))) := j.perm (List.Perm.append_right _ p1)
          have k2 : Joint c.K H ((v, D.un) :: (v, d) :: (Z ++ (L ++ R))) := k1.un
          refine k2.perm ?_
          have q1 : ((v, D.un) :: (v, d) :: (Z ++ (L ++ R))).Perm ((v, D.un) :: (Z ++ (L ++ ((v, d) :: R)))) := List.Perm.cons _ ((perm_take.symm).trans (List.Perm.append_left _ perm_take.symm))
          exact q1.trans (List.Perm.append_right _ (p2 .un).symm)
        obtain ⟨h1, h2, h3, h4, h5⟩ := take_ok a e2 (l.upd ev) jj
        refine ⟨by simp [h1], by simp [h2], h3, ?_, fun ds' hd' => ?_⟩
        · refine h4.perm ?_
          show (vs.zip ds2 ++ (slotL σ S2 ++ (v, d) :: R)).Perm ((v, d) :: (vs.zip ds2 ++ (slotL σ S2 ++ R)))
          exact (List.Perm.append_left _ perm_take).trans perm_take
        · cases ds' with
          | nil => simp at hd'
          | cons d' r =>
            obtain ⟨g1, g2⟩ := h5 r (by simpa using hd')
            refine ⟨g1.upd ev, fun H' R' k => ?_⟩
            have hlt : i < (putA as r S2).length := by
              rw [← g1.len]
              exact (List.getElem?_eq_some_iff.mp ev).1
            obtain ⟨Z', q1, q2, _⟩ := slot_get ev (List.getElem?_eq_getElem hlt) g1.len
            have k1 : Joint c.K H' (slotL σ (putA as r S2) ++ ((v, d') :: R')) := g2 H' ((v, d') :: R') (k.perm ((perm_take.symm).trans (List.Perm.append_left _ perm_take.symm)))
            have k2 := k1.perm (List.Perm.append_right _ q1)
            have k3 : Joint c.K H' (Z' ++ ((v, d') :: R')) := Joint.drop k2
            have k4 : Joint c.K H' ((v, d') :: Z' ++ R') := k3.perm perm_take
            exact k4.perm (List.Perm.append_right _ (q2 d').symm)
    · cases e
theorem av_len : ∀ {as : List Av} {vs : List V} {L : List Pr} {σ : L2.St}, AvOk σ as vs L → as.length = vs.length
  | _, _, _, _, .nil => rfl
  | _, _, _, _, .v a => by simp [av_len a]
  | _, _, _, _, .s _ a => by simp [av_len a]
variable {k : Nat} {f : Addr} {fd : FuncData} {ps : List Str} {n : Nat} {m : Fn} {x : Str} {p pos : Pos} {e : Expr} {es : List Expr} {as : List Ar}
theorem t_call {σ : L2.St} {H : Hp} {Q : VK} (h : T c (callM m as) σ H Q) (hn : as.length = n) : tCallSD (spOf c.K n m) [] (WE c.W) (tArgsA c as) σ H Q := by
  obtain ⟨S, tm, j, p⟩ := h
  refine tArgsA_mono (post_argsA as j p) fun vs H1 ⟨av, S1, L, a, al, j1, p1⟩ => ?_
  split at p1
  · rename_i ds S2 ht
    have jj : Joint c.K H1 (slotL σ S1 ++ (L ++ (tm ++ c.rs))) := by
      have := j1.jt
      rwa [List.append_assoc] at this
    obtain ⟨h1, h2, h3, h4, h5⟩ := take_ok a ht j1.sl jj
    rw [List.append_nil]
    split at p1
    · rename_i o ds' hm
      split at p1
      · rename_i hlen
        obtain ⟨g1, g2⟩ := h5 ds' (by omega)
        have hn' : vs.length = n := by have := av_len a; omega
        refine ⟨hn', ds, _, by omega, h4, ?_⟩
        rw [hm]
        cases o with
        | ok d =>
          refine ⟨by omega, fun v H' k => p1 v H' (g1.sj ?_)⟩
          refine Joint.perm perm_take.symm ?_
          have k2 : Joint c.K H' (vs.zip ds' ++ (slotL σ S2 ++ ((v, d) :: (tm ++ c.rs)))) := k.perm ((perm_take.symm).trans (List.Perm.append_left _ perm_take.symm))
          exact (g2 H' _ k2).perm perm_take
        | ex y =>
          refine ⟨by omega, fun cls dd H' ⟨fv, x1, x2, x3, k⟩ => p1 cls dd H' ⟨fv, x1, x2, x3, g1.sj ?_⟩⟩
          have k2 : Joint c.K H' (vs.zip ds' ++ (slotL σ S2 ++ (fv ++ (tm ++ c.rs)))) := k.perm (perm_sw.trans (List.Perm.append_left _ perm_sw))
          have k3 := g2 H' _ k2
          have k4 : Joint c.K H' (tm ++ (slotL σ (putA av ds' S2) ++ (fv ++ c.rs))) := k3.perm ((List.Perm.append_left _ perm_sw).trans perm_sw)
          exact k4.dropL
      · exact p1.elim
    · exact p1.elim
  · exact p1.elim
theorem wA_nil : PA X [] (tArgsA c []) := pa_nil
theorem wA_v {g : EM} (h : PE X e (T c g)) (hr : PA X es (tArgsA c as)) (hs : starEach (e :: es) X.env = (false, eval e X.env) :: starEach es X.env := by rfl) : PA X (e :: es) (tArgsA c (.v g :: as)) := pa_cons h hr hs
theorem wA_s {i : Nat} (h : PE X e (tVar i)) (hr : PA X es (tArgsA c as)) (hs : starEach (e :: es) X.env = (false, eval e X.env) :: starEach es X.env := by rfl) : PA X (e :: es) (tArgsA c (.s i :: as)) := pa_cons h hr hs
theorem w_call (F : FnOk X.prog X.w X.K X.mg X.base (L2.CX X.prog X.w) k f fd ps (spOf c.K n m)) (hr : Room k X.A) (hg : Gl X x) (hm : X.mg x = some (.ref f)) (hk : PySem.W.keepIn X.K (.ref f) = true) (hb : Binds X.K fd ps []) (tk : Takes X c.W)
    (ha : PA X (e :: es) (tArgsA c as)) (hn : as.length = n := by rfl) (hdb : (x == ("__debug__" : Str)) = false := by decide) (he : starEach (e :: es) X.env = (false, eval e X.env) :: starEach es X.env := by rfl) (hpl : (backTo pos (starEach es X.env)).any (·.1) = false := by rfl) :
    PE X (.Call (.Name x p) (e :: es) [] pos) (T c (callM m as)) := pe_mono (pe_callSD F hr hg hm hk hb .nil (fun σ => passAt tk σ) ha hdb he hpl) fun _ _ _ h => t_call h hn
end
end WF
namespace WF
open PySem PySem.Spec PyProof.Rows L2
def maskM : List Bool → List D → List D
  | b :: bs, d :: ds => (if b then d else .un) :: maskM bs ds
  | _, _ => []
def defM (mask : List Bool) (N : Nat) (body : SM) : Fn := fun ds => match body (ds ++ List.replicate (N - mask.length) .un) with
  | some (.rt d, S) => some (.ok d, maskM mask S)
  | some (.nx, S) => some (.ok .non, maskM mask S)
  | some (.ex x, S) => some (.ex x, maskM mask S)
  | _ => none
def pvOf : List Bool → List V → List (Option (Option V))
  | b :: bs, v :: vs => (if b then some (some v) else none) :: pvOf bs vs
  | _, _ => []
section
variable {K : PySem.W.Frag} {H : Hp} {R : List Pr}
theorem Joint.uns : ∀ {k : Nat} {v : V} {A : List Pr}, Joint K H (A ++ R) → Joint K H ((A ++ List.replicate k (v, .un)) ++ R)
  | 0, v, A, j => by simpa using j
  | k + 1, v, A, j => by
    have q := (Joint.uns (k := k) (v := v) j).un (v := v)
    refine q.perm ?_
    rw [List.replicate_succ, List.append_assoc, List.append_assoc]
    show ((v, D.un) :: (A ++ (List.replicate k (v, D.un) ++ R))).Perm (A ++ ((v, D.un) :: (List.replicate k (v, D.un) ++ R)))
    exact perm_take.symm
theorem slotL_start : ∀ {vs : List V} {ds : List D} {k : Nat}, vs.length = ds.length → slotL (vs.map some ++ List.replicate k none) (ds ++ List.replicate k .un) = vs.zip ds ++ List.replicate k (.non, .un)
  | [], [], k, _ => by simp [slotL]
  | v :: vs, d :: ds, k, h => by
    have ih := slotL_start (vs := vs) (ds := ds) (k := k) (by simpa using h)
    unfold slotL at ih ⊢
    simp only [List.map_cons, List.cons_append, List.zip_cons_cons, Option.getD_some]
    rw [ih]
  | [], _ :: _, _, h => by simp at h
  | _ :: _, [], _, h => by simp at h
theorem maskM_le : ∀ {mask : List Bool} {S : S0}, (maskM mask S).length = mask.length → mask.length ≤ S.length
  | [], S, _ => Nat.zero_le _
  | b :: bs, d :: S, h => by simp [maskM] at h; simpa using maskM_le (mask := bs) (S := S) h
  | b :: bs, [], h => by simp [maskM] at h
theorem mask_ok : ∀ {R : List Pr} {mask : List Bool} {vs : List V} {σ : L2.St} {S : S0}, mask.length = vs.length → σ.length = S.length → vs.length ≤ S.length → (∀ (i : Nat) o, (pvOf mask vs)[i]? = some (some o) → σ[i]? = some o) → Joint K H (slotL σ S ++ R) → Joint K H (vs.zip (maskM mask S) ++ R)
  | R, [], [], σ, S, _, _, _, _, j => j.dropL
  | R, b :: bs, v :: vs, o :: σ, d :: S, h1, h2, h3, h4, j => by
    have ih := fun R (q : Joint K H (slotL σ S ++ R)) => mask_ok (R := R) (mask := bs) (vs := vs) (σ := σ) (S := S) (by simpa using h1) (by simpa using h2) (by simpa using h3) (fun i o h => by simpa using h4 (i + 1) o (by simpa [pvOf] using h)) q
    have j' : Joint K H ((o.getD .non, d) :: (slotL σ S ++ R)) := j
    cases b with
    | true =>
      have e : o = some v := by simpa using h4 0 (some v) rfl
      subst e
      have k := ih ((v, d) :: R) (j'.perm perm_take.symm)
      exact k.perm perm_take
    | false => exact (ih R j'.drop).un
  | _, [], _ :: _, _, _, h, _, _, _, _ => by simp at h
  | _, _ :: _, [], _, _, h, _, _, _, _ => by simp at h
  | _, _ :: _, _ :: _, _, [], _, _, h, _, _ => by simp at h
  | _, _ :: _, _ :: _, [], _ :: _, _, h, _, _, _ => by simp at h
theorem pvOf_get : ∀ {mask : List Bool} {vs : List V} {i : Nat} {o : Option V} {r : L2.St}, (pvOf mask vs)[i]? = some (some o) → (vs.map some ++ r)[i]? = some o
  | b :: bs, v :: vs, 0, o, r, h => by
    cases b with
    | true => simp [pvOf] at h; simp [h]
    | false => simp [pvOf] at h
  | b :: bs, v :: vs, i + 1, o, r, h => by
    have := pvOf_get (mask := bs) (vs := vs) (i := i) (o := o) (r := r) (by simpa [pvOf] using h)
    simpa using this
  | [], vs, i, o, r, h => by cases vs <;> simp [pvOf] at h
  | _ :: _, [], i, o, r, h => by simp [pvOf] at h
end
abbrev cfgOf (K : PySem.W.Frag) (mask : List Bool) (N : Nat) (vs : List V) (rs : List Pr) (E : XK) : Cfg := ⟨K, pvOf mask vs ++ List.replicate (N - mask.length) none, rs, fun cls d _ H => E cls d H⟩
theorem pvOf_len : ∀ {mask : List Bool} {vs : List V}, mask.length = vs.length → (pvOf mask vs).length = mask.length
  | [], [], _ => rfl
  | b :: bs, v :: vs, h => by simp [pvOf, pvOf_len (mask := bs) (vs := vs) (by simpa using h)]
  | [], _ :: _, h => by simp at h
  | _ :: _, [], h => by simp at h
theorem pv_split {mask : List Bool} {vs : List V} {k i : Nat} {o : Option V} (h : (pvOf mask vs ++ List.replicate k none)[i]? = some (some o)) : (pvOf mask vs)[i]? = some (some o) := by
  by_cases hi : i < (pvOf mask vs).length
  · rwa [List.getElem?_append_left hi] at h
  · rw [List.getElem?_append_right (by omega), List.getElem?_replicate] at h
    split at h <;> cases h
section
variable {P : Program} {w : World} {K : PySem.W.Frag} {mg : Str → Option Value} {base : Heap}
end
end WF
namespace WF
open PySem PySem.Spec PyProof.Rows L2
structure Iter (K : PySem.W.Frag) (J : It) (hold : List Pr) (ds : List D) : Prop where
  go : ∀ i H L, i < ds.length → Joint K H (hold ++ L) → J.go i H
  yld : ∀ i H L d x H', ds[i]? = some d → Joint K H (hold ++ L) → J.yld i H x H' → Joint K H' ((x, d) :: (hold ++ L))
  stop : ∀ H L, Joint K H (hold ++ L) → J.stop ds.length H
inductive IOut where
  | ok (ds : List D) (lent : List (Nat × D))
  | ex (x : Xn)
def lentL (σ : L2.St) (lent : List (Nat × D)) : List Pr := lent.map fun x => ((σ.getD x.1 none).getD .non, x.2)
def LentOk (σ : L2.St) (lent : List (Nat × D)) : Prop := ∀ x ∈ lent, ∃ v, σ[x.1]? = some (some v)
abbrev IM := S0 → Option (IOut × S0)
def postI (c : Cfg) (o : Option (IOut × S0)) (tm : List Pr) (σ : L2.St) (R : It → Hp → Prop) : Prop := match o with
  | some (.ok ds lent, S) => LentOk σ lent → ∀ J hold H, Iter c.K J (hold ++ lentL σ lent) ds → SJ c S (hold ++ (lentL σ lent ++ tm)) σ H → R J H
  | some (.ex x, S) => ∀ cls dd H, XJ c x S cls dd σ H → c.W cls dd σ H
  | none => False
def TIm (c : Cfg) (f : IM) : TI := fun σ H R => ∃ S tm, SJ c S tm σ H ∧ postI c (f S) tm σ R
def bindI (fa : EM) (g : D → IM) : IM := fun S => match fa S with
  | some (.ok d, S') => g d S'
  | some (.ex x, S') => some (.ex x, S')
  | none => none
def optI (o : Option (List D)) : IM := fun S => o.map fun ds => (.ok ds [], S)
section
variable {c : Cfg} {X : Cx} {S : S0} {tm tm0 : List Pr} {σ : L2.St} {H : Hp} {E : Ends} {fa fb fe : EM} {fi : IM} {g : GM} {f : SM} {st : Stmt} {sts : List Stmt} {e a b it tg : Expr} {pos : Pos}
theorem pi_mono {t t' : TI} (h : PI X tg it t) (hi : ∀ σ H R, t' σ H R → t σ H R) : PI X tg it t' := ⟨fun pins s σ H R I w => h.run pins s σ H R I (hi σ H R w)⟩
theorem post_bindI {g : D → IM} {R : It → Hp → Prop} (j : SJ c S tm σ H) (p : postI c (bindI fa g S) tm0 σ R) : T c fa σ H (fun v H1 => ∃ d S', SJ c S' ((v, d) :: tm) σ H1 ∧ postI c (g d S') tm0 σ R) := by
  refine ⟨S, tm, j, ?_⟩
  unfold bindI at p
  cases h : fa S with
  | none => rw [h] at p; exact p.elim
  | some o =>
    obtain ⟨o, S'⟩ := o
    cases o with
    | ok d => rw [h] at p; exact fun v H' j' => ⟨d, S', j', p⟩
    | ex x => rw [h] at p; exact p
theorem post_optI {o : Option (List D)} {R : It → Hp → Prop} (p : postI c (optI o S) tm σ R) : ∃ ds, o = some ds ∧ ∀ J hold H, Iter c.K J hold ds → SJ c S (hold ++ tm) σ H → R J H := by
  unfold optI at p
  cases o with
  | none => exact p.elim
  | some d => exact ⟨d, rfl, fun J hold H J1 j => p (fun x m => nomatch m) J hold H (by rw [show lentL σ [] = [] from rfl, List.append_nil]; exact J1) j⟩
def loopM (g : GM) (body : SM) : List D → SM
  | [], S => some (.nx, S)
  | d :: ds, S => match g d S with
    | none => none
    | some S1 => match body S1 with
      | some (.nx, S2) => loopM g body ds S2
      | some (.ct, S2) => loopM g body ds S2
      | some (.bk, S2) => some (.nx, S2)
      | o => o
def forM (fi : IM) (g : GM) (body : SM) : SM := fun S => match fi S with
  | some (.ok ds [], S') => loopM g body ds S'
  | some (.ex x, S') => some (.ex x, S')
  | _ => none
theorem SJ.dropM {A B : List Pr} (j : SJ c S (A ++ (B ++ tm)) σ H) : SJ c S (A ++ tm) σ H := by
  have j' : SJ c S (B ++ (A ++ tm)) σ H := j.perm perm_sw
  exact j'.dropL
theorem w_for (hp : PassesOwn (model X.prog X.w) X.A X.env X.xe) (hc : X.calm = true) (hi : PI X tg it (TIm c fi)) (hg : PG X tg (UG c g)) (hb : PSs X sts (U c f)) (hs : ∀ x, foldedSetIterable it X.env x = pure x := by intro _; rfl) : PS X (.For tg it sts [] pos) (U c (forM fi g f)) :=
  ps_mono (ps_for hp hc hi hg hb hs) fun E σ H h => by
    obtain ⟨S, tm, j, p⟩ := h
    refine ⟨S, tm, j, ?_⟩
    unfold forM at p
    cases hf : fi S with
    | none => rw [hf] at p; exact p.elim
    | some o =>
      obtain ⟨o, S1⟩ := o
      rw [hf] at p
      cases o with
      | ex x => exact fun cls dd H' xj => p cls dd σ H' xj
      | ok ds lent =>
        cases lent with
        | cons _ _ => exact p.elim
        | nil =>
        intro _ J hold H1 J1 j1
        rw [show lentL σ [] = [] from rfl, List.append_nil] at J1
        rw [show lentL σ [] = [] from rfl, List.nil_append] at j1
        refine ⟨fun i m σ H => m = ds.length - i ∧ i ≤ ds.length ∧ ∃ S, SJ c S (hold ++ tm) σ H ∧ postS c (loopM g f (ds.drop i) S) tm E, ⟨_, rfl, Nat.zero_le _, S1, j1, p⟩, ?_⟩
        rintro i m σ2 H2 ⟨rfl, hi, S2, j2, p2⟩
        have jh : Joint c.K H2 (hold ++ (slotL σ2 S2 ++ (tm ++ c.rs))) := j2.jt.perm (by rw [List.append_assoc]; exact perm_sw)
        by_cases hlt : i < ds.length
        · have hd : ds[i]? = some ds[i] := List.getElem?_eq_getElem hlt
          rw [List.drop_eq_getElem_cons hlt] at p2
          refine .inr ⟨J1.go i H2 _ hlt jh, fun σ' H' => ∃ S, SJ c S (hold ++ tm) σ' H' ∧ postS c (loopM g f (ds.drop (i + 1)) S) tm E, fun σ' H' ⟨S3, j3, p3⟩ => ⟨_, (by omega : ds.length - (i + 1) < ds.length - i), rfl, hlt, S3, j3, p3⟩, fun x H3 hy => ?_⟩
          have k := J1.yld i H2 _ _ _ _ hd jh hy
          refine ⟨ds[i], S2, hold ++ tm, j2.put (k.perm (List.Perm.cons _ (by rw [List.append_assoc]; exact perm_sw))), ?_⟩
          unfold loopM at p2
          cases hg : g ds[i] S2 with
          | none => rw [hg] at p2; exact p2.elim
          | some S3 =>
            rw [hg] at p2
            intro σ4 H4 j4
            refine ⟨S3, hold ++ tm, j4, ?_⟩
            simp only at p2
            cases hb : f S3 with
            | none => rw [hb] at p2; exact p2.elim
            | some o =>
              obtain ⟨fl, S5⟩ := o
              rw [hb] at p2
              cases fl with
              | nx => exact fun σ5 H5 j5 => ⟨S5, j5, p2⟩
              | ct => exact fun σ5 H5 j5 => ⟨S5, j5, p2⟩
              | bk => exact fun σ5 H5 j5 => p2 σ5 H5 j5.dropL
              | rt d => exact fun v σ5 H5 j5 => p2 v σ5 H5 (SJ.dropM (A := [(v, d)]) j5)
              | ex x => exact p2
        · have e : i = ds.length := by omega
          subst e
          rw [List.drop_length] at p2
          exact .inl ⟨J1.stop H2 _ jh, p2 σ2 H2 j2.dropL⟩
def itemsD : D → Option (List D)
  | .tup ds => some (D.frzs ds)
  | .lst _ ds => some (D.frzs ds)
  | _ => none
end
section
variable {K : PySem.W.Frag} {H : Hp} {R L : List Pr} {p : Addr} {vs : List V} {ds : List D}
mutual
theorem D.frz_frz : ∀ d : D, d.frz.frz = d.frz
  | .tup xs => by simp only [D.frz, D.frzs_frzs xs]
  | .exn _ _ xs => by simp only [D.frz, D.frzs_frzs xs]
  | .lst _ xs => by simp only [D.frz, D.frzs_frzs xs]
  | .dic _ _ xs => by simp only [D.frz, D.frzs_frzs xs]
  | .dtk _ _ xs => by simp only [D.frz, D.frzs_frzs xs]
  | .un => rfl
  | .non => rfl
  | .bl _ => rfl
  | .int _ => rfl
  | .str _ => rfl
  | .vl _ => rfl
  | .scr _ => rfl
  | .hld _ => rfl
  | .con _ => rfl
  | .tab _ => rfl
  | .obj _ _ _ xs => by simp only [D.frz, D.frzs_frzs xs]
theorem D.frzs_frzs : ∀ ds : List D, D.frzs (D.frzs ds) = D.frzs ds
  | [] => rfl
  | d :: ds => by simp only [D.frzs, D.frz_frz d, D.frzs_frzs ds]
end
theorem Reps.pure {G : Hp} {fp : List Addr} (r : Reps K G H L fp) : (∀ x ∈ L, x.2.frz = x.2) → fp = [] := by
  have ch : ∀ {C : List Pr} {ds : List D}, C.map Prod.snd = ds → D.frzs ds = ds → ∀ x ∈ C, x.2.frz = x.2 := fun {C ds} e h x m => by
    subst e
    rw [D.frzs_map, List.map_map] at h
    exact List.map_inj_left.mp h x m
  induction r with
  | nil => intro _; rfl
  | un _ ih => intro h; exact ih fun x m => h x (List.mem_cons_of_mem _ m)
  | non _ ih => intro h; exact ih fun x m => h x (List.mem_cons_of_mem _ m)
  | bl _ ih => intro h; exact ih fun x m => h x (List.mem_cons_of_mem _ m)
  | int _ ih => intro h; exact ih fun x m => h x (List.mem_cons_of_mem _ m)
  | str _ ih => intro h; exact ih fun x m => h x (List.mem_cons_of_mem _ m)
  | vl _ ih => intro h; exact ih fun x m => h x (List.mem_cons_of_mem _ m)
  | scr _ _ ih => intro h; exact ih fun x m => h x (List.mem_cons_of_mem _ m)
  | hld _ _ _ ih => intro h; have q := h _ List.mem_cons_self; cases q
  | con _ _ _ ih => intro h; exact ih fun x m => h x (List.mem_cons_of_mem _ m)
  | tab _ _ ih => intro h; have q := h _ List.mem_cons_self; cases q
  | of _ _ _ _ _ _ _ ih1 ih2 => intro h; exact ih2 fun x m => h x (List.mem_cons_of_mem _ m)
  | oo _ _ _ _ _ _ _ ih1 ih2 =>
    intro h
    have q := h _ List.mem_cons_self
    simp [D.frz] at q
  | tup a b e r1 r2 ih1 ih2 =>
    intro h
    have q := h _ List.mem_cons_self
    simp only [D.frz, D.tup.injEq] at q
    rw [ih1 (ch e q), ih2 fun x m => h x (List.mem_cons_of_mem _ m)]
    rfl
  | exn _ _ _ _ _ _ _ ih1 ih2 => intro h; exact ih2 fun x m => h x (List.mem_cons_of_mem _ m)
  | lf a b e r1 r2 ih1 ih2 => intro h; exact ih2 fun x m => h x (List.mem_cons_of_mem _ m)
  | lo a b e r1 r2 ih1 ih2 =>
    intro h
    have q := h _ List.mem_cons_self
    simp [D.frz] at q
  | kf a k b e r1 r2 ih1 ih2 => intro h; exact ih2 fun x m => h x (List.mem_cons_of_mem _ m)
  | ko a k b e r1 r2 ih1 ih2 =>
    intro h
    have q := h _ List.mem_cons_self
    simp [D.frz] at q
  | tf a k b e r1 r2 ih1 ih2 => intro h; exact ih2 fun x m => h x (List.mem_cons_of_mem _ m)
  | to a k b e r1 r2 ih1 ih2 =>
    intro h
    have q := h _ List.mem_cons_self
    simp [D.frz] at q
theorem reps_get {G : Hp} : ∀ {C : List Pr} {i : Nat} {x : Pr}, Reps K G H C [] → C[i]? = some x → Reps K G H [x] []
  | [], _, _, _, h => by simp at h
  | y :: C, 0, x, r, h => by
    obtain ⟨f1, f2, e, r1, r2⟩ := r.uncons
    obtain ⟨rfl, rfl⟩ := List.append_eq_nil_iff.mp e.symm
    simp at h; subst h
    exact r1
  | y :: C, i + 1, x, r, h => by
    obtain ⟨f1, f2, e, r1, r2⟩ := r.uncons
    obtain ⟨rfl, rfl⟩ := List.append_eq_nil_iff.mp e.symm
    exact reps_get r2 (by simpa using h)
theorem Joint.itemT (j : Joint K H ((.ref p, .tup ds) :: R)) (hf : D.frzs ds = ds) : ∃ vs, H p = some (.tup vs) ∧ vs.length = ds.length ∧ ∀ (i : Nat) x d, vs[i]? = some x → ds[i]? = some d → Joint K H ((x, d) :: (.ref p, .tup ds) :: R) := by
  obtain ⟨G, fp, g, r, n, z⟩ := j
  have r0 := r
  cases r with
  | @tup p C vs ds f L fp a b e r1 r2 =>
    have hc : f = [] := r1.pure fun x m => by
      subst e
      rw [D.frzs_map, List.map_map] at hf
      exact List.map_inj_left.mp hf x m
    subst hc b e
    refine ⟨_, g _ _ a, by simp, fun i x d h1 h2 => ⟨G, _, g, ?_, n, z⟩⟩
    refine Reps.append (L := [(x, d)]) (fp := []) (reps_get r1 (i := i) ?_) r0
    rw [List.getElem?_map] at h1 h2
    cases q : C[i]? with
    | none => rw [q] at h1; cases h1
    | some y => rw [q] at h1 h2; cases h1; cases h2; rfl
theorem Joint.itemL (j : Joint K H ((.ref p, .lst false ds) :: R)) : ∃ vs, H p = some (.lst vs) ∧ vs.length = ds.length ∧ ∀ (i : Nat) x d, vs[i]? = some x → ds[i]? = some d → Joint K H ((x, d) :: (.ref p, .lst false ds) :: R) := by
  obtain ⟨G, fp, g, r, n, z⟩ := j
  have r0 := r
  cases r with
  | @lf p C vs ds L fp a b e r1 r2 =>
    subst b e
    refine ⟨_, g _ _ a, by simp, fun i x d h1 h2 => ⟨G, _, g, ?_, n, z⟩⟩
    refine Reps.append (L := [(x, d)]) (fp := []) (reps_get r1 (i := i) ?_) r0
    rw [List.getElem?_map] at h1 h2
    cases q : C[i]? with
    | none => rw [q] at h1; cases h1
    | some y => rw [q] at h1 h2; cases h1; cases h2; rfl
theorem iter_list : Iter K (Itl K p) [(.ref p, .lst false ds)] ds where
  go := fun i H L hi j => by
    obtain ⟨vs, hp, hl, q⟩ := Joint.itemL j
    have sq : SqL K H p vs := .inl (.inl hp)
    exact ⟨vs, vs[i]'(by omega), sq, List.getElem?_eq_getElem _⟩
  yld := fun i H L d x H' hd j y => by
    obtain ⟨vs, hp, hl, q⟩ := Joint.itemL j
    have sq : SqL K H p vs := .inl (.inl hp)
    obtain ⟨rfl, y2⟩ := y
    exact q i x d (y2 vs sq) hd
  stop := fun H L j => by
    obtain ⟨vs, hp, hl, q⟩ := Joint.itemL j
    have sq : SqL K H p vs := .inl (.inl hp)
    exact ⟨vs, sq, by omega⟩
theorem iter_tup (hf : D.frzs ds = ds) : Iter K (Itt K p) [(.ref p, .tup ds)] ds where
  go := fun i H L hi j => by
    obtain ⟨vs, hp, hl, q⟩ := Joint.itemT j hf
    have sq : SqT K H p vs := .inl (.inl hp)
    exact ⟨vs, vs[i]'(by omega), sq, List.getElem?_eq_getElem _⟩
  yld := fun i H L d x H' hd j y => by
    obtain ⟨vs, hp, hl, q⟩ := Joint.itemT j hf
    have sq : SqT K H p vs := .inl (.inl hp)
    obtain ⟨rfl, y2⟩ := y
    exact q i x d (y2 vs sq) hd
  stop := fun H L j => by
    obtain ⟨vs, hp, hl, q⟩ := Joint.itemT j hf
    have sq : SqT K H p vs := .inl (.inl hp)
    exact ⟨vs, sq, by omega⟩
end
section
variable {c : Cfg} {X : Cx} {S : S0} {tm tm0 : List Pr} {σ : L2.St} {H : Hp} {fe : EM} {e tg : Expr} {pos : Pos}
theorem PI.or {t t' : TI} (h : PI X tg e t) (h' : PI X tg e t') : PI X tg e (fun σ H R => t σ H R ∨ t' σ H R) := ⟨fun pins s σ H R I w => w.elim (h.run pins s σ H R I) (h'.run pins s σ H R I)⟩
def seqI (fe : EM) : IM := bindI fe fun d => optI (itemsD d)
theorem SJ.frz {v : V} {d : D} (j : SJ c S ((v, d) :: tm) σ H) : SJ c S ((v, d.frz) :: tm) σ H := j.put j.take.freeze.drop
theorem wi_seq (hK : c.K = X.K) (he : PE X e (T c fe)) : PI X tg e (TIm c (seqI fe)) := pi_mono (PI.or (pi_list he) (pi_tup he)) fun σ H R h => by
  obtain ⟨S, tm, j, p⟩ := h
  have q := post_bindI j p
  cases hf : fe S with
  | none => simp only [seqI, bindI, hf] at p; exact p.elim
  | some o =>
    obtain ⟨o, S1⟩ := o
    cases o with
    | ex x => simp only [seqI, bindI, hf] at p; exact .inl ⟨S, tm, j, by rw [hf]; exact p⟩
    | ok d =>
      simp only [seqI, bindI, hf] at p
      obtain ⟨ds, e, p⟩ := post_optI p
      unfold itemsD at e
      split at e
      · rename_i xs
        cases e
        refine .inr ⟨S, tm, j, ?_⟩
        rw [hf]
        intro v H1 j1
        obtain ⟨q, rfl⟩ := j1.take.is_tup
        have j2 := j1.frz
        obtain ⟨vs, sq, _, _⟩ := j2.take.itemT (D.frzs_frzs xs)
        exact ⟨q, rfl, ⟨vs, .inl (.inl sq)⟩, p _ [(.ref q, .tup (D.frzs xs))] H1 (hK ▸ iter_tup (D.frzs_frzs xs)) j2⟩
      · rename_i b xs
        cases e
        refine .inl ⟨S, tm, j, ?_⟩
        rw [hf]
        intro v H1 j1
        obtain ⟨q, rfl⟩ := j1.take.is_lst
        have j2 := j1.frz
        obtain ⟨vs, sq, _, _⟩ := j2.take.itemL
        exact ⟨q, rfl, ⟨vs, .inl (.inl sq)⟩, p _ [(.ref q, .lst false (D.frzs xs))] H1 (hK ▸ iter_list) j2⟩
      · cases e
end
end WF
namespace WF
open PySem PySem.Spec PyProof.Rows L2
def JX (K : PySem.W.Frag) (H : Hp) (p : Addr) (L : List Pr) : Prop :=
  ∃ G fp, GSub G H ∧ Reps K G H L fp ∧ fp.Nodup ∧ (∀ a ∈ fp, G a = none) ∧ G p = none ∧ p ∉ fp
section
variable {K : PySem.W.Frag} {H H' : Hp} {L L' R : List Pr} {x : Pr} {p : Addr} {ds ds' : List D} {vs vs' : List V}
theorem JX.perm (q : L.Perm L') (j : JX K H p L) : JX K H p L' := by
  obtain ⟨G, fp, g, r, n, z, gp, np⟩ := j
  obtain ⟨fp', pp, r'⟩ := r.perm q
  exact ⟨G, fp', g, r', pp.nodup_iff.mp n, fun a h => z a (pp.mem_iff.mpr h), gp, fun m => np (pp.mem_iff.mpr m)⟩
theorem JX.drop (j : JX K H p (x :: L)) : JX K H p L := by
  obtain ⟨G, fp, g, r, n, z, gp, np⟩ := j
  obtain ⟨f1, f2, rfl, r1, r2⟩ := r.uncons
  exact ⟨G, f2, g, r2, (List.nodup_append.mp n).2.1, fun a h => z a (List.mem_append_right _ h), gp, fun m => np (List.mem_append_right _ m)⟩
theorem JX.dropL : ∀ {L1 : List Pr}, JX K H p (L1 ++ L) → JX K H p L
  | [], j => j
  | _ :: _, j => (JX.drop j).dropL
theorem Joint.openL (j : Joint K H ((.ref p, .lst true ds) :: R)) : ∃ vs, H p = some (.lst vs) ∧ vs.length = ds.length ∧ JX K H p (vs.zip ds ++ R) := by
  obtain ⟨G, fp, g, r, n, z⟩ := j
  cases r with
  | @lo p C vs ds f L fp a b e r1 r2 =>
    subst b e
    obtain ⟨n1, n2⟩ := List.nodup_cons.mp n
    refine ⟨_, a, by simp, G, _, g, ?_, n2, fun a m => z a (List.mem_cons_of_mem _ m), z p List.mem_cons_self, n1⟩
    rw [zip_map]
    exact r1.append r2
theorem JX.upd {o : HO} (j : JX K H p L) : JX K (upd H p o) p L := by
  obtain ⟨G, fp, g, r, n, z, gp, np⟩ := j
  have g' : GSub G (L2.upd H p o) := fun a u e => by
    rw [upd_ne (ne_of_none e gp)]
    exact g a u e
  exact ⟨G, fp, g', r.mono .refl fun a u m e => by
    rw [upd_ne (fun q => np (by rw [← q]; exact m))]
    exact e, n, z, gp, np⟩
theorem JX.close (hl : vs'.length = ds'.length) (j : JX K H p (vs'.zip ds' ++ R)) : Joint K (L2.upd H p (.lst vs')) ((.ref p, .lst true ds') :: R) := by
  obtain ⟨G, fp, g, r, n, z, gp, np⟩ := JX.upd (o := .lst vs') j
  obtain ⟨f1, f2, rfl, r1, r2⟩ := r.unappend
  exact ⟨G, p :: (f1 ++ f2), g, .lo upd_same (zip_fst hl) (zip_snd hl) r1 r2, List.nodup_cons.mpr ⟨np, n⟩, fun a m => by
    rcases List.mem_cons.mp m with rfl | m
    · exact gp
    · exact z a m⟩
theorem Joint.app {v : V} {d : D} (j : Joint K H ((.ref p, .lst true ds) :: (v, d) :: R)) : ∃ vs, H p = some (.lst vs) ∧ vs.length = ds.length ∧ Joint K (L2.upd H p (.lst (vs ++ [v]))) ((.ref p, .lst true (ds ++ [d])) :: R) := by
  obtain ⟨vs, h, hl, k⟩ := j.openL
  refine ⟨vs, h, hl, JX.close (by simp [hl]) ?_⟩
  rw [List.zip_append hl, List.append_assoc]
  exact k
end
end WF
namespace WF
open PySem PySem.Spec PyProof.Rows L2
def wipeS (S : S0) : List Nat → S0
  | [] => S
  | v :: vs => (wipeS S vs).set v .un
def backS (A : S0) : S0 → List Nat → S0
  | S, [] => S
  | S, v :: vs => backS A (S.set v (A.getD v .un)) vs
def tstM : Option EM → S0 → Option (Bool × S0)
  | none, S => some (true, S)
  | some f, S => match f S with
    | some (.ok (.bl b), S') => some (b, S')
    | _ => none
def compL (own : List Nat) (g : GM) (ft : Option EM) (fe : EM) : List D → S0 → List D → Option (List D × S0)
  | [], S, acc => some (acc, S)
  | d :: ds, S, acc => match g d S with
    | none => none
    | some S1 => match tstM ft S1 with
      | some (true, S2) => match fe S2 with
        | some (.ok y, S3) => if acc.length < 1000000 then compL own g ft fe ds (wipeS S3 own) (acc ++ [y]) else none
        | _ => none
      | some (false, S2) => compL own g ft fe ds (wipeS S2 own) acc
      | none => none
def restS (lent : List (Nat × D)) (S : S0) : S0 := match lent with
  | [] => S
  | x :: r => restS r (S.set x.1 x.2)
def compM (own : List Nat) (fi : IM) (g : GM) (ft : Option EM) (fe : EM) : EM := fun S => match fi S with
  | some (.ok ds lent, S1) => if own.all (fun k => decide (k < S1.length)) then match compL own g ft fe ds (wipeS S1 own) [] with
      | some (acc, S2) => some (.ok (.lst true acc), restS lent (backS S1 S2 own))
      | none => none
    else none
  | some (.ex x, S1) => some (.ex x, S1)
  | none => none
def Cfg.blk (c : Cfg) (PV : List (Option (Option V))) : Cfg := { c with PV := PV, W := fun _ _ _ _ => False }
def TTs (c : Cfg) : Option EM → TT
  | none => tYes
  | some f => Tt c f
section
variable {K : PySem.W.Frag} {H : Hp} {R : List Pr}
theorem wipeS_len (S : S0) : ∀ vs, (wipeS S vs).length = S.length
  | [] => rfl
  | v :: vs => by unfold wipeS; rw [List.length_set, wipeS_len S vs]
theorem backS_len (A : S0) : ∀ (S : S0) (vs : List Nat), (backS A S vs).length = S.length
  | S, [] => rfl
  | S, v :: vs => by unfold backS; rw [backS_len A, List.length_set]
theorem wipeS_out {S : S0} {i : Nat} : ∀ {vs : List Nat}, i ∉ vs → (wipeS S vs)[i]? = S[i]?
  | [], _ => rfl
  | v :: vs, h => by
    unfold wipeS
    rw [List.getElem?_set_ne (fun e => h (by simp [e]))]
    exact wipeS_out fun m => h (List.mem_cons_of_mem _ m)
theorem wipeS_in {S : S0} {i : Nat} {d : D} : ∀ {vs : List Nat}, i ∈ vs → (wipeS S vs)[i]? = some d → d = .un
  | v :: vs, h, e => by
    unfold wipeS at e
    by_cases hv : v = i
    · subst hv
      by_cases hl : v < (wipeS S vs).length
      · rw [List.getElem?_set_self hl] at e; exact (Option.some.inj e).symm
      · rw [List.getElem?_eq_none (by rw [List.length_set]; omega)] at e; cases e
    · rw [List.getElem?_set_ne hv] at e
      rcases List.mem_cons.mp h with q | q
      · exact (hv q.symm).elim
      · exact wipeS_in q e
theorem backS_out {A : S0} {i : Nat} : ∀ {vs : List Nat} {S : S0}, i ∉ vs → (backS A S vs)[i]? = S[i]?
  | [], _, _ => rfl
  | v :: vs, S, h => by
    unfold backS
    rw [backS_out (fun m => h (List.mem_cons_of_mem _ m)), List.getElem?_set_ne (fun e => h (by simp [e]))]
theorem backS_in {A : S0} {i : Nat} : ∀ {vs : List Nat} {S : S0}, i ∈ vs → i < S.length → (backS A S vs)[i]? = some (A.getD i .un)
  | v :: vs, S, h, hl => by
    unfold backS
    by_cases hm : i ∈ vs
    · exact backS_in hm (by rw [List.length_set]; exact hl)
    · have e : i = v := by
        rcases List.mem_cons.mp h with q | q
        · exact q
        · exact (hm q).elim
      subst e
      rw [backS_out hm, List.getElem?_set_self hl]
def svOf (σ : L2.St) (S : S0) (own : List Nat) : List Pr := own.map fun v => ((σ.getD v none).getD .non, S.getD v .un)
theorem slot_any : ∀ {σ : L2.St} {S : S0} {i : Nat}, i < S.length → σ.length = S.length → ∃ Z, (slotL σ S).Perm (((σ.getD i none).getD .non, S.getD i .un) :: Z) ∧ ∀ o d', (slotL (σ.set i o) (S.set i d')).Perm ((o.getD .non, d') :: Z)
  | o :: σ, e :: S, 0, _, _ => ⟨slotL σ S, .refl _, fun _ _ => .refl _⟩
  | o :: σ, e :: S, i + 1, hi, hl => by
    obtain ⟨Z, p1, p3⟩ := slot_any (σ := σ) (S := S) (i := i) (by simpa using hi) (by simpa using hl)
    have sw : ∀ {x y : Pr} {A : List Pr}, A.Perm (x :: Z) → (y :: A).Perm (x :: y :: Z) := fun p => (List.Perm.cons _ p).trans (List.Perm.swap _ _ _)
    refine ⟨(o.getD .non, e) :: Z, ?_, fun v' d' => sw (p3 v' d')⟩
    have q := sw (y := (o.getD .non, e)) p1
    simpa [slotL, List.getD_cons_succ] using q
  | [], [], _, h, _ => by simp at h
  | [], _ :: _, _, _, h => by simp at h
  | _ :: _, [], _, h, _ => by simp at h
theorem wipe_joint : ∀ {own : List Nat} {σ : L2.St} {S : S0} {R : List Pr}, own.Nodup → (∀ k ∈ own, k < S.length) → σ.length = S.length → Joint K H (slotL σ S ++ R) → Joint K H (slotL (wipe σ own) (wipeS S own) ++ (svOf σ S own ++ R))
  | [], σ, S, R, _, _, _, j => j
  | v :: vs, σ, S, R, hn, hk, hl, j => by
    have ih := wipe_joint (R := R) (List.nodup_cons.mp hn).2 (fun k m => hk k (List.mem_cons_of_mem _ m)) hl j
    have hlen : (wipe σ vs).length = (wipeS S vs).length := by rw [wipe_length, wipeS_len]; exact hl
    obtain ⟨Z, p1, p2⟩ := slot_any (σ := wipe σ vs) (S := wipeS S vs) (i := v) (by rw [wipeS_len]; exact hk v List.mem_cons_self) hlen
    have hv : v ∉ vs := (List.nodup_cons.mp hn).1
    have e1 : (wipe σ vs).getD v none = σ.getD v none := by rw [List.getD_eq_getElem?_getD, List.getD_eq_getElem?_getD, wipe_out hv]
    have e2 : (wipeS S vs).getD v .un = S.getD v .un := by rw [List.getD_eq_getElem?_getD, List.getD_eq_getElem?_getD, wipeS_out hv]
    rw [e1, e2] at p1
    have k1 := ih.perm (List.Perm.append_right _ p1)
    have k2 : Joint K H ((V.non, D.un) :: (Z ++ (svOf σ S (v :: vs) ++ R))) := by
      refine Joint.un ?_
      refine k1.perm ?_
      show (((σ.getD v none).getD .non, S.getD v .un) :: (Z ++ (svOf σ S vs ++ R))).Perm (Z ++ (((σ.getD v none).getD .non, S.getD v .un) :: (svOf σ S vs ++ R)))
      exact perm_take.symm
    exact k2.perm (List.Perm.append_right _ (p2 none .un).symm)
theorem back_joint : ∀ {own : List Nat} {σ : L2.St} {A S : S0} {R : List Pr}, own.Nodup → (∀ k ∈ own, k < S.length) → σ.length = S.length → Joint K H (slotL (wipe σ own) S ++ (svOf σ A own ++ R)) → Joint K H (slotL σ (backS A S own) ++ R)
  | [], σ, A, S, R, _, _, _, j => j
  | v :: vs, σ, A, S, R, hn, hk, hl, j => by
    have hv : v ∉ vs := (List.nodup_cons.mp hn).1
    have hlen : (wipe σ vs).length = S.length := by rw [wipe_length]; exact hl
    obtain ⟨Z, p1, p2⟩ := slot_any (σ := wipe σ vs) (S := S) (i := v) (hk v List.mem_cons_self) hlen
    have e1 : (wipe σ vs)[v]? = σ[v]? := wipe_out hv
    have q1 : (slotL ((wipe σ vs).set v none) S).Perm ((V.non, S.getD v .un) :: Z) := by
      have := p2 none (S.getD v .un)
      rwa [show S.set v (S.getD v .un) = S by
        rw [List.getD_eq_getElem?_getD, List.getElem?_eq_getElem (hk v List.mem_cons_self)]
        exact List.set_getElem_self _] at this
    have q2 : (slotL (wipe σ vs) (S.set v (A.getD v .un))).Perm (((σ.getD v none).getD .non, A.getD v .un) :: Z) := by
      have := p2 (σ.getD v none) (A.getD v .un)
      rwa [show (wipe σ vs).set v (σ.getD v none) = wipe σ vs by
        have hvl : v < (wipe σ vs).length := by rw [hlen]; exact hk v List.mem_cons_self
        have : σ.getD v none = (wipe σ vs)[v] := by
          rw [List.getD_eq_getElem?_getD, ← e1, List.getElem?_eq_getElem hvl]; rfl
        rw [this]
        exact List.set_getElem_self _] at this
    have k1 : Joint K H ((V.non, S.getD v .un) :: (Z ++ (svOf σ A (v :: vs) ++ R))) := j.perm (List.Perm.append_right _ q1)
    have k2 : Joint K H (((σ.getD v none).getD .non, A.getD v .un) :: (Z ++ (svOf σ A vs ++ R))) := k1.drop.perm perm_take
    have k3 := k2.perm (List.Perm.append_right _ q2.symm)
    exact back_joint (own := vs) (A := A) (S := S.set v (A.getD v .un)) (List.nodup_cons.mp hn).2 (fun k m => by rw [List.length_set]; exact hk k (List.mem_cons_of_mem _ m)) (by rw [List.length_set]; exact hl) k3
def pinB (σ : L2.St) : List Nat → List (Option (Option V))
  | [] => σ.map some
  | v :: vs => (pinB σ vs).set v none
theorem pinB_len (σ : L2.St) : ∀ vs, (pinB σ vs).length = σ.length
  | [] => by simp [pinB]
  | v :: vs => by unfold pinB; rw [List.length_set, pinB_len σ vs]
theorem pinB_in {σ : L2.St} {i : Nat} : ∀ {vs : List Nat}, i ∈ vs → i < σ.length → (pinB σ vs)[i]? = some none
  | v :: vs, h, hl => by
    unfold pinB
    by_cases hv : v = i
    · subst hv; exact List.getElem?_set_self (by rw [pinB_len]; exact hl)
    · rw [List.getElem?_set_ne hv]
      rcases List.mem_cons.mp h with q | q
      · exact (hv q.symm).elim
      · exact pinB_in q hl
theorem pinB_out {σ : L2.St} {i : Nat} : ∀ {vs : List Nat}, i ∉ vs → (pinB σ vs)[i]? = σ[i]?.map some
  | [], _ => by simp [pinB]
  | v :: vs, h => by
    unfold pinB
    rw [List.getElem?_set_ne (fun e => h (by simp [e]))]
    exact pinB_out fun m => h (List.mem_cons_of_mem _ m)
theorem wipe_in {σ : L2.St} {i : Nat} : ∀ {vs : List Nat}, i ∈ vs → i < σ.length → (wipe σ vs)[i]? = some none
  | v :: vs, h, hl => by
    unfold wipe
    by_cases hv : v = i
    · subst hv; exact List.getElem?_set_self (by rw [wipe_length]; exact hl)
    · rw [List.getElem?_set_ne hv]
      rcases List.mem_cons.mp h with q | q
      · exact (hv q.symm).elim
      · exact wipe_in q hl
end
section
variable {c : Cfg} {X : Cx} {S : S0} {tm tm0 : List Pr} {σ σ2 : L2.St} {H : Hp} {own : List Nat}
theorem SJ.wipeB {PV : List (Option (Option V))} (j : SJ (c.blk PV) S tm σ2 H) (hn : own.Nodup) (hk : ∀ k ∈ own, k < S.length) (hp : PV = pinB σ own) : wipe σ2 own = wipe σ own ∧ SJ (c.blk PV) (wipeS S own) tm (wipe σ own) H := by
  have hl : σ2.length = σ.length := by
    have := j.lp
    rw [show (c.blk PV).PV = PV from rfl, hp, pinB_len] at this
    exact this.symm
  have ew : wipe σ2 own = wipe σ own := by
    refine List.ext_getElem? fun i => ?_
    by_cases hi : i ∈ own
    · by_cases hlt : i < σ.length
      · rw [wipe_in hi hlt, wipe_in hi (by omega)]
      · rw [List.getElem?_eq_none (by rw [wipe_length]; omega), List.getElem?_eq_none (by rw [wipe_length]; omega)]
    · rw [wipe_out hi, wipe_out hi]
      by_cases hlt : i < σ.length
      · have h := j.pv i (σ[i]) (by
          rw [show (c.blk PV).PV = PV from rfl, hp, pinB_out hi, List.getElem?_eq_getElem hlt]; rfl)
        rw [h, List.getElem?_eq_getElem hlt]
      · rw [List.getElem?_eq_none (by omega), List.getElem?_eq_none (by omega)]
  refine ⟨ew, ?_⟩
  rw [← ew]
  refine ⟨by rw [wipe_length, wipeS_len]; exact j.len, fun i d h hu => ?_, fun i o h => ?_, by rw [wipe_length]; exact j.lp, ?_⟩
  · by_cases hi : i ∈ own
    · exact (hu (wipeS_in hi h)).elim
    · rw [wipeS_out hi] at h
      rw [wipe_out hi]
      exact j.set i d h hu
  · have hi : i ∉ own := fun hi => by
      have h : PV[i]? = some (some o) := h
      by_cases hlt : i < σ.length
      · rw [hp, pinB_in hi hlt] at h; cases h
      · rw [hp, List.getElem?_eq_none (by rw [pinB_len]; omega)] at h; cases h
    rw [wipe_out hi]
    exact j.pv i o h
  · have k := wipe_joint hn hk j.len j.jt
    exact (k.perm perm_sw).dropL
theorem lent_ok : ∀ {L : List (Nat × D)} {SB : S0} {R : List Pr}, LentOk σ L → SL c SB σ → Joint c.K H (slotL σ SB ++ (lentL σ L ++ R)) → SL c (restS L SB) σ ∧ Joint c.K H (slotL σ (restS L SB) ++ R)
  | [], SB, R, _, l, j => ⟨l, j⟩
  | (i, d) :: r, SB, R, lo, l, j => by
    obtain ⟨v, ev⟩ := lo (i, d) List.mem_cons_self
    have hlt : i < SB.length := by rw [← l.len]; exact (List.getElem?_eq_some_iff.mp ev).1
    obtain ⟨Z, p1, p2, _⟩ := slot_get ev (List.getElem?_eq_getElem hlt) l.len
    have ee : (σ.getD i none).getD .non = v := by rw [List.getD_eq_getElem?_getD, ev]; rfl
    have k1 : Joint c.K H (Z ++ (((v, d) :: lentL σ r) ++ R)) := by
      have q := j.perm (List.Perm.append_right _ p1)
      have q2 : Joint c.K H (Z ++ (lentL σ ((i, d) :: r) ++ R)) := Joint.drop q
      rwa [show lentL σ ((i, d) :: r) = (v, d) :: lentL σ r by unfold lentL; rw [List.map_cons, ee]] at q2
    have k2 : Joint c.K H (slotL σ (SB.set i d) ++ (lentL σ r ++ R)) := (k1.perm perm_take).perm (List.Perm.append_right _ (p2 d).symm)
    exact lent_ok (L := r) (SB := SB.set i d) (fun x m => lo x (List.mem_cons_of_mem _ m)) (l.upd ev) k2
theorem lc_read {fi : IM} {g : GM} {ft : Option EM} {fe : EM} {Q : VK} (hn : own.Nodup) (hpv : ∀ k ∈ own, (pinB σ own)[k]? = some none) (h : T c (compM own fi g ft fe) σ H Q) :
    tLc (TIm c fi) (UG (c.blk (pinB σ own)) g) (TTs (c.blk (pinB σ own)) ft) (T (c.blk (pinB σ own)) fe) own σ H Q := by
  obtain ⟨S, tm, j, p⟩ := h
  refine ⟨S, tm, j, ?_⟩
  unfold compM at p
  cases hf : fi S with
  | none => rw [hf] at p; exact p.elim
  | some o =>
    obtain ⟨o, S1⟩ := o
    rw [hf] at p
    cases o with
    | ex x => exact p
    | ok ds lent =>
      simp only at p
      split at p
      · rename_i hall
        have hk : ∀ k ∈ own, k < S1.length := fun k m => by
          have := List.all_eq_true.mp hall k m
          simpa using this
        cases hcl : compL own g ft fe ds (wipeS S1 own) [] with
        | none => rw [hcl] at p; exact p.elim
        | some r =>
          obtain ⟨accF, SF⟩ := r
          rw [hcl] at p
          intro lok J hold0 H1 J1 j1 DA hD
          generalize hhold : hold0 ++ lentL σ lent = hold at J1
          have j1 : SJ c S1 (hold ++ tm) σ H1 := by rw [← hhold, List.append_assoc]; exact j1
          let c' := c.blk (pinB σ own)
          let sv := svOf σ S1 own
          have j0 : SJ c' (wipeS S1 own) ((.ref DA, .lst true []) :: (hold ++ (sv ++ tm))) (wipe σ own) (upd H1 DA (.lst [])) := by
            refine ⟨by rw [wipe_length, wipeS_len]; exact j1.len, fun i d h hu => ?_, fun i o h => ?_, by rw [wipe_length]; exact pinB_len σ own, ?_⟩
            · by_cases hi : i ∈ own
              · exact (hu (wipeS_in hi h)).elim
              · rw [wipeS_out hi] at h
                rw [wipe_out hi]
                exact j1.set i d h hu
            · have hi : i ∉ own := fun hi => by
                have h : (pinB σ own)[i]? = some (some o) := h
                rw [hpv i hi] at h; cases h
              rw [wipe_out hi]
              have h : (pinB σ own)[i]? = some (some o) := h
              rw [pinB_out hi, Option.map_eq_some_iff] at h
              obtain ⟨a, ha, e⟩ := h
              cases e
              exact ha
            · have k := wipe_joint hn hk j1.len j1.jt
              have k2 : Joint c.K H1 (slotL (wipe σ own) (wipeS S1 own) ++ (hold ++ (sv ++ tm) ++ c.rs)) := k.perm (List.Perm.append_left _ (by
                rw [List.append_assoc, List.append_assoc hold, List.append_assoc]
                exact perm_sw))
              have k3 := Joint.lst (vs := []) (ds := []) (R := slotL (wipe σ own) (wipeS S1 own) ++ (hold ++ (sv ++ tm) ++ c.rs)) rfl k2 hD
              exact k3.perm perm_take.symm
          refine ⟨fun i m H => m = ds.length - i ∧ i ≤ ds.length ∧ ∃ S acc, SJ c' S ((.ref DA, .lst true acc) :: (hold ++ (sv ++ tm))) (wipe σ own) H ∧ compL own g ft fe (ds.drop i) S acc = some (accF, SF), ⟨_, rfl, Nat.zero_le _, _, _, j0, hcl⟩, ?_⟩
          rintro i m H2 ⟨rfl, hi2, S2, acc, j2, p2⟩
          have hkS : ∀ {S : S0} {tm : List Pr} {σ2 : L2.St} {H : Hp}, SJ c' S tm σ2 H → ∀ k ∈ own, k < S.length := fun {S tm σ2 H} q k m => by
            have e1 := q.lp
            rw [show c'.PV = pinB σ own from rfl, pinB_len] at e1
            rw [← q.len, ← e1, j1.len]
            exact hk k m
          have jh : Joint c.K H2 (hold ++ (slotL (wipe σ own) S2 ++ ((.ref DA, .lst true acc) :: (sv ++ tm) ++ c.rs))) := j2.jt.perm (by
            show (slotL (wipe σ own) S2 ++ ((V.ref DA, D.lst true acc) :: (hold ++ (sv ++ tm)) ++ c.rs)).Perm _
            have e1 : ((V.ref DA, D.lst true acc) :: (hold ++ (sv ++ tm)) ++ c.rs).Perm (hold ++ ((V.ref DA, D.lst true acc) :: (sv ++ tm) ++ c.rs)) := by
              rw [List.cons_append, List.cons_append, List.append_assoc]
              exact perm_take.symm
            exact (List.Perm.append_left _ e1).trans perm_sw)
          by_cases hlt : i < ds.length
          · have hd : ds[i]? = some ds[i] := List.getElem?_eq_getElem hlt
            rw [List.drop_eq_getElem_cons hlt] at p2
            refine .inr ⟨J1.go i H2 _ hlt jh, fun H' => ∃ S acc, SJ c' S ((.ref DA, .lst true acc) :: (hold ++ (sv ++ tm))) (wipe σ own) H' ∧ compL own g ft fe (ds.drop (i + 1)) S acc = some (accF, SF), fun H' ⟨S3, acc3, j3, p3⟩ => ⟨_, (by omega : ds.length - (i + 1) < ds.length - i), rfl, hlt, S3, acc3, j3, p3⟩, fun x H3 hy => ?_⟩
            have k := J1.yld i H2 _ _ _ _ hd jh hy
            refine ⟨ds[i], S2, (.ref DA, .lst true acc) :: (hold ++ (sv ++ tm)), j2.put (k.perm (List.Perm.cons _ ?_)), ?_⟩
            · refine perm_sw.trans (List.Perm.append_left _ ?_)
              show (hold ++ ((V.ref DA, D.lst true acc) :: ((sv ++ tm) ++ c.rs))).Perm ((V.ref DA, D.lst true acc) :: ((hold ++ (sv ++ tm)) ++ c.rs))
              rw [List.append_assoc hold]
              exact perm_take
            unfold compL at p2
            cases hg : g ds[i] S2 with
            | none => rw [hg] at p2; cases p2
            | some S3 =>
              rw [hg] at p2
              intro σ4 H4 j4
              refine ⟨(j4.wipeB hn (hkS j4) rfl).1, ?_⟩
              simp only at p2
              have after : ∀ {S5 : S0} {H5 : Hp} {acc' : List D}, SJ c' S5 ((.ref DA, .lst true acc') :: (hold ++ (sv ++ tm))) σ4 H5 → compL own g ft fe (ds.drop (i + 1)) (wipeS S5 own) acc' = some (accF, SF) → ∃ S acc, SJ c' S ((.ref DA, .lst true acc) :: (hold ++ (sv ++ tm))) (wipe σ own) H5 ∧ compL own g ft fe (ds.drop (i + 1)) S acc = some (accF, SF) :=
                fun {S5 H5 acc'} q e => ⟨wipeS S5 own, acc', (q.wipeB hn (hkS q) rfl).2, e⟩
              have elem : ∀ {S5 : S0} {H5 : Hp}, SJ c' S5 ((.ref DA, .lst true acc) :: (hold ++ (sv ++ tm))) σ4 H5 → (match fe S5 with
                  | some (.ok y, S6) => if acc.length < 1000000 then compL own g ft fe (ds.drop (i + 1)) (wipeS S6 own) (acc ++ [y]) else none
                  | _ => none) = some (accF, SF) → T c' fe σ4 H5 (fun y H6 => ∃ acc', H6 DA = some (.lst acc') ∧ acc'.length < sizeLine ∧ ∃ S acc, SJ c' S ((.ref DA, .lst true acc) :: (hold ++ (sv ++ tm))) (wipe σ own) (upd H6 DA (.lst (acc' ++ [y]))) ∧ compL own g ft fe (ds.drop (i + 1)) S acc = some (accF, SF)) := fun {S5 H5} q e => by
                refine ⟨S5, _, q, ?_⟩
                cases hfe : fe S5 with
                | none => rw [hfe] at e; cases e
                | some o =>
                  obtain ⟨o, S6⟩ := o
                  rw [hfe] at e
                  cases o with
                  | ex x => cases e
                  | ok y =>
                    simp only at e
                    split at e
                    · rename_i hsz
                      intro vy H6 j6
                      have j6' : Joint c.K H6 ((.ref DA, .lst true acc) :: ((vy, y) :: (slotL σ4 S6 ++ ((hold ++ (sv ++ tm)) ++ c.rs)))) := j6.take.perm ((List.Perm.cons _ perm_take).trans (List.Perm.swap _ _ _))
                      obtain ⟨vs, hD6, hl6, k6⟩ := j6'.app
                      refine ⟨vs, hD6, Nat.lt_trans (by omega : vs.length < 1000000) (by decide), ?_⟩
                      exact after (j6.drop.drop.put k6) e
                    · cases e
              cases hts : tstM ft S3 with
              | none => rw [hts] at p2; cases p2
              | some r =>
                obtain ⟨b, S5⟩ := r
                rw [hts] at p2
                cases ft with
                | none =>
                  simp only [tstM, Option.some.injEq, Prod.mk.injEq] at hts
                  obtain ⟨rfl, rfl⟩ := hts
                  simp only [TTs, tYes, if_true]
                  exact elem j4 p2
                | some f =>
                  simp only [tstM] at hts
                  refine ⟨S3, _, j4, ?_⟩
                  cases hfs : f S3 with
                  | none => rw [hfs] at hts; cases hts
                  | some o =>
                    rw [hfs] at hts
                    split at hts
                    · rename_i b' S5' heq
                      cases heq
                      cases hts
                      intro v H5 j5
                      refine ⟨b, j5.take.is_bl, ?_⟩
                      cases b with
                      | true =>
                        rw [if_pos rfl]
                        exact elem j5.drop p2
                      | false =>
                        rw [if_neg Bool.false_ne_true]
                        exact after j5.drop p2
                    · cases hts
          · have e : i = ds.length := by omega
            subst e
            rw [List.drop_length] at p2
            simp only [compL, Option.some.injEq, Prod.mk.injEq] at p2
            obtain ⟨rfl, rfl⟩ := p2
            refine .inl ⟨J1.stop H2 _ jh, p _ _ ?_⟩
            have hls : S1.length = S2.length := by
              have e1 := j2.lp
              rw [show c'.PV = pinB σ own from rfl, pinB_len] at e1
              rw [← j1.len, e1]
              exact j2.len
            have lst : ∀ {L : List (Nat × D)} {SB : S0} {R : List Pr}, LentOk σ L → SL c SB σ → Joint c.K H2 (slotL σ SB ++ (lentL σ L ++ R)) → SL c (restS L SB) σ ∧ Joint c.K H2 (slotL σ (restS L SB) ++ R) := lent_ok
            have sb : SL c (backS S1 S2 own) σ := by
              refine ⟨by rw [backS_len, ← hls]; exact j1.len, fun i d h hu => ?_, j1.pv, j1.lp⟩
              by_cases hi : i ∈ own
              · rw [backS_in hi (hls ▸ hk i hi)] at h
                rw [List.getD_eq_getElem?_getD, List.getElem?_eq_getElem (hk i hi)] at h
                exact j1.set i _ (List.getElem?_eq_getElem (hk i hi)) (by rw [Option.getD_some] at h; rw [Option.some.inj h]; exact hu)
              · rw [backS_out hi] at h
                obtain ⟨v, hv⟩ := j2.set i d h hu
                rw [wipe_out hi] at hv
                exact ⟨v, hv⟩
            have kb : Joint c.K H2 (slotL σ (backS S1 S2 own) ++ (lentL σ lent ++ ((.ref DA, .lst true acc) :: tm ++ c.rs))) := by
              refine back_joint hn (fun k m => hls ▸ hk k m) (by rw [← hls]; exact j1.len) ?_
              have k1 : Joint c.K H2 (hold ++ (slotL (wipe σ own) S2 ++ (sv ++ ((.ref DA, .lst true acc) :: tm ++ c.rs)))) := jh.perm (List.Perm.append_left _ (List.Perm.append_left _ (by
                show ((V.ref DA, D.lst true acc) :: ((sv ++ tm) ++ c.rs)).Perm (sv ++ ((V.ref DA, D.lst true acc) :: (tm ++ c.rs)))
                rw [List.append_assoc]
                exact perm_take.symm)))
              rw [← hhold, List.append_assoc] at k1
              exact (k1.dropL).perm (perm_sw.trans (List.Perm.append_left _ perm_sw))
            obtain ⟨s1, k2⟩ := lst lok sb kb
            exact s1.sj k2
      · exact p.elim
theorem own_pv {N : List Str} {sc scope : Scope} {ow : List (Str × Nat)} (ok : BlkOk N sc scope ow) (hl : σ.length = N.length) : ∀ k ∈ ow.map (·.2), (pinB σ (ow.map (·.2)))[k]? = some none := fun k m => pinB_in m (by
  obtain ⟨q, hq, rfl⟩ := List.mem_map.mp m
  rw [hl]
  exact (List.getElem?_eq_some_iff.mp (ok.ix q hq)).1)
theorem w_lc {elt tg iter : Expr} {ifs : List Expr} {scope : Scope} {ow : List (Str × Nat)} {pos : Pos} {fi : IM} {g : GM} {ft : Option EM} {fe : EM} (hc : X.calm = true) (hN : X.N.Nodup) (hi : PI X tg iter (TIm c fi)) (ok : BlkOk X.N X.env.scope scope ow) (hn : (ow.map (·.2)).Nodup)
    (hg : ∀ PV, (∀ k ∈ ow.map (·.2), PV[k]? = some none) → ∀ (s : Shared) (H : Hp) (C : Addr) (cl : List (Str × Addr)) (fp : List Addr), PG (X.blk s H scope (compEnvC scope cl C X.env) fp) tg (UG (c.blk PV) g))
    (ht : ∀ PV, (∀ k ∈ ow.map (·.2), PV[k]? = some none) → ∀ (s : Shared) (H : Hp) (C : Addr) (cl : List (Str × Addr)) (fp : List Addr), PTs (X.blk s H scope (compEnvC scope cl C X.env) fp) ifs (TTs (c.blk PV) ft))
    (he : ∀ PV, (∀ k ∈ ow.map (·.2), PV[k]? = some none) → ∀ (s : Shared) (H : Hp) (C : Addr) (cl : List (Str × Addr)) (fp : List Addr), PE (X.blk s H scope (compEnvC scope cl C X.env) fp) elt (T (c.blk PV) fe))
    (hs : ∀ x, foldedSetIterable iter X.env x = pure x := by intro _; rfl) :
    PE X (.ListComp elt [⟨tg, iter, ifs, 0⟩] scope pos) (T c (compM (ow.map (·.2)) fi g ft fe)) := by
  exact ⟨fun pins s σ H Q I h => (pe_lc hc hN hi ok (hg _ (own_pv ok I.len)) (ht _ (own_pv ok I.len)) (he _ (own_pv ok I.len)) hs).run pins s σ H Q I (lc_read hn (own_pv ok I.len) h)⟩
theorem w_setLc {i : Nat} {y : Str} {py spos : Pos} {elt tg iter : Expr} {ifs : List Expr} {scope : Scope} {ow : List (Str × Nat)} {pos : Pos} {fi : IM} {g : GM} {ft : Option EM} {fe : EM} (hc : X.calm = true) (hN : X.N.Nodup) (hy : X.N[i]? = some y) (hyl : X.env.scope.names.lookup y = some .local) (hp : c.PV[i]? = some none) (hsw : swapsWith (.ListComp elt [⟨tg, iter, ifs, 0⟩] scope pos) (some (.Name y py)) spos.line X.env = pure true) (hi : PI X tg iter (TIm c fi)) (ok : BlkOk X.N X.env.scope scope ow) (hn : (ow.map (·.2)).Nodup)
    (hg : ∀ PV, (∀ k ∈ ow.map (·.2), PV[k]? = some none) → ∀ (s : Shared) (H : Hp) (C : Addr) (cl : List (Str × Addr)) (fp : List Addr), PG (X.blk s H scope (compEnvC scope cl C X.env) fp) tg (UG (c.blk PV) g))
    (ht : ∀ PV, (∀ k ∈ ow.map (·.2), PV[k]? = some none) → ∀ (s : Shared) (H : Hp) (C : Addr) (cl : List (Str × Addr)) (fp : List Addr), PTs (X.blk s H scope (compEnvC scope cl C X.env) fp) ifs (TTs (c.blk PV) ft))
    (he : ∀ PV, (∀ k ∈ ow.map (·.2), PV[k]? = some none) → ∀ (s : Shared) (H : Hp) (C : Addr) (cl : List (Str × Addr)) (fp : List Addr), PE (X.blk s H scope (compEnvC scope cl C X.env) fp) elt (T (c.blk PV) fe))
    (hs : ∀ x, foldedSetIterable iter X.env x = pure x := by intro _; rfl) :
    PS X (.Assign [.Name y py] (.ListComp elt [⟨tg, iter, ifs, 0⟩] scope pos) spos) (U c (asgM (compM (ow.map (·.2)) fi g ft fe) (gSetM i))) := by
  refine ⟨fun pins s σ H E I h => (ps_setLc (i := i) hc hN hy hyl hsw hi ok (hg _ (own_pv ok I.len)) (ht _ (own_pv ok I.len)) (he _ (own_pv ok I.len)) hs).run pins s σ H E I (lc_read (Q := fun x H1 => gName i x σ H1 E.nx) hn (own_pv ok I.len) ?_)⟩
  obtain ⟨S, tm, j, p⟩ := h
  refine (post_bindS j p).mono fun v H1 ⟨d, S', j', p'⟩ => ?_
  unfold gSetM at p'
  by_cases hl : i < S'.length
  · rw [if_pos hl] at p'
    exact p' _ _ (j'.setSlot hl hp)
  · rw [if_neg hl] at p'; exact p'.elim
end
end WF
namespace WF
open PySem PySem.Spec PyProof.Rows L2
def Op2R (K : PySem.W.Frag) (r : R2) (op : D → D → Option D) : Prop := ∀ H (R : List Pr) v1 v2 d1 d2 d (Q : VK), op d1 d2 = some d → Joint K H ((v2, d2) :: (v1, d1) :: R) → (∀ v, Joint K H ((v, d) :: (v2, d2) :: (v1, d1) :: R) → Q v H) → r v1 v2 H Q
def CallRO (K : PySem.W.Frag) (r : List V → Hp → VK → Prop) (op : List D → Option D) : Prop := ∀ H (R : List Pr) vs ds d (Q : VK), vs.length = ds.length → op ds = some d → Joint K H (vs.zip ds ++ R) → (∀ v, Joint K H ((v, d) :: (vs.zip ds ++ R)) → Q v H) → r vs H Q
def addD : D → D → Option D
  | .int a, .int b => some (.int (a + b))
  | .lst _ xs, .lst _ ys => if xs.length + ys.length ≤ 1000000 then some (.lst true (xs ++ ys)) else none
  | .tup xs, .tup ys => if xs.length + ys.length ≤ 1000000 then some (.tup (xs ++ ys)) else none
  | .str a, .str b => if a.length + b.length ≤ 1000000 then some (.str (a ++ b)) else none
  | _, _ => none
def rAddA (K : PySem.W.Frag) : R2 := fun x y H Q => rI0 (fun i j => .int (i + j)) x y H Q ∨ rCat x y H Q ∨ rCatA K x y H Q ∨ (∃ i j, x = .str i ∧ y = .str j ∧ i.length + j.length ≤ sizeLine ∧ Q (.str (i ++ j)) H)
theorem op_addA {X : Cx} : OpR X (binaryOp .Add) (rAddA X.K) := op_add.or (op_cat.or (op_catA.or op_add_str))
section
variable {K : PySem.W.Frag}
theorem big_le {n : Nat} (h : n ≤ 1000000) : n ≤ sizeLine := Nat.le_trans h (by decide)
theorem ju_int {H : Hp} {R : List Pr} {i : Int} (j : Joint K H R) : Joint K H ((.int i, .int i) :: R) := let ⟨G, fp, g, r, n, z⟩ := j; ⟨G, fp, g, .int r, n, z⟩
theorem ju_bl {H : Hp} {R : List Pr} {i : Bool} (j : Joint K H R) : Joint K H ((.bl i, .bl i) :: R) := let ⟨G, fp, g, r, n, z⟩ := j; ⟨G, fp, g, .bl r, n, z⟩
theorem ju_str {H : Hp} {R : List Pr} {i : Str} (j : Joint K H R) : Joint K H ((.str i, .str i) :: R) := let ⟨G, fp, g, r, n, z⟩ := j; ⟨G, fp, g, .str r, n, z⟩
theorem ju_non {H : Hp} {R : List Pr} (j : Joint K H R) : Joint K H ((.non, .non) :: R) := let ⟨G, fp, g, r, n, z⟩ := j; ⟨G, fp, g, .non r, n, z⟩
theorem Joint.sw {H : Hp} {R : List Pr} {x y : Pr} (j : Joint K H (x :: y :: R)) : Joint K H (y :: x :: R) := j.perm (List.Perm.swap _ _ _)
theorem zip_app {vs vs' : List V} {ds ds' : List D} {R : List Pr} (h : vs.length = ds.length) : (vs ++ vs').zip (ds ++ ds') ++ R = vs.zip ds ++ (vs'.zip ds' ++ R) := by rw [List.zip_append h, List.append_assoc]
theorem s_add : Op2 K (rAddA K) addD := by
  intro H R v1 v2 d1 d2 d Q e j q
  unfold addD at e
  split at e
  · cases e
    have e2 := j.is_int
    have e1 := j.sw.is_int
    exact .inl ⟨_, _, e1, e2, q _ _ (ju_int j.drop.drop)⟩
  · split at e
    · rename_i hsz
      cases e
      obtain ⟨b, rfl⟩ := j.is_lst
      obtain ⟨a, rfl⟩ := j.sw.is_lst
      obtain ⟨ws, hb, lb, kb⟩ := j.unlst
      have kb2 := kb.perm perm_take
      obtain ⟨us, ha, la, ka⟩ := kb2.unlst
      refine .inr (.inl ⟨a, b, us, ws, rfl, rfl, ha, hb, big_le (by omega), fun p hp => q _ _ (Joint.lst (by simp [la, lb]) ?_ hp)⟩)
      rw [zip_app la]
      exact ka
    · cases e
  · split at e
    · rename_i xs ys hsz
      cases e
      obtain ⟨b, rfl⟩ := j.is_tup
      obtain ⟨a, rfl⟩ := j.sw.is_tup
      obtain ⟨ws, hb, lb, kb⟩ := j.untup
      have kb2 := kb.perm perm_take
      obtain ⟨us, ha, la, ka⟩ := kb2.untup
      refine .inr (.inr (.inl ⟨a, b, us, ws, rfl, rfl, .inl (.inl ha), .inl (.inl hb), big_le (by omega), fun h0 => q _ _ ?_, fun h0 h1 => q _ _ ?_, fun h0 h1 p hp => q _ _ (Joint.tup (by simp [la, lb]) ?_ hp)⟩))
      · have : xs = [] := by cases xs with | nil => rfl | cons _ _ => rw [h0] at la; simp at la
        rw [this, List.nil_append]
        exact j.sw.drop
      · have : ys = [] := by cases ys with | nil => rfl | cons _ _ => rw [h1] at lb; simp at lb
        rw [this, List.append_nil]
        exact j.drop
      · rw [zip_app la]
        exact ka
    · cases e
  · split at e
    · cases e
      have e2 := j.is_str
      have e1 := j.sw.is_str
      exact .inr (.inr (.inr ⟨_, _, e1, e2, big_le (by assumption), q _ _ (ju_str j.drop.drop)⟩))
    · cases e
  · cases e
def intD (C : Int → Int → Bool) (g : Int → Int → D) : D → D → Option D
  | .int a, .int b => if C a b then some (g a b) else none
  | _, _ => none
theorem s_int {C : Int → Int → Bool} {C' : Int → Int → Prop} {g : Int → Int → D} {g' : Int → Int → V} (hC : ∀ a b, C a b = true → C' a b) (hg : ∀ H R a b, Joint K H R → Joint K H ((g' a b, g a b) :: R)) : Op2 K (rI C' g') (intD C g) := by
  intro H R v1 v2 d1 d2 d Q e j q
  unfold intD at e
  split at e
  · split at e
    · cases e
      exact ⟨_, _, j.sw.is_int, j.is_int, hC _ _ (by assumption), q _ _ (hg _ _ _ _ j.drop.drop)⟩
    · cases e
  · cases e
theorem s_int0 {g : Int → Int → D} {g' : Int → Int → V} (hg : ∀ H R a b, Joint K H R → Joint K H ((g' a b, g a b) :: R)) : Op2 K (rI0 g') (intD (fun _ _ => true) g) := by
  intro H R v1 v2 d1 d2 d Q e j q
  unfold intD at e
  split at e
  · simp only [if_true] at e
    cases e
    exact ⟨_, _, j.sw.is_int, j.is_int, q _ _ (hg _ _ _ _ j.drop.drop)⟩
  · cases e
abbrev subD := intD (fun _ _ => true) fun a b => .int (a - b)
theorem s_sub : Op2 K (rI0 fun i j => .int (i - j)) subD := s_int0 fun _ _ _ _ j => ju_int j
theorem r_int0 {g : Int → Int → D} {g' : Int → Int → V} (hg : ∀ H R a b, Joint K H R → Joint K H ((g' a b, g a b) :: R)) : Op2R K (rI0 g') (intD (fun _ _ => true) g) := by
  intro H R v1 v2 d1 d2 d Q e j q
  unfold intD at e
  split at e
  · simp only [if_true] at e
    cases e
    exact ⟨_, _, j.sw.is_int, j.is_int, q _ (hg _ _ _ _ j)⟩
  · cases e
abbrev leD := intD (fun _ _ => true) fun a b => .bl (decide (a ≤ b))
abbrev gtD := intD (fun _ _ => true) fun a b => .bl (decide (b < a))
abbrev geD := intD (fun _ _ => true) fun a b => .bl (decide (b ≤ a))
theorem s_le : Op2R K (rI0 fun i j => .bl (decide (i ≤ j))) leD := r_int0 fun _ _ _ _ j => ju_bl j
theorem s_gt : Op2R K (rI0 fun i j => .bl (decide (j < i))) gtD := r_int0 fun _ _ _ _ j => ju_bl j
theorem s_ge : Op2R K (rI0 fun i j => .bl (decide (j ≤ i))) geD := r_int0 fun _ _ _ _ j => ju_bl j
abbrev fdivD := intD (fun _ b => decide (0 < b) && decide (b < 2 ^ 64)) fun a b => .int (a / b)
abbrev modD := intD (fun _ b => decide (0 < b)) fun a b => .int (a % b)
abbrev powD := intD (fun a b => decide (0 ≤ b) && decide (b ≤ 1000) && decide (a.natAbs < 2 ^ 64)) fun a b => .int (a ^ b.toNat)
theorem s_fdiv : Op2 K (rI CDivW fun i j => .int (i / j)) fdivD := s_int (fun a b h => by
  simp only [Bool.and_eq_true, decide_eq_true_eq] at h
  refine wide_div (b := 64) h.1 ?_ (by decide) (by decide)
  have h1 : (b.natAbs : Int) < 2 ^ 64 := by omega
  exact_mod_cast h1) fun _ _ _ _ j => ju_int j
theorem s_mod : Op2 K (rI (fun _ j => 0 < j) fun i j => .int (i % j)) modD := s_int (fun a b h => by simpa using h) fun _ _ _ _ j => ju_int j
theorem s_pow : Op2 K (rI CPow fun i j => .int (i ^ j.toNat)) powD := s_int (fun a b h => by
  simp only [Bool.and_eq_true, decide_eq_true_eq] at h
  exact ⟨h.1.1, by omega, h.2⟩) fun _ _ _ _ j => ju_int j
def negD : D → Option D
  | .int a => some (.int (-a))
  | _ => none
theorem s_neg : Op1 K (rU fun i => .int (-i)) negD := by
  intro H R v1 d1 d Q e j q
  unfold negD at e
  split at e
  · cases e
    exact ⟨_, j.is_int, q _ _ (ju_int j.drop)⟩
  · cases e
end
end WF
namespace WF
open PySem PySem.Spec PyProof.Rows L2
mutual
def D.py : D → Option PyData
  | .non => some .none
  | .bl b => some (.bool b)
  | .int i => some (.int i)
  | .str x => some (.str x)
  | .tup xs => (D.pys xs).map .tuple
  | .lst _ xs => (D.pys xs).map .list
  | _ => none
def D.pys : List D → Option (List PyData)
  | [] => some []
  | x :: xs => match x.py, D.pys xs with
    | some a, some b => some (a :: b)
    | _, _ => none
end
section
variable {K : PySem.W.Frag} {G H : Hp} {L R : List Pr}
theorem pys_cons {x : D} {xs : List D} {y : List PyData} (h : D.pys (x :: xs) = some y) : ∃ a b, x.py = some a ∧ D.pys xs = some b ∧ y = a :: b := by
  simp only [D.pys] at h
  split at h
  · cases h; exact ⟨_, _, by assumption, by assumption, rfl⟩
  · cases h
theorem Reps.dp {fp : List Addr} (r : Reps K G H L fp) (g : GSub G H) : ∀ {ys : List PyData}, D.pys (L.map Prod.snd) = some ys → DpAll K H (L.map Prod.fst) ys := by
  induction r with
  | nil => intro ys h; cases h; exact .nil
  | un _ ih => intro ys h; obtain ⟨a, b, h1, h2, rfl⟩ := pys_cons h; cases h1
  | non _ ih => intro ys h; obtain ⟨a, b, h1, h2, rfl⟩ := pys_cons h; cases h1; exact .cons .non (ih h2)
  | bl _ ih => intro ys h; obtain ⟨a, b, h1, h2, rfl⟩ := pys_cons h; cases h1; exact .cons (.bl _) (ih h2)
  | int _ ih => intro ys h; obtain ⟨a, b, h1, h2, rfl⟩ := pys_cons h; cases h1; exact .cons (.int _) (ih h2)
  | str _ ih => intro ys h; obtain ⟨a, b, h1, h2, rfl⟩ := pys_cons h; cases h1; exact .cons (.str _) (ih h2)
  | vl _ ih => intro ys h; obtain ⟨a, b, h1, h2, rfl⟩ := pys_cons h; cases h1
  | scr _ _ ih => intro ys h; obtain ⟨a, b, h1, h2, rfl⟩ := pys_cons h; cases h1
  | hld _ _ _ ih => intro ys h; obtain ⟨a, b, h1, h2, rfl⟩ := pys_cons h; cases h1
  | con _ _ _ ih => intro ys h; obtain ⟨a, b, h1, h2, rfl⟩ := pys_cons h; cases h1
  | tab _ _ ih => intro ys h; obtain ⟨a, b, h1, h2, rfl⟩ := pys_cons h; cases h1
  | of _ _ _ _ _ _ _ ih1 ih2 => intro ys h; obtain ⟨a, b, h1, h2, rfl⟩ := pys_cons h; cases h1
  | oo _ _ _ _ _ _ _ ih1 ih2 => intro ys h; obtain ⟨a, b, h1, h2, rfl⟩ := pys_cons h; cases h1
  | exn _ _ _ _ _ _ _ ih1 ih2 => intro ys h; obtain ⟨a, b, h1, h2, rfl⟩ := pys_cons h; cases h1
  | tup a b e r1 r2 ih1 ih2 =>
    intro ys h
    obtain ⟨y, z, h1, h2, rfl⟩ := pys_cons h
    simp only [D.py, Option.map_eq_some_iff] at h1
    obtain ⟨w, h3, rfl⟩ := h1
    subst b e
    exact .cons (.tup (.inl (.inl (g _ _ a))) (ih1 h3)) (ih2 h2)
  | lf a b e r1 r2 ih1 ih2 =>
    intro ys h
    obtain ⟨y, z, h1, h2, rfl⟩ := pys_cons h
    simp only [D.py, Option.map_eq_some_iff] at h1
    obtain ⟨w, h3, rfl⟩ := h1
    subst b e
    exact .cons (.lst (.inl (.inl (g _ _ a))) (ih1 h3)) (ih2 h2)
  | lo a b e r1 r2 ih1 ih2 =>
    intro ys h
    obtain ⟨y, z, h1, h2, rfl⟩ := pys_cons h
    simp only [D.py, Option.map_eq_some_iff] at h1
    obtain ⟨w, h3, rfl⟩ := h1
    subst b e
    exact .cons (.lst (.inl (.inl a)) (ih1 h3)) (ih2 h2)
  | kf => intro ys h; obtain ⟨a, b, h1, h2, rfl⟩ := pys_cons h; cases h1
  | ko => intro ys h; obtain ⟨a, b, h1, h2, rfl⟩ := pys_cons h; cases h1
  | tf => intro ys h; obtain ⟨a, b, h1, h2, rfl⟩ := pys_cons h; cases h1
  | to => intro ys h; obtain ⟨a, b, h1, h2, rfl⟩ := pys_cons h; cases h1
theorem Joint.dp {v : V} {d : D} {y : PyData} (j : Joint K H ((v, d) :: R)) (h : d.py = some y) : Dp K H v y := by
  obtain ⟨G, fp, g, r, n, z⟩ := j
  obtain ⟨f1, f2, rfl, r1, r2⟩ := r.uncons
  have q := r1.dp g (ys := [y]) (by simp [D.pys, h])
  cases q with
  | cons a _ => exact a
def eqD (neg : Bool) (a b : D) : Option D := match a.py, b.py with
  | some x, some y => if SeqAt.shaped x && SeqAt.shaped y then some (.bl (if neg then !PyData.eqv x y else PyData.eqv x y)) else none
  | _, _ => none
theorem s_eq : Op2R K (rEqD K) (eqD false) := by
  intro H R v1 v2 d1 d2 d Q e j q
  unfold eqD at e
  split at e
  · split at e
    · rename_i x y h1 h2 hs
      simp only [Bool.and_eq_true] at hs
      cases e
      exact ⟨x, y, j.sw.dp h1, j.dp h2, hs.1, hs.2, q _ (ju_bl j)⟩
    · cases e
  · cases e
theorem s_ne : Op2R K (rNeD K) (eqD true) := by
  intro H R v1 v2 d1 d2 d Q e j q
  unfold eqD at e
  split at e
  · split at e
    · rename_i x y h1 h2 hs
      simp only [Bool.and_eq_true] at hs
      cases e
      exact ⟨x, y, j.sw.dp h1, j.dp h2, hs.1, hs.2, q _ (ju_bl j)⟩
    · cases e
  · cases e
def inD (neg : Bool) (a b : D) : Option D := match b with
  | .lst _ xs => match a.py, D.pys xs with
    | some x, some ys => if SeqAt.shaped x && SeqAt.shaped (.list ys) then some (.bl (if neg then !ys.any (fun z => PyData.eqv z x) else ys.any fun z => PyData.eqv z x)) else none
    | _, _ => none
  | _ => none
theorem s_notIn : Op2R K (rNotInD K) (inD true) := by
  intro H R v1 v2 d1 d2 d Q e j q
  unfold inD at e
  split at e
  · split at e
    · split at e
      · rename_i o xs x ys h1 h2 hs
        simp only [Bool.and_eq_true] at hs
        cases e
        exact ⟨x, ys, j.sw.dp h1, j.dp (by simp [D.py, h2]), hs.1, hs.2, q _ (ju_bl j)⟩
      · cases e
    · cases e
  · cases e
def isNonD : D → Option Bool
  | .un => none
  | .vl _ => none
  | .non => some true
  | _ => some false
theorem Joint.isNon {v : V} {d : D} {b : Bool} (j : Joint K H ((v, d) :: R)) (h : isNonD d = some b) : decide (v = .non) = b := by
  obtain ⟨G, fp, g, r, n, z⟩ := j
  cases r <;> simp_all [isNonD]
def isD (neg : Bool) (a b : D) : Option D := match b with
  | .non => (isNonD a).map fun k => .bl (if neg then !k else k)
  | _ => none
theorem s_is : Op2R K (fun x y H Q => y = .non ∧ Q (.bl (decide (x = .non))) H) (isD false) := by
  intro H R v1 v2 d1 d2 d Q e j q
  unfold isD at e
  split at e
  · simp only [Option.map_eq_some_iff] at e
    obtain ⟨b, h, rfl⟩ := e
    exact ⟨j.is_non, q _ (by rw [j.sw.isNon h]; exact ju_bl j)⟩
  · cases e
theorem s_isNot : Op2R K (fun x y H Q => y = .non ∧ Q (.bl (!decide (x = .non))) H) (isD true) := by
  intro H R v1 v2 d1 d2 d Q e j q
  unfold isD at e
  split at e
  · simp only [Option.map_eq_some_iff] at e
    obtain ⟨b, h, rfl⟩ := e
    exact ⟨j.is_non, q _ (by rw [j.sw.isNon h]; exact ju_bl j)⟩
  · cases e
def intsD : List D → Option (List Int)
  | [] => some []
  | .int i :: r => (intsD r).map (i :: ·)
  | _ :: _ => none
theorem intsD_map : ∀ {ds : List D} {ns : List Int}, intsD ds = some ns → ds = ns.map .int
  | [], _, h => by cases h; rfl
  | d :: r, ns, h => by
    unfold intsD at h
    split at h
    · rename_i heq; cases heq
    · rename_i heq
      cases heq
      simp only [Option.map_eq_some_iff] at h
      obtain ⟨a, h1, rfl⟩ := h
      rw [intsD_map h1]; rfl
    · cases h
theorem Joint.ints : ∀ {ns : List Int} {vs : List V}, vs.length = ns.length → Joint K H (vs.zip (ns.map D.int) ++ R) → vs = ns.map V.int
  | [], [], _, _ => rfl
  | n :: ns, v :: vs, h, j => by
    have e : v = .int n := Joint.is_int (R := vs.zip (ns.map D.int) ++ R) j
    rw [e, Joint.ints (ns := ns) (vs := vs) (by simpa using h) (Joint.drop (x := (v, D.int n)) j)]
    rfl
  | [], _ :: _, h, _ => by simp at h
  | _ :: _, [], h, _ => by simp at h
theorem Joint.tupInts {p : Addr} {ds : List D} {ns : List Int} (j : Joint K H ((.ref p, .tup ds) :: R)) (h : intsD ds = some ns) : SqT K H p (ns.map V.int) := by
  obtain ⟨vs, hp, hl, k⟩ := j.untup
  rw [intsD_map h] at hl k
  rw [← Joint.ints (by simpa using hl) k]
  exact .inl (.inl hp)
theorem Joint.lstInts {p : Addr} {o : Bool} {ds : List D} {ns : List Int} (j : Joint K H ((.ref p, .lst o ds) :: R)) (h : intsD ds = some ns) : SqL K H p (ns.map V.int) := by
  obtain ⟨vs, hp, hl, k⟩ := j.unlst
  rw [intsD_map h] at hl k
  rw [← Joint.ints (by simpa using hl) k]
  exact .inl (.inl hp)
def ltD : D → D → Option D
  | .int a, .int b => some (.bl (decide (a < b)))
  | .tup xs, .tup ys => match intsD xs, intsD ys with
    | some a, some b => some (.bl (HT.lexLt a b))
    | _, _ => none
  | _, _ => none
def rLtA (K : PySem.W.Frag) : R2 := fun x y H Q => rI0 (fun i j => .bl (decide (i < j))) x y H Q ∨ rLtT K x y H Q
theorem op_ltA {X : Cx} (hu : X.A.units < cLine) : OpR X (compareOp .Lt) (rLtA X.K) := op_lt.or (op_ltT hu)
theorem s_lt : Op2R K (rLtA K) ltD := by
  intro H R v1 v2 d1 d2 d Q e j q
  unfold ltD at e
  split at e
  · cases e
    exact .inl ⟨_, _, j.sw.is_int, j.is_int, q _ (ju_bl j)⟩
  · split at e
    · rename_i a b h1 h2
      cases e
      obtain ⟨p2, rfl⟩ := j.is_tup
      obtain ⟨p1, rfl⟩ := j.sw.is_tup
      exact .inr ⟨p1, p2, a, b, rfl, rfl, j.sw.tupInts h1, j.tupInts h2, q _ (ju_bl j)⟩
    · cases e
  · cases e
theorem Reps.dups {C : List Pr} (r : Reps K G H C []) : ∀ k : Nat, Reps K G H (List.replicate k C).flatten []
  | 0 => .nil
  | k + 1 => by
    rw [List.replicate_succ, List.flatten_cons]
    exact Reps.append r (Reps.dups r k)
theorem Joint.dups {C : List Pr} (j : Joint K H (C ++ R)) (h : ∀ x ∈ C, x.2.frz = x.2) (k : Nat) : Joint K H ((List.replicate k C).flatten ++ R) := by
  obtain ⟨G, fp, g, r, n, z⟩ := j
  obtain ⟨f1, f2, rfl, r1, r2⟩ := r.unappend
  have e := r1.pure h
  subst e
  exact ⟨G, [] ++ f2, g, (r1.dups k).append r2, n, z⟩
theorem zip_rep {vs : List V} {ds : List D} (h : vs.length = ds.length) : ∀ k : Nat, (List.replicate k vs).flatten.zip (List.replicate k ds).flatten = (List.replicate k (vs.zip ds)).flatten
  | 0 => rfl
  | k + 1 => by
    rw [List.replicate_succ, List.replicate_succ, List.replicate_succ, List.flatten_cons, List.flatten_cons, List.flatten_cons, List.zip_append h, zip_rep h k]
theorem len_rep {α : Type} (xs : List α) : ∀ k : Nat, (List.replicate k xs).flatten.length = k * xs.length
  | 0 => by simp
  | k + 1 => by rw [List.replicate_succ, List.flatten_cons, List.length_append, len_rep xs k, Nat.succ_mul, Nat.add_comm]
theorem frz_all {ds : List D} {vs : List V} : ∀ x ∈ vs.zip (D.frzs ds), x.2.frz = x.2 := fun x m => by
  have := (List.of_mem_zip m).2
  rw [D.frzs_map] at this
  obtain ⟨y, _, e⟩ := List.mem_map.mp this
  rw [← e, D.frz_frz]
def mulD : D → D → Option D
  | .int a, .int b => if a.natAbs < 2 ^ 64 || b.natAbs < 2 ^ 64 then some (.int (a * b)) else none
  | .lst _ xs, .int k => if k < 2 ^ 20 ∧ -(2 ^ 20) < k ∧ xs.length * k.toNat ≤ 1000000 then some (.lst true (List.replicate k.toNat (D.frzs xs)).flatten) else none
  | .tup xs, .int k => if xs ≠ [] ∧ 2 ≤ k ∧ k ≤ 1000 ∧ xs.length ≤ 1000 then some (.tup (List.replicate k.toNat (D.frzs xs)).flatten) else none
  | _, _ => none
def rMulA (K : PySem.W.Frag) : R2 := fun x y H Q => rI CMul (fun i j => .int (i * j)) x y H Q ∨ rRep x y H Q ∨ rRepT K x y H Q
theorem op_mulA {X : Cx} : OpR X (binaryOp .Mult) (rMulA X.K) := op_mul.or (op_rep.or op_repT)
theorem s_mul : Op2 K (rMulA K) mulD := by
  intro H R v1 v2 d1 d2 d Q e j q
  unfold mulD at e
  split at e
  · split at e
    · rename_i a b hc
      cases e
      refine .inl ⟨_, _, j.sw.is_int, j.is_int, ?_, q _ _ (ju_int j.drop.drop)⟩
      simp only [Bool.or_eq_true, decide_eq_true_eq] at hc
      rcases hc with h | h
      · exact .inl (by omega)
      · exact .inr (by omega)
    · cases e
  · split at e
    · rename_i o xs k hc
      obtain ⟨h1, h2, h3⟩ := hc
      cases e
      have ek := j.is_int
      obtain ⟨p, rfl⟩ := j.sw.is_lst
      have j1 := j.drop.freeze.drop
      obtain ⟨vs, hp, hl, kk⟩ := j1.unlst
      have hl' : vs.length = xs.length := by rw [hl, D.frzs_map, List.length_map]
      refine .inr (.inl ⟨p, k, vs, rfl, ek, hp, by omega, by omega, big_le (by rw [hl']; exact h3), fun l hl2 => q _ _ (Joint.lst ?_ ?_ hl2)⟩)
      · rw [len_rep, len_rep, hl]
      · rw [zip_rep hl]
        exact kk.dups frz_all _
    · cases e
  · split at e
    · rename_i xs k hc
      obtain ⟨h0, h1, h2, h3⟩ := hc
      cases e
      have ek := j.is_int
      obtain ⟨p, rfl⟩ := j.sw.is_tup
      have j1 := j.drop.freeze.drop
      obtain ⟨vs, hp, hl, kk⟩ := j1.untup
      have hl' : vs.length = xs.length := by rw [hl, D.frzs_map, List.length_map]
      refine .inr (.inr ⟨p, k, vs, rfl, ek, .inl (.inl hp), fun z => h0 ?_, h1, h2, by omega, fun l hl2 => q _ _ (Joint.tup ?_ ?_ hl2)⟩)
      · rw [z] at hl'; cases xs with | nil => rfl | cons _ _ => simp at hl'
      · rw [len_rep, len_rep, hl]
      · rw [zip_rep hl]
        exact kk.dups frz_all _
    · cases e
  · cases e
end
end WF
namespace WF
open PySem PySem.Spec PyProof.Rows L2
section
variable {K : PySem.W.Frag} {H : Hp} {R : List Pr}
def absD : List D → Option D
  | [.int i] => some (.int (if i < 0 then -i else i))
  | _ => none
theorem one_of {vs : List V} {d : D} (h : vs.length = [d].length) : ∃ v, vs = [v] := by
  match vs, h with
  | [v], _ => exact ⟨v, rfl⟩
theorem two_of {vs : List V} {d e : D} (h : vs.length = [d, e].length) : ∃ v w, vs = [v, w] := by
  match vs, h with
  | [v, w], _ => exact ⟨v, w, rfl⟩
theorem c_abs : CallRO K (fun xs H Q => ∃ i, xs = [.int i] ∧ Q (.int (if i < 0 then -i else i)) H) absD := by
  intro H R vs ds d Q hl e j q
  unfold absD at e
  split at e
  · cases e
    obtain ⟨v, rfl⟩ := one_of hl
    have h1 : v = .int _ := Joint.is_int (R := R) j
    exact ⟨_, by rw [h1], q _ (ju_int j)⟩
  · cases e
def maxD2 : List D → Option D
  | [.int i, .int j] => some (.int (if j > i then j else i))
  | _ => none
def minD2 : List D → Option D
  | [.int i, .int j] => some (.int (if j < i then j else i))
  | _ => none
theorem c_max2 : CallRO K (fun xs H Q => ∃ i j, xs = [.int i, .int j] ∧ Q (.int (if j > i then j else i)) H) maxD2 := by
  intro H R vs ds d Q hl e j q
  unfold maxD2 at e
  split at e
  · cases e
    obtain ⟨v, w, rfl⟩ := two_of hl
    have j' : Joint K H ((v, _) :: (w, _) :: R) := j
    exact ⟨_, _, by rw [j'.is_int, j'.sw.is_int], q _ (ju_int j)⟩
  · cases e
theorem c_min2 : CallRO K (fun xs H Q => ∃ i j, xs = [.int i, .int j] ∧ Q (.int (if j < i then j else i)) H) minD2 := by
  intro H R vs ds d Q hl e j q
  unfold minD2 at e
  split at e
  · cases e
    obtain ⟨v, w, rfl⟩ := two_of hl
    have j' : Joint K H ((v, _) :: (w, _) :: R) := j
    exact ⟨_, _, by rw [j'.is_int, j'.sw.is_int], q _ (ju_int j)⟩
  · cases e
def intD1 : List D → Option D
  | [.int i] => some (.int i)
  | [.bl b] => some (.int (if b then 1 else 0))
  | _ => none
theorem c_int : CallRO K (fun xs H Q => (∃ i, xs = [.int i] ∧ Q (.int i) H) ∨ ∃ k, xs = [.bl k] ∧ Q (.int (if k then 1 else 0)) H) intD1 := by
  intro H R vs ds d Q hl e j q
  unfold intD1 at e
  split at e
  · cases e
    obtain ⟨v, rfl⟩ := one_of hl
    have j' : Joint K H ((v, _) :: R) := j
    exact .inl ⟨_, by rw [j'.is_int], q _ (ju_int j)⟩
  · cases e
    obtain ⟨v, rfl⟩ := one_of hl
    have j' : Joint K H ((v, _) :: R) := j
    exact .inr ⟨_, by rw [j'.is_bl], q _ (ju_int j)⟩
  · cases e
def lenD : List D → Option D
  | [.lst _ xs] => some (.int xs.length)
  | [.tup xs] => some (.int xs.length)
  | [.scr xs] => some (.int xs.length)
  | _ => none
theorem Joint.is_scr {v : V} {ns : List Int} (j : Joint K H ((v, .scr ns) :: R)) : ∃ p, v = .ref p ∧ SqL K H p (ns.map V.int) := by
  obtain ⟨G, fp, g, r, n, z⟩ := j
  cases r with
  | scr a _ => exact ⟨_, rfl, sqL_mono g a⟩
theorem c_len : CallRO K (fun xs H Q => ∃ p ys, xs = [.ref p] ∧ (SqL K H p ys ∨ SqT K H p ys) ∧ Q (.int ys.length) H) lenD := by
  intro H R vs ds d Q hl e j q
  unfold lenD at e
  split at e
  · cases e
    obtain ⟨v, rfl⟩ := one_of hl
    have j' : Joint K H ((v, _) :: R) := j
    obtain ⟨p, rfl⟩ := j'.is_lst
    obtain ⟨us, hp, hlen, _⟩ := j'.unlst
    exact ⟨p, us, rfl, .inl (.inl (.inl hp)), q _ (by rw [hlen]; exact ju_int j)⟩
  · cases e
    obtain ⟨v, rfl⟩ := one_of hl
    have j' : Joint K H ((v, _) :: R) := j
    obtain ⟨p, rfl⟩ := j'.is_tup
    obtain ⟨us, hp, hlen, _⟩ := j'.untup
    exact ⟨p, us, rfl, .inr (.inl (.inl hp)), q _ (by rw [hlen]; exact ju_int j)⟩
  · cases e
    obtain ⟨v, rfl⟩ := one_of hl
    have j' : Joint K H ((v, _) :: R) := j
    obtain ⟨p, rfl, sq⟩ := j'.is_scr
    exact ⟨p, _, rfl, .inl sq, q _ (by rw [List.length_map]; exact ju_int j)⟩
  · cases e
def sumD : List D → Option D
  | [.lst _ xs] => (intsD xs).map fun ns => .int ns.sum
  | _ => none
theorem c_sum : CallRO K (rSum K) sumD := by
  intro H R vs ds d Q hl e j q
  unfold sumD at e
  split at e
  · simp only [Option.map_eq_some_iff] at e
    obtain ⟨ns, h, rfl⟩ := e
    obtain ⟨v, rfl⟩ := one_of hl
    have j' : Joint K H ((v, _) :: R) := j
    obtain ⟨p, rfl⟩ := j'.is_lst
    exact ⟨p, ns, rfl, j'.lstInts h, q _ (ju_int j)⟩
  · cases e
def boolsD : List D → Option (List Bool)
  | [] => some []
  | .bl i :: r => (boolsD r).map (i :: ·)
  | _ :: _ => none
theorem boolsD_map : ∀ {ds : List D} {ns : List Bool}, boolsD ds = some ns → ds = ns.map .bl
  | [], _, h => by cases h; rfl
  | d :: r, ns, h => by
    unfold boolsD at h
    split at h
    · rename_i heq; cases heq
    · rename_i heq
      cases heq
      simp only [Option.map_eq_some_iff] at h
      obtain ⟨a, h1, rfl⟩ := h
      rw [boolsD_map h1]; rfl
    · cases h
theorem Joint.bools : ∀ {ns : List Bool} {vs : List V}, vs.length = ns.length → Joint K H (vs.zip (ns.map D.bl) ++ R) → vs = ns.map V.bl
  | [], [], _, _ => rfl
  | n :: ns, v :: vs, h, j => by
    have e : v = .bl n := Joint.is_bl (R := vs.zip (ns.map D.bl) ++ R) j
    rw [e, Joint.bools (ns := ns) (vs := vs) (by simpa using h) (Joint.drop (x := (v, D.bl n)) j)]
    rfl
  | [], _ :: _, h, _ => by simp at h
  | _ :: _, [], h, _ => by simp at h
theorem Joint.lstBools {p : Addr} {o : Bool} {ds : List D} {ns : List Bool} (j : Joint K H ((.ref p, .lst o ds) :: R)) (h : boolsD ds = some ns) : SqL K H p (ns.map V.bl) := by
  obtain ⟨vs, hp, hl, k⟩ := j.unlst
  rw [boolsD_map h] at hl k
  rw [← Joint.bools (by simpa using hl) k]
  exact .inl (.inl hp)
def allD : List D → Option D
  | [.lst _ xs] => (boolsD xs).map fun ns => .bl (ns.all id)
  | _ => none
def anyD : List D → Option D
  | [.lst _ xs] => (boolsD xs).map fun ns => .bl (ns.any id)
  | _ => none
theorem c_all : CallRO K (rAll K) allD := by
  intro H R vs ds d Q hl e j q
  unfold allD at e
  split at e
  · simp only [Option.map_eq_some_iff] at e
    obtain ⟨ns, h, rfl⟩ := e
    obtain ⟨v, rfl⟩ := one_of hl
    have j' : Joint K H ((v, _) :: R) := j
    obtain ⟨p, rfl⟩ := j'.is_lst
    exact ⟨p, ns, rfl, j'.lstBools h, q _ (ju_bl j)⟩
  · cases e
def maxI : List Int → Int
  | [] => 0
  | [x] => x
  | x :: y :: r => max x (maxI (y :: r))
theorem maxI_is : ∀ {ns : List Int} {m : Int}, m ∈ ns → (∀ y, y ∈ ns → y ≤ m) → m = maxI ns
  | [x], m, h, _ => by simpa [maxI] using h
  | x :: y :: r, m, h, hm => by
    show m = max x (maxI (y :: r))
    have ih := fun (q : m ∈ y :: r) => maxI_is (ns := y :: r) (m := m) q fun z hz => hm z (List.mem_cons_of_mem _ hz)
    rcases List.mem_cons.mp h with e | e
    · have : ∀ ns : List Int, ns ≠ [] → maxI ns ∈ ns := by
        intro ns
        induction ns with
        | nil => intro z; exact (z rfl).elim
        | cons a t it =>
          intro _
          cases t with
          | nil => simp [maxI]
          | cons b t =>
            have := it (by simp)
            show max a (maxI (b :: t)) ∈ _
            rcases Int.le_total a (maxI (b :: t)) with z | z
            · rw [Int.max_eq_right z]; exact List.mem_cons_of_mem _ this
            · rw [Int.max_eq_left z]; exact List.mem_cons_self
      have h2 := hm _ (List.mem_cons_of_mem _ (this (y :: r) (by simp)))
      omega
    · have h1 := ih e
      have h2 := hm x List.mem_cons_self
      omega
  | [], m, h, _ => by cases h
def maxD1 : List D → Option D
  | [.lst _ xs] => match intsD xs with
    | some (n :: ns) => some (.int (maxI (n :: ns)))
    | _ => none
  | _ => none
theorem c_max1 : CallRO K (rMax K) maxD1 := by
  intro H R vs ds d Q hl e j q
  unfold maxD1 at e
  split at e
  · split at e
    · rename_i h
      cases e
      obtain ⟨v, rfl⟩ := one_of hl
      have j' : Joint K H ((v, _) :: R) := j
      obtain ⟨p, rfl⟩ := j'.is_lst
      exact ⟨p, _, rfl, j'.lstInts h, Nat.succ_pos _, fun m h1 h2 => q _ (by rw [← maxI_is h1 h2]; exact ju_int j)⟩
    · cases e
  · cases e
def divmodD : List D → Option D
  | [.int a, .int b] => if 0 < b ∧ b < 2 ^ 64 then some (.tup [.int (a / b), .int (a % b)]) else none
  | _ => none
theorem c_divmod : CallS K (fun xs H Q => ∃ i j, xs = [.int i, .int j] ∧ CDivP i j ∧ ∀ p, H p = none → Q (.ref p) (upd H p (.tup [.int (i / j), .int (i % j)]))) divmodD := by
  intro H R vs ds d Q hl e j q
  unfold divmodD at e
  split at e
  · split at e
    · rename_i a b hc
      cases e
      obtain ⟨v, w, rfl⟩ := two_of hl
      have j' : Joint K H ((v, _) :: (w, _) :: R) := j
      refine ⟨a, b, by rw [j'.is_int, j'.sw.is_int], ⟨hc.1, PyProof.noPylong_of_log2 (wide_div (i := a) (b := 64) hc.1 ?_ (by decide) (by decide)).2⟩, fun p hp => q _ _ (Joint.tup (vs := [.int (a / b), .int (a % b)]) (ds := [.int (a / b), .int (a % b)]) rfl (ju_int (ju_int j'.drop.drop)) hp)⟩
      have h1 : (b.natAbs : Int) < 2 ^ 64 := by omega
      exact_mod_cast h1
    · cases e
  · cases e
def tupleD : List D → Option D
  | [.lst _ xs] => some (.tup xs)
  | [.tup xs] => some (.tup xs)
  | _ => none
def listD : List D → Option D
  | [.lst _ xs] => some (.lst true xs)
  | [.tup xs] => some (.lst true xs)
  | _ => none
theorem c_tuple : CallS K (fun xs H Q => ∃ p ys, xs = [.ref p] ∧ ((SqL K H p ys ∧ ∀ l, H l = none → Q (.ref l) (upd H l (.tup ys))) ∨ (SqT K H p ys ∧ Q (.ref p) H))) tupleD := by
  intro H R vs ds d Q hl e j q
  unfold tupleD at e
  split at e
  · cases e
    obtain ⟨v, rfl⟩ := one_of hl
    have j' : Joint K H ((v, _) :: R) := j
    obtain ⟨p, rfl⟩ := j'.is_lst
    obtain ⟨us, hp, hlen, k⟩ := j'.unlst
    exact ⟨p, us, rfl, .inl ⟨.inl (.inl hp), fun l hl => q _ _ (Joint.tup hlen k hl)⟩⟩
  · cases e
    obtain ⟨v, rfl⟩ := one_of hl
    have j' : Joint K H ((v, _) :: R) := j
    obtain ⟨p, rfl⟩ := j'.is_tup
    obtain ⟨us, hp, hlen, k⟩ := j'.untup
    exact ⟨p, us, rfl, .inr ⟨.inl (.inl hp), q _ _ j'⟩⟩
  · cases e
theorem c_list : CallS K (fun xs H Q => ∃ p ys, xs = [.ref p] ∧ (SqL K H p ys ∨ SqT K H p ys) ∧ ∀ l, H l = none → Q (.ref l) (upd H l (.lst ys))) listD := by
  intro H R vs ds d Q hl e j q
  unfold listD at e
  split at e
  · cases e
    obtain ⟨v, rfl⟩ := one_of hl
    have j' : Joint K H ((v, _) :: R) := j
    obtain ⟨p, rfl⟩ := j'.is_lst
    obtain ⟨us, hp, hlen, k⟩ := j'.unlst
    exact ⟨p, us, rfl, .inl (.inl (.inl hp)), fun l hl => q _ _ (Joint.lst hlen k hl)⟩
  · cases e
    obtain ⟨v, rfl⟩ := one_of hl
    have j' : Joint K H ((v, _) :: R) := j
    obtain ⟨p, rfl⟩ := j'.is_tup
    obtain ⟨us, hp, hlen, k⟩ := j'.untup
    exact ⟨p, us, rfl, .inr (.inl (.inl hp)), fun l hl => q _ _ (Joint.lst hlen k hl)⟩
  · cases e
def ixD : D → D → Option D
  | .lst _ xs, .int i => atI (D.frzs xs) i
  | .tup xs, .int i => atI (D.frzs xs) i
  | .scr ns, .int i => (atI ns i).map .int
  | _, _ => none
theorem atI_zip {vs : List V} {ds : List D} {i : Int} {d : D} (hl : vs.length = ds.length) (h : atI ds i = some d) : ∃ (n : Nat) (v : V), atI vs i = some v ∧ vs[n]? = some v ∧ ds[n]? = some d := by
  unfold atI at h ⊢
  rw [hl]
  cases q : ixN ds.length i with
  | none => rw [q] at h; cases h
  | some n =>
    rw [q] at h
    have h : ds[n]? = some d := h
    have hn : n < vs.length := by rw [hl]; exact (List.getElem?_eq_some_iff.mp h).1
    exact ⟨n, vs[n], List.getElem?_eq_getElem hn, List.getElem?_eq_getElem hn, h⟩
theorem s_ix : Op2 K (rIx K) ixD := by
  intro H R v1 v2 d1 d2 d Q e j q
  unfold ixD at e
  split at e
  · rename_i o xs i
    have ei := j.is_int
    obtain ⟨p, rfl⟩ := j.sw.is_lst
    have j1 : Joint K H ((.ref p, .lst false (D.frzs xs)) :: R) := j.drop.freeze.drop
    obtain ⟨vs, sq, hl, get⟩ := j1.itemL
    obtain ⟨n, v, h1, h2, h3⟩ := atI_zip hl e
    exact .inl ⟨p, vs, i, v, rfl, ei, .inl (.inl sq), h1, q _ _ (get n v d h2 h3).sw.drop⟩
  · rename_i xs i
    have ei := j.is_int
    obtain ⟨p, rfl⟩ := j.sw.is_tup
    have j1 : Joint K H ((.ref p, .tup (D.frzs xs)) :: R) := j.drop.freeze.drop
    obtain ⟨vs, sq, hl, get⟩ := j1.itemT (D.frzs_frzs xs)
    obtain ⟨n, v, h1, h2, h3⟩ := atI_zip hl e
    exact .inr (.inl ⟨p, vs, i, v, rfl, ei, .inl (.inl sq), h1, q _ _ (get n v d h2 h3).sw.drop⟩)
  · rename_i ns i
    have ei := j.is_int
    obtain ⟨p, rfl, sq⟩ := j.sw.is_scr
    simp only [Option.map_eq_some_iff] at e
    obtain ⟨a, h, rfl⟩ := e
    refine .inl ⟨p, _, i, .int a, rfl, ei, sq, ?_, q _ _ (ju_int j.drop.drop)⟩
    unfold atI at h ⊢
    rw [List.length_map]
    cases z : ixN ns.length i with
    | none => rw [z] at h; cases h
    | some n =>
      rw [z] at h
      have h : ns[n]? = some a := h
      show (ns.map V.int)[n]? = some (.int a)
      rw [List.getElem?_map, h]; rfl
  · cases e
end
section
variable {c : Cfg} {X : Cx} {a b e : Expr} {fa fb fe : EM} {pos : Pos}
theorem w_ix (hK : c.K = X.K) (ha : PE X a (T c fa)) (hb : PE X b (T c fb)) (hs : PlainIx b := by exact fun _ _ => rfl) : PE X (.Subscript a b pos) (T c (binM ixD fa fb)) :=
  pe_mono (pe_ix ix_seq ha hb hs) fun _ _ _ h => t_op2 (hK ▸ s_ix) h
end
end WF
namespace WF
open PySem PySem.Spec PyProof.Rows L2
mutual
def D.imm : D → Bool
  | .non => true
  | .bl _ => true
  | .int _ => true
  | .str _ => true
  | .vl _ => true
  | .tup xs => D.imms xs
  | _ => false
def D.imms : List D → Bool
  | [] => true
  | x :: xs => x.imm && D.imms xs
end
mutual
theorem D.imm_frz : ∀ d : D, d.imm = true → d.frz = d
  | .non, _ => rfl
  | .bl _, _ => rfl
  | .int _, _ => rfl
  | .str _, _ => rfl
  | .vl _, _ => rfl
  | .tup xs, h => by simp only [D.imm] at h; simp only [D.frz, D.imms_frz xs h]
  | .un, h => by cases h
  | .lst _ _, h => by cases h
  | .dic _ _ _, h => by cases h
  | .dtk _ _ _, h => by cases h
  | .scr _, h => by cases h
  | .hld _, h => by cases h
  | .con _, h => by cases h
  | .exn _ _ _, h => by cases h
  | .tab _, h => by cases h
  | .obj _ _ _ _, h => by cases h
theorem D.imms_frz : ∀ ds : List D, D.imms ds = true → D.frzs ds = ds
  | [], _ => rfl
  | d :: ds, h => by
    simp only [D.imms, Bool.and_eq_true] at h
    simp only [D.frzs, D.imm_frz d h.1, D.imms_frz ds h.2]
end
section
variable {K : PySem.W.Frag} {H : Hp} {R : List Pr} {p : Addr} {ds : List D}
theorem Joint.itemO (j : Joint K H ((.ref p, .lst true ds) :: R)) : ∃ vs, H p = some (.lst vs) ∧ vs.length = ds.length ∧ ∀ (n : Nat) v d, vs[n]? = some v → ds[n]? = some d → d.frz = d → Joint K H ((v, d) :: (.ref p, .lst true ds) :: R) := by
  obtain ⟨G, fp, g, r, n, z⟩ := j
  have r0 := r
  cases r with
  | @lo p C vs ds f L fp a b e r1 r2 =>
    subst b e
    refine ⟨_, a, by simp, fun i v d h1 h2 hd => ⟨G, _, g, ?_, n, z⟩⟩
    have hC : C[i]? = some (v, d) := by
      rw [List.getElem?_map] at h1 h2
      cases q : C[i]? with
      | none => rw [q] at h1; cases h1
      | some y => rw [q] at h1 h2; cases h1; cases h2; rfl
    obtain ⟨hlt, e⟩ := List.getElem?_eq_some_iff.mp hC
    have hs : C = C.take i ++ ((v, d) :: C.drop (i + 1)) := by
      rw [← e, ← List.drop_eq_getElem_cons hlt, List.take_append_drop]
    rw [hs] at r1
    obtain ⟨f1, f2, rfl, q1, q2⟩ := r1.unappend
    obtain ⟨f3, f4, rfl, q3, q4⟩ := q2.uncons
    have e3 := q3.pure fun x m => by
      have : x = (v, d) := by simpa using m
      rw [this]; exact hd
    subst e3
    exact Reps.append (L := [(v, d)]) (fp := []) q3 r0
theorem Joint.sub {L L' : List Pr} (s : L'.Sublist L) : ∀ {R : List Pr}, Joint K H (L ++ R) → Joint K H (L' ++ R) := by
  induction s with
  | slnil => intro R j; exact j
  | cons x _ ih => intro R j; exact ih (Joint.drop (x := x) j)
  | cons_cons x _ ih =>
    intro R j
    have k := ih (R := x :: R) (j.perm (perm_take (A := _)).symm)
    exact k.perm perm_take
def cutD (xs : List D) (lo hi : Option Int) : List D := (xs.drop (HT.sIx xs.length 0 lo)).take (HT.sIx xs.length xs.length hi - HT.sIx xs.length 0 lo)
theorem cut_zip {vs : List V} {ds : List D} {lo hi : Option Int} (hl : vs.length = ds.length) : (cutV vs lo hi).length = (cutD ds lo hi).length ∧ ((cutV vs lo hi).zip (cutD ds lo hi)).Sublist (vs.zip ds) := by
  unfold cutV cutD
  rw [hl]
  refine ⟨by simp [hl], ?_⟩
  have e : ∀ a b : Nat, ((vs.drop a).take b).zip ((ds.drop a).take b) = ((vs.zip ds).drop a).take b := fun a b => by
    simp only [List.zip, List.take_zipWith, List.drop_zipWith]
  rw [e]
  exact (List.take_sublist _ _).trans (List.drop_sublist _ _)
def sliceD (d : D) (lo hi : Option Int) : Option D := match d with
  | .lst _ xs => some (.lst true (cutD xs lo hi))
  | .tup xs => some (.tup (cutD xs lo hi))
  | .scr ns => some (.lst true (cutD (ns.map .int) lo hi))
  | _ => none
def rSlS (K : PySem.W.Frag) : V → Option Int → Option Int → Hp → VK → Prop := fun x lo hi H Q => rSlL K x lo hi H Q ∨ rSlA K x lo hi H Q
theorem sl_S {X : Cx} : SlR X (rSlS X.K) := SlR.or sl_list sl_tupA
theorem cut_all {ds : List D} {lo hi : Option Int} (h1 : HT.sIx ds.length 0 lo = 0) (h2 : HT.sIx ds.length ds.length hi = ds.length) : cutD ds lo hi = ds := by
  unfold cutD
  rw [h1, h2]
  simp
theorem s_slice {v : V} {d r : D} {lo hi : Option Int} {Q : VK} (e : sliceD d lo hi = some r) (j : Joint K H ((v, d) :: R)) (q : ∀ v H', Joint K H' ((v, r) :: R) → Q v H') : rSlS K v lo hi H Q := by
  unfold sliceD at e
  split at e
  · cases e
    obtain ⟨p, rfl⟩ := j.is_lst
    obtain ⟨vs, hp, hl, k⟩ := j.unlst
    obtain ⟨c1, c2⟩ := cut_zip (lo := lo) (hi := hi) hl
    exact .inl ⟨p, vs, rfl, .inl (.inl hp), fun l hn => q _ _ (Joint.lst c1 (k.sub c2) hn)⟩
  · rename_i xs
    cases e
    obtain ⟨p, rfl⟩ := j.is_tup
    obtain ⟨vs, hp, hl, k⟩ := j.untup
    obtain ⟨c1, c2⟩ := cut_zip (lo := lo) (hi := hi) hl
    refine .inr ⟨p, vs, rfl, .inl (.inl hp), fun h => q _ _ ?_, fun _ l hn => q _ _ (Joint.tup c1 (k.sub c2) hn)⟩
    rw [hl] at h
    rw [cut_all h.1 h.2]
    exact j
  · rename_i ns
    cases e
    obtain ⟨p, rfl, sq⟩ := j.is_scr
    refine .inl ⟨p, _, rfl, sq, fun l hn => q _ _ (Joint.lst ?_ ?_ hn)⟩
    · exact (cut_zip (ds := ns.map .int) (by simp)).1
    · refine Joint.sub (cut_zip (ds := ns.map .int) (by simp)).2 ?_
      have : ∀ ns : List Int, Joint K H (((ns.map V.int).zip (ns.map D.int)) ++ R) := by
        intro ns
        induction ns with
        | nil => exact j.drop
        | cons n ns ih => exact ju_int ih
      exact this ns
  · cases e
end
def ixO (d k : D) : Option (D × D) := match d, k with
  | .lst false xs, .int i => (atI xs i).map fun x => (x, .lst false xs)
  | .lst true xs, .int i => match atI xs i with
    | some x => if x.imm then some (x, .lst true xs) else (atI (D.frzs xs) i).map fun y => (y, .lst false (D.frzs xs))
    | none => none
  | .tup xs, .int i => (atI (D.frzs xs) i).map fun x => (x, .tup (D.frzs xs))
  | .scr ns, .int i => (atI ns i).map fun x => (.int x, .scr ns)
  | _, _ => none
section
variable {K : PySem.W.Frag} {H : Hp} {R : List Pr}
theorem s_ixO {v kv : V} {d k x d' : D} {Q : VK} (e : ixO d k = some (x, d')) (j : Joint K H ((kv, k) :: (v, d) :: R)) (q : ∀ u, Joint K H ((u, x) :: (v, d') :: R) → Q u H) : rIx K v kv H Q := by
  unfold ixO at e
  split at e
  · rename_i xs i
    simp only [Option.map_eq_some_iff, Prod.mk.injEq] at e
    obtain ⟨y, e1, rfl, rfl⟩ := e
    have ei := j.is_int
    obtain ⟨p, rfl⟩ := j.sw.is_lst
    obtain ⟨vs, sq, hl, get⟩ := j.drop.itemL
    obtain ⟨n, u, h1, h2, h3⟩ := atI_zip hl e1
    exact .inl ⟨p, vs, i, u, rfl, ei, .inl (.inl sq), h1, q _ (get n u _ h2 h3)⟩
  · rename_i xs i
    split at e
    · rename_i y e1
      split at e
      · rename_i him
        simp only [Option.some.injEq, Prod.mk.injEq] at e
        obtain ⟨rfl, rfl⟩ := e
        have ei := j.is_int
        obtain ⟨p, rfl⟩ := j.sw.is_lst
        obtain ⟨vs, hp, hl, get⟩ := j.drop.itemO
        obtain ⟨n, u, h1, h2, h3⟩ := atI_zip hl e1
        exact .inl ⟨p, vs, i, u, rfl, ei, .inl (.inl hp), h1, q _ (get n u _ h2 h3 (D.imm_frz _ him))⟩
      · simp only [Option.map_eq_some_iff, Prod.mk.injEq] at e
        obtain ⟨y, e1, rfl, rfl⟩ := e
        have ei := j.is_int
        obtain ⟨p, rfl⟩ := j.sw.is_lst
        have j1 : Joint K H ((.ref p, .lst false (D.frzs xs)) :: R) := j.drop.freeze.drop
        obtain ⟨vs, sq, hl, get⟩ := j1.itemL
        obtain ⟨n, u, h1, h2, h3⟩ := atI_zip hl e1
        exact .inl ⟨p, vs, i, u, rfl, ei, .inl (.inl sq), h1, q _ (get n u _ h2 h3)⟩
    · cases e
  · rename_i xs i
    simp only [Option.map_eq_some_iff, Prod.mk.injEq] at e
    obtain ⟨y, e1, rfl, rfl⟩ := e
    have ei := j.is_int
    obtain ⟨p, rfl⟩ := j.sw.is_tup
    have j1 : Joint K H ((.ref p, .tup (D.frzs xs)) :: R) := j.drop.freeze.drop
    obtain ⟨vs, sq, hl, get⟩ := j1.itemT (D.frzs_frzs xs)
    obtain ⟨n, u, h1, h2, h3⟩ := atI_zip hl e1
    exact .inr (.inl ⟨p, vs, i, u, rfl, ei, .inl (.inl sq), h1, q _ (get n u _ h2 h3)⟩)
  · rename_i ns i
    simp only [Option.map_eq_some_iff, Prod.mk.injEq] at e
    obtain ⟨a, h, rfl, rfl⟩ := e
    have ei := j.is_int
    obtain ⟨p, rfl, sq⟩ := j.sw.is_scr
    refine .inl ⟨p, _, i, .int a, rfl, ei, sq, ?_, q _ (ju_int j.drop)⟩
    unfold atI at h ⊢
    rw [List.length_map]
    cases z : ixN ns.length i with
    | none => rw [z] at h; cases h
    | some n =>
      rw [z] at h
      have h : ns[n]? = some a := h
      show (ns.map V.int)[n]? = some (.int a)
      rw [List.getElem?_map, h]; rfl
  · cases e
end
def hasM (i : Nat) (f : EM) : EM := fun S => match S[i]? with
  | some d => if isUn d then none else f S
  | none => none
def ixS (i : Nat) (fb : EM) : EM := bindM fb fun k S => match S[i]? with
  | some d => match ixO d k with
    | some (x, d') => if isUn d then none else some (.ok x, S.set i d')
    | none => none
  | none => none
section
variable {c : Cfg} {X : Cx} {S : S0} {tm tm0 : List Pr} {σ : L2.St} {H : Hp} {a b e : Expr} {fa fb fe : EM} {pos : Pos} {i : Nat}
theorem SJ.get2 {d k : D} {kv : V} (j : SJ c S ((kv, k) :: tm) σ H) (h : S[i]? = some d) (hu : isUn d = false) : ∃ v, σ[i]? = some (some v) ∧ ∃ Z, Joint c.K H ((kv, k) :: (v, d) :: Z) ∧
    ∀ (d' : D) (tm' : List Pr) H', Joint c.K H' ((v, d') :: (tm' ++ Z)) → SJ c (S.set i d') (tm' ++ tm) σ H' := by
  obtain ⟨v, ev⟩ := j.set i d h (isUn_ne hu)
  obtain ⟨Z, p1, p2, _⟩ := slot_get ev h j.len
  refine ⟨v, ev, Z ++ (tm ++ c.rs), j.take.perm (List.Perm.cons _ (List.Perm.append_right _ p1)), fun d' tm' H' q => ⟨?_, fun n u h' hn => ?_, j.pv, j.lp, ?_⟩⟩
  · rw [List.length_set]; exact j.len
  · by_cases hi : n = i
    · exact ⟨v, by rw [hi]; exact ev⟩
    · rw [List.getElem?_set_ne (Ne.symm hi)] at h'
      exact j.set n u h' hn
  · refine q.perm ?_
    have e1 : ((v, d') :: (tm' ++ (Z ++ (tm ++ c.rs)))).Perm (((v, d') :: Z) ++ ((tm' ++ tm) ++ c.rs)) := by
      refine List.Perm.cons _ ?_
      rw [List.append_assoc tm' tm]
      exact perm_sw
    exact e1.trans (List.Perm.append_right _ (p2 d').symm)
theorem w_ixS (hK : c.K = X.K) (ha : PE X a (tVar i)) (hb : PE X b (T c fb)) (hs : PlainIx b := by exact fun _ _ => rfl) : PE X (.Subscript a b pos) (T c (hasM i (ixS i fb))) :=
  pe_mono (pe_ix ix_seq ha hb hs) fun σ H Q h => by
    obtain ⟨S, tm, j, p⟩ := h
    unfold hasM at p
    split at p
    · rename_i d hd
      split at p
      · exact p.elim
      · rename_i hu
        obtain ⟨v, ev⟩ := j.set i d hd (isUn_ne (by simpa using hu))
        refine ⟨v, ev, (post_bind j p).mono fun kv H1 ⟨k, S1, j1, p1⟩ => ?_⟩
        split at p1
        · rename_i d1 hd1
          split at p1
          · rename_i x d' hx
            split at p1
            · exact p1.elim
            · rename_i hu1
              obtain ⟨v', ev', Z, k2, put⟩ := j1.get2 hd1 (by simpa using hu1)
              have : v' = v := by rw [ev] at ev'; exact (Option.some.inj (Option.some.inj ev')).symm
              subst this
              exact hK ▸ s_ixO hx k2 fun u k3 => p1 u H1 (put d' [(u, x)] H1 k3.sw)
          · exact p1.elim
        · exact p1.elim
    · exact p.elim
def optE : Option EM → (Option Int → EM) → EM
  | none, g => g none
  | some f, g => bindM f fun d => match d with
    | .int i => g (some i)
    | _ => fun _ => none
def sliceM (fe : EM) (lo hi : Option EM) : EM := bindM fe fun d => optE lo fun l => optE hi fun h => optM (sliceD d l h)
def tOpt (c : Cfg) : Option EM → TO
  | none => tNoPart
  | some f => tPart (T c f)
theorem wo_none : PO X none (tOpt c none) := po_none
theorem wo_some (h : PE X e (T c fe)) : PO X (some e) (tOpt c (some fe)) := po_some h
theorem tOpt_mono {o : Option EM} {Q Q' : Option Int → Hp → Prop} (h : tOpt c o σ H Q) (q : ∀ x H, Q x H → Q' x H) : tOpt c o σ H Q' := by
  cases o with
  | none => exact q _ _ h
  | some f => exact T.mono h fun v H1 ⟨n, e, h2⟩ => ⟨n, e, q _ _ h2⟩
theorem post_optE {o : Option EM} {g : Option Int → EM} {Q : VK} (j : SJ c S tm σ H) (p : post c (optE o g S) tm0 σ Q) : tOpt c o σ H (fun l H1 => ∃ S' ex, SJ c S' (ex ++ tm) σ H1 ∧ post c (g l S') tm0 σ Q) := by
  cases o with
  | none => exact ⟨S, [], j, p⟩
  | some f =>
    refine (post_bind (fa := f) j p).mono fun v H1 ⟨d, S1, j1, p1⟩ => ?_
    split at p1
    · exact ⟨_, j1.take.is_int, S1, [_], j1, p1⟩
    · exact p1.elim
theorem w_slice {lo hi : Option Expr} {flo fhi : Option EM} {p2 : Pos} (hK : c.K = X.K) (he : PE X e (T c fe)) (hl : PO X lo (tOpt c flo)) (hh : PO X hi (tOpt c fhi)) : PE X (.Subscript e (.Slice lo hi none p2) pos) (T c (sliceM fe flo fhi)) :=
  pe_mono (pe_slice sl_S he hl hh) fun σ H Q h => by
    obtain ⟨S, tm, j, p⟩ := h
    refine (post_bind j p).mono fun v H1 ⟨d, S1, j1, p1⟩ => ?_
    refine tOpt_mono (post_optE j1 p1) fun l H2 ⟨S2, ex2, j2, p2⟩ => ?_
    refine tOpt_mono (post_optE j2 p2) fun u H3 ⟨S3, ex3, j3, p3⟩ => ?_
    obtain ⟨r, e, q⟩ := post_opt p3
    have j4 : SJ c S3 ((v, d) :: tm) σ H3 := (j3.dropL).dropL
    exact hK ▸ s_slice e j4.take fun v H' k => q v H' (j4.put k)
end
end WF
namespace WF
open PySem PySem.Spec PyProof.Rows L2
abbrev IP := Int → Int → Bool
def tailM (q : IP) (b : Int) (fc : EM) : EM := bindM fc fun z => match z with
  | .int d => retM (.bl (q b d))
  | _ => fun _ => none
def chain2M (p q : IP) (fa fb fc : EM) : EM := bindM fa fun x => bindM fb fun y => match x, y with
  | .int a, .int b => if p a b then tailM q b fc else retM (.bl false)
  | _, _ => fun _ => none
def chain3M (p q r : IP) (fa fb fc fd : EM) : EM := bindM fa fun x => bindM fb fun y => match x, y with
  | .int a, .int b => if p a b then bindM fc fun z => (match z with
      | .int d => if q b d then tailM r d fd else retM (.bl false)
      | _ => fun _ => none) else retM (.bl false)
  | _, _ => fun _ => none
section
variable {c : Cfg} {X : Cx} {S : S0} {tm tm0 : List Pr} {σ : L2.St} {H : Hp} {a b e d : Expr} {fa fb fc fd fe : EM} {pos : Pos} {p q r : IP}
variable {o1 o2 o3 : CmpOp}
def augM (i : Nat) (op : D → D → Option D) (fe : EM) : SM := fun S => match S[i]? with
  | some (.int n) => bindS fe (fun d S1 => match op (.int n) d with
    | some r => if i < S1.length then some (.nx, S1.set i r) else none
    | none => none) S
  | _ => none
end
end WF
namespace WF
open PySem PySem.Spec PyProof.Rows L2
def roM (op : List D → Option D) (as : List Ar) : EM := argsA as fun av S => match takeA av S with
  | some (ds, S1) => match op ds with
    | some d => if ds.length = av.length then some (.ok d, putA av ds S1) else none
    | none => none
  | none => none
def op2 (op : D → D → Option D) : List D → Option D
  | [a, b] => op a b
  | _ => none
section
variable {c : Cfg} {X : Cx} {S : S0} {tm tm0 : List Pr} {σ : L2.St} {H : Hp} {e a b : Expr} {es : List Expr} {as : List Ar} {pos p : Pos} {x : Str} {id ty : String} {r : List V → Hp → VK → Prop} {op : List D → Option D}
theorem t_ro {Q : VK} (hs : CallRO c.K r op) (h : T c (roM op as) σ H Q) : tArgsA c as σ H (fun vs H1 => r vs H1 Q) := by
  obtain ⟨S, tm, j, p⟩ := h
  refine tArgsA_mono (post_argsA as j p) fun vs H1 ⟨av, S1, L, a, al, j1, p1⟩ => ?_
  split at p1
  · rename_i ds S2 ht
    have jj : Joint c.K H1 (slotL σ S1 ++ (L ++ (tm ++ c.rs))) := by
      have := j1.jt
      rwa [List.append_assoc] at this
    obtain ⟨h1, h2, h3, h4, h5⟩ := take_ok a ht j1.sl jj
    split at p1
    · rename_i d hm
      split at p1
      · obtain ⟨g1, g2⟩ := h5 ds rfl
        refine hs H1 _ vs ds d Q h1 hm h4 fun v k => p1 v H1 (g1.sj ?_)
        refine Joint.perm perm_take.symm ?_
        have k2 : Joint c.K H1 (vs.zip ds ++ (slotL σ S2 ++ ((v, d) :: (tm ++ c.rs)))) := k.perm ((perm_take.symm).trans (List.Perm.append_left _ perm_take.symm))
        exact (g2 H1 _ k2).perm perm_take
      · exact p1.elim
    · exact p1.elim
  · exact p1.elim
theorem w_roB (hc : CallR X (.builtin id) r) (hs : CallRO c.K r op) (hg : Gl X x) (hm : X.mg x = none) (hv : bootBuiltins x = some (.builtin id)) (ha : PA X (e :: es) (tArgsA c as)) (hn : x ≠ "__name__" := by decide) (hdb : (x == ("__debug__" : Str)) = false := by decide)
    (he : starEach (e :: es) X.env = (false, eval e X.env) :: starEach es X.env := by rfl) (hpl : (backTo pos (starEach es X.env)).any (·.1) = false := by rfl) : PE X (.Call (.Name x p) (e :: es) [] pos) (T c (roM op as)) :=
  pe_mono (pe_callB hc hg hm hv ha hn hdb he hpl) fun _ _ _ h => t_ro hs h
theorem w_roTy (hc : CallR X (.type ty) r) (hs : CallRO c.K r op) (hg : Gl X x) (hm : X.mg x = none) (hv : bootBuiltins x = some (.type ty)) (ha : PA X (e :: es) (tArgsA c as)) (hn : x ≠ "__name__" := by decide) (hdb : (x == ("__debug__" : Str)) = false := by decide)
    (he : starEach (e :: es) X.env = (false, eval e X.env) :: starEach es X.env := by rfl) (hpl : (backTo pos (starEach es X.env)).any (·.1) = false := by rfl) : PE X (.Call (.Name x p) (e :: es) [] pos) (T c (roM op as)) :=
  pe_mono (pe_callTy hc hg hm hv ha hn hdb he hpl) fun _ _ _ h => t_ro hs h
def tAr (c : Cfg) : Ar → TE
  | .v f => T c f
  | .s i => tVar i
theorem wr_v {f : EM} (h : PE X e (T c f)) : PE X e (tAr c (.v f)) := h
theorem wr_s {i : Nat} (h : PE X e (tVar i)) : PE X e (tAr c (.s i)) := h
theorem tArgsA_cons {y : Ar} {ys : List Ar} : tArgsA c (y :: ys) = tCons (tAr c y) (tArgsA c ys) := by cases y <;> rfl
def r2L (r : R2) : List V → Hp → VK → Prop := fun vs H Q => ∃ x y, vs = [x, y] ∧ r x y H Q
theorem ro2 {K : PySem.W.Frag} {r : R2} {op : D → D → Option D} (h : Op2R K r op) : CallRO K (r2L r) (op2 op) := by
  intro H R vs ds d Q hl e j q
  match ds, vs, hl, e, j, q with
  | [d1, d2], [v1, v2], _, e, j, q =>
    have j' : Joint K H ((v1, d1) :: (v2, d2) :: R) := j
    exact ⟨v1, v2, rfl, h H R v1 v2 d1 d2 d Q e j'.sw fun v k => q v (k.perm (List.Perm.cons _ (List.Perm.swap _ _ _)))⟩
theorem t_ro2 {r : R2} {op : D → D → Option D} {y z : Ar} {Q : VK} (hs : Op2R c.K r op) (h : T c (roM (op2 op) [y, z]) σ H Q) : tOp r (tAr c y) (tAr c z) σ H Q := by
  have q := t_ro (ro2 hs) h
  rw [tArgsA_cons, tArgsA_cons] at q
  have mono : ∀ {w : Ar} {σ : L2.St} {H : Hp} {Q Q' : VK}, tAr c w σ H Q → (∀ v H, Q v H → Q' v H) → tAr c w σ H Q' := fun {w σ H Q Q'} h q => by
    cases w with
    | v f => exact T.mono h q
    | s i => obtain ⟨v, e, h⟩ := h; exact ⟨v, e, q _ _ h⟩
  refine mono q fun v H1 q1 => mono q1 fun w H2 q2 => ?_
  obtain ⟨v', w', e, q3⟩ := q2
  cases e
  exact q3
theorem w_cmpR {o : CmpOp} {r : R2} {op : D → D → Option D} {y z : Ar} (ho : OpR X (compareOp o) r) (hs : Op2R c.K r op) (ha : PE X a (tAr c y)) (hb : PE X b (tAr c z)) (hm : behindInMarks o b = false := by first | exact nomark _ | rfl) : PE X (.Compare a [o] [b] pos) (T c (roM (op2 op) [y, z])) :=
  pe_mono (pe_cmpR ho ha hb hm) fun _ _ _ h => t_ro2 hs h
theorem wt_cmpR {o : CmpOp} {r : R2} {op : D → D → Option D} {y z : Ar} (ho : OpR X (compareOp o) r) (hs : Op2R c.K r op) (ha : PE X a (tAr c y)) (hb : PE X b (tAr c z)) (hm : behindInMarks o b = false := by first | exact nomark _ | rfl) : PT X (.Compare a [o] [b] pos) (Tt c (roM (op2 op) [y, z])) :=
  pt_mono (pt_cmpR ho ha hb hm) fun _ _ _ h => t_ro2 hs h
end
inductive Ty where
  | int | bool | str | none | list | tuple | dict
  deriving DecidableEq
def Ty.nm : Ty → String
  | .int => "int" | .bool => "bool" | .str => "str" | .none => "NoneType" | .list => "list" | .tuple => "tuple" | .dict => "dict"
def Ty.sub (a b : Ty) : Bool := decide (a = b) || (decide (a = .bool) && decide (b = .int))
def tyNm (n : String) : Option Ty := if n = "int" then some .int else if n = "bool" then some .bool else if n = "str" then some .str else if n = "list" then some .list else if n = "tuple" then some .tuple else if n = "dict" then some .dict else none
theorem tyNm_ok {n : String} {t : Ty} (h : tyNm n = some t) : n = t.nm := by
  unfold tyNm at h
  repeat' split at h
  all_goals first | (cases h; assumption) | cases h
theorem kit_tab (a b : Ty) : kitB a.nm b.nm = some (a.sub b) := by cases a <;> cases b <;> decide +kernel
def D.ty : D → Option Ty
  | .non => some .none
  | .bl _ => some .bool
  | .int _ => some .int
  | .str _ => some .str
  | .tup _ => some .tuple
  | .lst _ _ => some .list
  | .scr _ => some .list
  | .dic _ _ _ => some .dict
  | .dtk _ _ _ => some .dict
  | _ => none
section
variable {K : PySem.W.Frag} {H : Hp} {R : List Pr}
theorem Joint.ty {v : V} {d : D} {t : Ty} (j : Joint K H ((v, d) :: R)) (h : d.ty = some t) : TyX K H v (.type t.nm) := by
  obtain ⟨G, fp, g, r, n, z⟩ := j
  cases r with
  | un => cases h
  | non => cases h; exact .base .non
  | bl => cases h; exact .base (.bl _)
  | int => cases h; exact .base (.int _)
  | str => cases h; exact .base (.str _)
  | vl => cases h
  | hld q a _ => cases h
  | con => cases h
  | exn => cases h
  | tab => cases h
  | of => cases h
  | oo => cases h
  | scr a _ =>
    cases h
    rcases sqL_mono g a with (q | ⟨o, q⟩) | ⟨o, its, m, q1, q2, _⟩
    · exact .base (.lst q)
    · exact .base (.frz q)
    · exact .kList q1 q2
  | tup a => cases h; exact .base (.tup (g _ _ a))
  | lf a => cases h; exact .base (.lst (g _ _ a))
  | lo a => cases h; exact .base (.lst a)
  | kf a => cases h; exact .base (.dK (g _ _ a))
  | ko a => cases h; exact .base (.dK a)
  | tf a => cases h; exact .base (.dT (g _ _ a))
  | to a => cases h; exact .base (.dT a)
def tysD : List D → Option (List Ty)
  | [] => some []
  | .vl (.ty n) :: r => match tyNm n, tysD r with
    | some t, some ts => some (t :: ts)
    | _, _ => none
  | _ :: _ => none
def isiD : List D → Option D
  | [x, .vl (.ty n)] => match x.ty, tyNm n with
    | some a, some b => some (.bl (a.sub b))
    | _, _ => none
  | [x, .tup cs] => match x.ty, tysD cs with
    | some a, some bs => some (.bl (bs.any a.sub))
    | _, _ => none
  | _ => none
def rIsiA (K : PySem.W.Frag) : List V → Hp → VK → Prop := fun xs H Q => rIsi K xs H Q ∨ rIsiT K xs H Q
theorem call_isiA {X : Cx} : CallR X (.builtin "isinstance") (rIsiA X.K) := CallR.or call_isi call_isiT
theorem kitAny_tab (a : Ty) : ∀ bs : List Ty, PySem.W.kitAny K (.type a.nm) (bs.map fun b => .type b.nm) = some (bs.any a.sub)
  | [] => rfl
  | b :: bs => by
    refine kitAny_cons (kit_ty (kit_tab a b)) (fun h => ?_) fun h => ?_
    · rw [kitAny_tab a bs, List.any_cons, h, Bool.false_or]
    · rw [List.any_cons, h, Bool.true_or]
theorem tys_vals : ∀ {cs : List D} {bs : List Ty} {vs : List V}, tysD cs = some bs → vs.length = cs.length → Joint K H (vs.zip cs ++ R) → Paired ClsV vs (bs.map fun b => .type b.nm)
  | [], _, [], h, _, _ => by cases h; exact .nil
  | d :: cs, bs, v :: vs, h, hl, j => by
    unfold tysD at h
    split at h
    · rename_i heq; cases heq
    · rename_i n r heq
      cases heq
      split at h
      · rename_i t ts h1 h2
        cases h
        have e : v = .ty n := Joint.is_vl (R := vs.zip cs ++ R) j
        rw [e, tyNm_ok h1]
        exact .cons (.ty _) (tys_vals h2 (by simpa using hl) (Joint.drop (x := (v, _)) j))
      · cases h
    · cases h
  | [], _, _ :: _, _, h, _ => by simp at h
  | _ :: _, _, [], _, h, _ => by simp at h
theorem c_isi : CallRO K (rIsiA K) isiD := by
  intro H R vs ds d Q hl e j q
  unfold isiD at e
  split at e
  · split at e
    · rename_i x n a b h1 h2
      cases e
      obtain ⟨v, w, rfl⟩ := two_of hl
      have j' : Joint K H ((v, _) :: (w, _) :: R) := j
      refine .inl ⟨v, w, _, .type b.nm, a.sub b, rfl, ?_, j'.ty h1, kit_ty (kit_tab a b), q _ (ju_bl j)⟩
      rw [j'.sw.is_vl, tyNm_ok h2]
      exact .ty _
    · cases e
  · split at e
    · rename_i x cs a bs h1 h2
      cases e
      obtain ⟨v, w, rfl⟩ := two_of hl
      have j' : Joint K H ((v, _) :: (w, _) :: R) := j
      obtain ⟨p, rfl⟩ := j'.sw.is_tup
      obtain ⟨us, hp, hlen, k⟩ := j'.sw.untup
      exact .inr ⟨v, p, us, _, _, bs.any a.sub, rfl, hp, tys_vals h2 hlen k, j'.ty h1, kitAny_tab a bs, q _ (ju_bl j)⟩
    · cases e
  · cases e
end
section
variable {c : Cfg} {X : Cx} {x : Str} {pos : Pos}
theorem w_ty {n : String} (hg : Gl X x) (hm : X.mg x = none) (hv : bootBuiltins x = some (.type n)) (hn : x ≠ "__name__" := by decide) (hd : (x == ("__debug__" : Str)) = false := by decide) : PE X (.Name x pos) (T c (retM (.vl (.ty n)))) :=
  w_c (pe_bltn (v := .ty n) hg hm hv rfl hn hd) j_vl
end
end WF
namespace WF
open PySem PySem.Spec PyProof.Rows L2
def seqV : D → Option (List D × D)
  | .tup xs => some (D.frzs xs, .tup (D.frzs xs))
  | .lst o xs => some (D.frzs xs, .lst o (D.frzs xs))
  | _ => none
section
variable {K : PySem.W.Frag} {H : Hp} {R : List Pr} {p : Addr} {ds : List D} {v : V} {d : D}
theorem Joint.frzC {o : Bool} (j : Joint K H ((.ref p, .lst o ds) :: R)) : Joint K H ((.ref p, .lst o (D.frzs ds)) :: R) := by
  cases o with
  | false => exact j.freeze.drop
  | true =>
    obtain ⟨vs, hp, hl, k⟩ := j.openL
    obtain ⟨G, fp, g, r, n, z, gp, np⟩ := k
    obtain ⟨f1, f2, rfl, r1, r2⟩ := r.unappend
    obtain ⟨n1, n2, n3⟩ := List.nodup_append.mp n
    let G' : Hp := fun a => if a ∈ f1 then H a else G a
    have gg : GSub G G' := fun a o e => by
      show (if a ∈ f1 then H a else G a) = some o
      split
      · exact g a o e
      · exact e
    have gH : GSub G' H := fun a o e => by
      have e : (if a ∈ f1 then H a else G a) = some o := e
      split at e
      · exact e
      · exact g a o e
    have fr := r1.freeze gg fun a o m e => by
      show (if a ∈ f1 then H a else G a) = some o
      rw [if_pos m]; exact e
    have e1 : ((vs.zip ds).map fun x : Pr => (x.1, x.2.frz)) = vs.zip (D.frzs ds) := by
      rw [D.frzs_map, List.zip_map_right]; rfl
    rw [e1] at fr
    have hl2 : vs.length = (D.frzs ds).length := by rw [D.frzs_map, List.length_map]; exact hl
    refine ⟨G', p :: ([] ++ f2), gH, .lo hp (zip_fst hl2) (zip_snd hl2) fr (r2.mono gg fun _ _ _ h => h), ?_, fun a m => ?_⟩
    · exact List.nodup_cons.mpr ⟨fun m => np (List.mem_append_right _ m), n2⟩
    · rcases List.mem_cons.mp m with rfl | m
      · show (if a ∈ f1 then H a else G a) = none
        rw [if_neg (fun q => np (List.mem_append_left _ q))]; exact gp
      · have m : a ∈ f2 := m
        show (if a ∈ f1 then H a else G a) = none
        rw [if_neg (fun q => n3 a q a m rfl)]
        exact z a (List.mem_append_right _ m)
theorem Joint.seqV {xs : List D} {d' : D} (j : Joint K H ((v, d) :: R)) (h : seqV d = some (xs, d')) : Joint K H ((v, d') :: R) := by
  unfold WF.seqV at h
  split at h
  · cases h
    exact j.freeze.drop
  · cases h
    obtain ⟨p, rfl⟩ := j.is_lst
    exact j.frzC
  · cases h
theorem Joint.acc {xs : List D} {d0 d' : D} (h : WF.seqV d0 = some (xs, d')) (j : Joint K H ((v, d') :: R)) : ∃ p vs, v = .ref p ∧ ((∃ ys, d' = .lst true ys ∧ H p = some (.lst vs)) ∨ (∃ ys, d' = .lst false ys ∧ H p = some (.lst vs)) ∨ (∃ ys, d' = .tup ys ∧ H p = some (.tup vs))) ∧ vs.length = xs.length ∧
    ∀ (n : Nat) u x, vs[n]? = some u → xs[n]? = some x → Joint K H ((u, x) :: (v, d') :: R) := by
  unfold WF.seqV at h
  split at h
  · rename_i ys
    cases h
    obtain ⟨p, rfl⟩ := j.is_tup
    obtain ⟨vs, hp, hl, get⟩ := j.itemT (D.frzs_frzs ys)
    exact ⟨p, vs, rfl, .inr (.inr ⟨_, rfl, hp⟩), hl, get⟩
  · rename_i o ys
    cases h
    obtain ⟨p, rfl⟩ := j.is_lst
    cases o with
    | true =>
      obtain ⟨vs, hp, hl, get⟩ := j.itemO
      exact ⟨p, vs, rfl, .inl ⟨_, rfl, hp⟩, hl, fun n u x h1 h2 => get n u x h1 h2 (by
        rw [D.frzs_map, List.getElem?_map, Option.map_eq_some_iff] at h2
        obtain ⟨a, _, e⟩ := h2
        rw [← e, D.frz_frz])⟩
    | false =>
      obtain ⟨vs, hp, hl, get⟩ := j.itemL
      exact ⟨p, vs, rfl, .inr (.inl ⟨_, rfl, hp⟩), hl, get⟩
  · cases h
end
def argsAI : List Ar → (List Av → IM) → IM
  | [], g => g []
  | .v f :: r, g => bindI f fun d => argsAI r fun ds => g (.inl d :: ds)
  | .s i :: r, g => fun S => match S[i]? with
    | some d => if isUn d then none else argsAI r (fun ds => g (.inr i :: ds)) S
    | none => none
def seqVs : List D → Option (List (List D) × List D)
  | [] => some ([], [])
  | d :: r => match seqV d, seqVs r with
    | some (xs, d'), some (xss, ds') => some (xs :: xss, d' :: ds')
    | _, _ => none
def lentA : List Av → List D → List (Nat × D)
  | .inl _ :: r, _ :: ds => lentA r ds
  | .inr i :: r, d :: ds => (i, d) :: lentA r ds
  | _, _ => []
def walkM (comb : List (List D) → Option (List D)) (as : List Ar) : IM := argsAI as fun av S => match takeA av S with
  | some (ds, S1) => match seqVs ds with
    | some (xss, ds') => match comb xss with
      | some ys => some (.ok ys (lentA av ds'), S1)
      | none => none
    | none => none
  | none => none
theorem Iter.perm {K : PySem.W.Frag} {J : It} {h h' : List Pr} {ds : List D} (q : h.Perm h') (I : Iter K J h ds) : Iter K J h' ds :=
  ⟨fun i H L hi j => I.go i H L hi (j.perm (List.Perm.append_right _ q.symm)),
   fun i H L d x H' hd j y => (I.yld i H L d x H' hd (j.perm (List.Perm.append_right _ q.symm)) y).perm (List.Perm.cons _ (List.Perm.append_right _ q)),
   fun H L j => I.stop H L (j.perm (List.Perm.append_right _ q.symm))⟩
inductive SeqAll : List D → List (List D) → Prop where
  | nil : SeqAll [] []
  | cons {d d' xs ds xss} : seqV d = some (xs, d') → SeqAll ds xss → SeqAll (d' :: ds) (xs :: xss)
section
variable {c : Cfg} {X : Cx} {σ : L2.St} {R : It → Hp → Prop}
theorem post_argsAI : ∀ (fs : List Ar) {g : List Av → IM} {S : S0} {tm tm0 : List Pr} {H : Hp}, SJ c S tm σ H → postI c (argsAI fs g S) tm0 σ R →
    tArgsA c fs σ H (fun vs H1 => ∃ as S' L, AvOk σ as vs L ∧ as.length = fs.length ∧ SJ c S' (L ++ tm) σ H1 ∧ postI c (g as S') tm0 σ R)
  | [], _, S, _, _, _, j, p => ⟨[], S, [], .nil, rfl, j, p⟩
  | .v f :: fs, g, S, tm, tm0, H, j, p => by
    refine (post_bindI (fa := f) j p).mono fun v H1 ⟨d, S1, j1, p1⟩ => ?_
    refine tArgsA_mono (post_argsAI fs j1 p1) fun vs H2 ⟨as, S2, L, a, al, j2, p2⟩ => ?_
    exact ⟨.inl d :: as, S2, _, .v a, by simp [al], j2.perm perm_take, p2⟩
  | .s i :: fs, g, S, tm, tm0, H, j, p => by
    unfold argsAI at p
    split at p
    · rename_i d hd
      split at p
      · exact p.elim
      · rename_i hu
        obtain ⟨v, ev⟩ := j.set i d hd (isUn_ne (by simpa using hu))
        refine ⟨v, ev, tArgsA_mono (post_argsAI fs j p) fun vs H2 ⟨as, S2, L, a, al, j2, p2⟩ => ?_⟩
        exact ⟨.inr i :: as, S2, L, .s ev a, by simp [al], j2, p2⟩
    · exact p.elim
theorem seqVs_ok {K : PySem.W.Frag} {H : Hp} : ∀ {ds : List D} {xss : List (List D)} {ds' : List D} {vs : List V} {R : List Pr}, seqVs ds = some (xss, ds') → vs.length = ds.length → Joint K H (vs.zip ds ++ R) → vs.length = ds'.length ∧ SeqAll ds' xss ∧ Joint K H (vs.zip ds' ++ R)
  | [], xss, ds', vs, R, h, hl, j => by
    cases h
    exact ⟨hl, .nil, j⟩
  | d :: ds, xss, ds', v :: vs, R, h, hl, j => by
    unfold seqVs at h
    split at h
    · rename_i xs d' xss' ds2 h1 h2
      cases h
      have k1 : Joint K H (vs.zip ds ++ ((v, d') :: R)) := (Joint.seqV (R := vs.zip ds ++ R) j h1).perm perm_take.symm
      obtain ⟨a, b, k2⟩ := seqVs_ok h2 (by simpa using hl) k1
      exact ⟨by simp [a], .cons h1 b, k2.perm perm_take⟩
    · cases h
  | _ :: _, _, _, [], _, _, h, _ => by simp at h
theorem lent_split : ∀ {av : List Av} {vs : List V} {L : List Pr} {ds : List D}, AvOk σ av vs L → vs.length = ds.length → LentOk σ (lentA av ds) ∧ ∃ hold, (vs.zip ds).Perm (hold ++ lentL σ (lentA av ds))
  | [], [], [], [], .nil, _ => ⟨(fun x m => by cases m), [], List.Perm.refl _⟩
  | [], [], [], _ :: _, .nil, h => by simp at h
  | .inl _ :: av, v :: vs, _, d :: ds, .v a, h => by
    obtain ⟨lo, hold, p⟩ := lent_split a (ds := ds) (by simpa using h)
    exact ⟨lo, (v, d) :: hold, List.Perm.cons _ p⟩
  | .inr i :: av, v :: vs, L, d :: ds, .s ev a, h => by
    obtain ⟨lo, hold, p⟩ := lent_split a (ds := ds) (by simpa using h)
    refine ⟨fun x m => ?_, hold, ?_⟩
    · rcases List.mem_cons.mp m with rfl | m
      · exact ⟨v, ev⟩
      · exact lo x m
    · have ee : (σ.getD i none).getD .non = v := by rw [List.getD_eq_getElem?_getD, ev]; rfl
      show ((v, d) :: vs.zip ds).Perm (hold ++ (((σ.getD i none).getD .non, d) :: lentL σ (lentA av ds)))
      rw [ee]
      exact (List.Perm.cons _ p).trans perm_take.symm
  | .inl _ :: _, _ :: _, _, [], .v _, h => by simp at h
  | .inr _ :: _, _ :: _, _, [], .s _ _, h => by simp at h
theorem src_post {comb : List (List D) → Option (List D)} {as : List Ar} {H : Hp} (h : TIm c (walkM comb as) σ H R) :
    tArgsA c as σ H (fun vs H1 => ∃ ds xss ys, comb xss = some ys ∧ SeqAll ds xss ∧ vs.length = ds.length ∧ ds.length = as.length ∧ (∃ Z, Joint c.K H1 (vs.zip ds ++ Z)) ∧ ∀ J, Iter c.K J (vs.zip ds) ys → R J H1) := by
  obtain ⟨S, tm, j, p⟩ := h
  refine tArgsA_mono (post_argsAI as j p) fun vs H1 ⟨av, S1, L, a, al, j1, p1⟩ => ?_
  split at p1
  · rename_i ds S2 ht
    have jj : Joint c.K H1 (slotL σ S1 ++ (L ++ (tm ++ c.rs))) := by
      have := j1.jt
      rwa [List.append_assoc] at this
    obtain ⟨h1, h2, h3, h4, h5⟩ := take_ok a ht j1.sl jj
    split at p1
    · rename_i xss ds' hs
      split at p1
      · rename_i ys hy
        obtain ⟨g1, g2, g3⟩ := seqVs_ok hs h1 h4
        obtain ⟨lo, hold, pm⟩ := lent_split a g1
        refine ⟨ds', xss, ys, hy, g2, g1, by have := av_len a; omega, ⟨_, g3⟩, fun J IJ => ?_⟩
        refine p1 lo J hold H1 (IJ.perm pm) (h3.sj ?_)
        have k := g3.perm (List.Perm.append_right _ pm)
        have e1 : ((hold ++ lentL σ (lentA av ds')) ++ (slotL σ S2 ++ (tm ++ c.rs))).Perm (slotL σ S2 ++ (hold ++ (lentL σ (lentA av ds') ++ tm) ++ c.rs)) := by
          rw [List.append_assoc hold (lentL σ (lentA av ds') ++ tm), List.append_assoc (lentL σ (lentA av ds')) tm, ← List.append_assoc hold]
          exact perm_sw
        exact k.perm e1
      · exact p1.elim
    · exact p1.elim
  · exact p1.elim
def comb1 : List (List D) → Option (List D)
  | [xs] => some xs
  | _ => none
theorem iter_seqL {K : PySem.W.Frag} {p : Addr} {d d' : D} {xs : List D} (h : seqV d = some (xs, d')) (hd : ∃ o ys, d' = .lst o ys) : Iter K (Itl K p) [(.ref p, d')] xs := by
  have main : ∀ {H : Hp} {L : List Pr}, Joint K H ([(.ref p, d')] ++ L) → ∃ vs, SqL K H p vs ∧ vs.length = xs.length ∧ ∀ (n : Nat) u x, vs[n]? = some u → xs[n]? = some x → Joint K H ((u, x) :: ([(.ref p, d')] ++ L)) := fun {H L} j => by
    obtain ⟨q, vs, e, k, hl, get⟩ := Joint.acc (R := L) h j
    cases e
    obtain ⟨o, ys, rfl⟩ := hd
    rcases k with ⟨zs, e, hp⟩ | ⟨zs, e, hp⟩ | ⟨zs, e, hp⟩
    · exact ⟨vs, .inl (.inl hp), hl, get⟩
    · exact ⟨vs, .inl (.inl hp), hl, get⟩
    · cases e
  refine ⟨fun i H L hi j => ?_, fun i H L d x H' hd j y => ?_, fun H L j => ?_⟩
  · obtain ⟨vs, sq, hl, get⟩ := main j
    exact ⟨vs, vs[i]'(by omega), sq, List.getElem?_eq_getElem _⟩
  · obtain ⟨vs, sq, hl, get⟩ := main j
    obtain ⟨rfl, y2⟩ := y
    exact get i x d (y2 vs sq) hd
  · obtain ⟨vs, sq, hl, get⟩ := main j
    exact ⟨vs, sq, by omega⟩
theorem iter_seqT {K : PySem.W.Frag} {p : Addr} {d d' : D} {xs : List D} (h : seqV d = some (xs, d')) (hd : ∃ ys, d' = .tup ys) : Iter K (Itt K p) [(.ref p, d')] xs := by
  have main : ∀ {H : Hp} {L : List Pr}, Joint K H ([(.ref p, d')] ++ L) → ∃ vs, SqT K H p vs ∧ vs.length = xs.length ∧ ∀ (n : Nat) u x, vs[n]? = some u → xs[n]? = some x → Joint K H ((u, x) :: ([(.ref p, d')] ++ L)) := fun {H L} j => by
    obtain ⟨q, vs, e, k, hl, get⟩ := Joint.acc (R := L) h j
    cases e
    obtain ⟨ys, rfl⟩ := hd
    rcases k with ⟨zs, e, hp⟩ | ⟨zs, e, hp⟩ | ⟨zs, e, hp⟩
    · cases e
    · cases e
    · exact ⟨vs, .inl (.inl hp), hl, get⟩
  refine ⟨fun i H L hi j => ?_, fun i H L d x H' hd j y => ?_, fun H L j => ?_⟩
  · obtain ⟨vs, sq, hl, get⟩ := main j
    exact ⟨vs, vs[i]'(by omega), sq, List.getElem?_eq_getElem _⟩
  · obtain ⟨vs, sq, hl, get⟩ := main j
    obtain ⟨rfl, y2⟩ := y
    exact get i x d (y2 vs sq) hd
  · obtain ⟨vs, sq, hl, get⟩ := main j
    exact ⟨vs, sq, by omega⟩
theorem one_len {ds : List D} (h : ds.length = 1) : ∃ d, ds = [d] := by
  match ds, h with
  | [d], _ => exact ⟨d, rfl⟩
theorem wi_seqS {tg e : Expr} {i : Nat} (hK : c.K = X.K) (he : PE X e (tVar i)) : PI X tg e (TIm c (walkM comb1 [.s i])) := pi_mono (PI.or (pi_list he) (pi_tup he)) fun σ H R h => by
  obtain ⟨v, ev, ds, xss, ys, hc, sa, hl, hd, ⟨Z, jz⟩, fin⟩ := src_post h
  obtain ⟨d, rfl⟩ := one_len hd
  cases sa with
  | cons h1 h2 =>
    cases h2
    cases hc
    have jz : Joint c.K H ((v, d) :: Z) := jz
    obtain ⟨p, vs, rfl, k, _, _⟩ := Joint.acc h1 jz
    rcases k with ⟨zs, rfl, hp⟩ | ⟨zs, rfl, hp⟩ | ⟨zs, rfl, hp⟩
    · exact .inl ⟨_, ev, p, rfl, ⟨vs, .inl (.inl hp)⟩, fin _ (hK ▸ iter_seqL h1 ⟨_, _, rfl⟩)⟩
    · exact .inl ⟨_, ev, p, rfl, ⟨vs, .inl (.inl hp)⟩, fin _ (hK ▸ iter_seqL h1 ⟨_, _, rfl⟩)⟩
    · exact .inr ⟨_, ev, p, rfl, ⟨vs, .inl (.inl hp)⟩, fin _ (hK ▸ iter_seqT h1 ⟨_, rfl⟩)⟩
def rngD (lo : Int) (n : Nat) : List D := (List.range n).map fun (k : Nat) => .int (lo + ((k : Nat) : Int))
theorem iter_rng {K : PySem.W.Frag} {lo : Int} {n : Nat} : Iter K (Itr lo n) [] (rngD lo n) where
  go := fun i H L hi j => by
    have q : i < n := by simpa [rngD] using hi
    exact q
  yld := fun i H L d x H' hd j y => by
    obtain ⟨rfl, y2⟩ := y
    have hi : i < n := by
      by_cases q : i < n
      · exact q
      · rw [List.getElem?_eq_none (by simp [rngD]; omega)] at hd; cases hd
    rw [rngD, List.getElem?_map, List.getElem?_range hi] at hd
    cases hd
    rw [y2]
    exact ju_int j
  stop := fun H L j => by
    have q : n ≤ (rngD lo n).length := by simp [rngD]
    exact q
def rng1M (fa : EM) : IM := bindI fa fun d => match d with
  | .int n => if -(2 ^ 62) ≤ n ∧ n < 2 ^ 62 then optI (some (rngD 0 n.toNat)) else fun _ => none
  | _ => fun _ => none
def rng2M (fa fb : EM) : IM := bindI fa fun d => bindI fb fun e => match d, e with
  | .int a, .int b => if -(2 ^ 62) ≤ a ∧ a < 2 ^ 62 ∧ -(2 ^ 62) ≤ b ∧ b < 2 ^ 62 then optI (some (rngD a (b - a).toNat)) else fun _ => none
  | _, _ => fun _ => none
theorem wi_rng1 {tg a : Expr} {fa : EM} {p pos : Pos} (hg : Gl X "range") (hm : X.mg "range" = none) (ha : PE X a (T c fa)) (hs : starEach [a] X.env = [(false, eval a X.env)] := by rfl) : PI X tg (.Call (.Name "range" p) [a] [] pos) (TIm c (rng1M fa)) :=
  pi_mono (pi_range1 hg hm (pa_cons ha pa_nil hs) hs) fun σ H R h => by
    obtain ⟨S, tm, j, p⟩ := h
    refine (post_bindI j p).mono fun v H1 ⟨d, S1, j1, p1⟩ => ?_
    cases d with
    | int n =>
      simp only at p1
      split at p1
      · rename_i hn
        obtain ⟨ds, e, q⟩ := post_optI p1
        cases e
        exact ⟨n, by rw [j1.take.is_int], hn.1, hn.2, q _ [] H1 iter_rng j1.drop⟩
      · exact p1.elim
    | _ => exact p1.elim
theorem wi_rng2 {tg a b : Expr} {fa fb : EM} {p pos : Pos} (hg : Gl X "range") (hm : X.mg "range" = none) (ha : PE X a (T c fa)) (hb : PE X b (T c fb)) (hs : starEach [a, b] X.env = [(false, eval a X.env), (false, eval b X.env)] := by rfl) (hs2 : starEach [b] X.env = [(false, eval b X.env)] := by rfl) : PI X tg (.Call (.Name "range" p) [a, b] [] pos) (TIm c (rng2M fa fb)) :=
  pi_mono (pi_range2 hg hm (pa_cons ha (pa_cons hb pa_nil hs2) (by rw [hs, hs2])) hs hs2) fun σ H R h => by
    obtain ⟨S, tm, j, p⟩ := h
    refine (post_bindI j p).mono fun v H1 ⟨d, S1, j1, p1⟩ => ?_
    refine (post_bindI j1 p1).mono fun w H2 ⟨e, S2, j2, p2⟩ => ?_
    obtain ⟨n, m, rfl, rfl⟩ : ∃ n m, d = .int n ∧ e = .int m := by
      cases d <;> first | exact p2.elim | (cases e <;> first | exact p2.elim | exact ⟨_, _, rfl, rfl⟩)
    simp only at p2
    split at p2
    · rename_i hn
      obtain ⟨ds, e, q⟩ := post_optI p2
      cases e
      exact ⟨n, m, by rw [j2.take.is_int, j2.drop.take.is_int], hn, q _ [] H2 iter_rng j2.drop.drop⟩
    · exact p2.elim
end
end WF
namespace WF
open PySem PySem.Spec PyProof.Rows L2
structure Sr where
  it : Addr
  a : Addr
  k : Bool
  xs : Array Value
def seqAt (k : Bool) (h : Heap) (a : Addr) (xs : Array Value) : Prop := match k with
  | true => h.IsList a xs
  | false => h.IsTuple a xs
def itAt (k : Bool) (h : Heap) (it a : Addr) (i : Nat) : Prop := match k with
  | true => h.IsListIter it a i
  | false => h.IsTupleIter it a i
def Sr.St (q : Sr) (i : Nat) (h : Heap) : Prop := itAt q.k h q.it q.a i ∧ seqAt q.k h q.a q.xs
section
variable {prog : Program} {w : World} {A : Around} {E : Value → Shared → Prop} {s : Shared} {i : Nat}
theorem Sr.draws (hh : A.handled = none) (q : Sr) (hne : q.a ≠ q.it) : Draws prog w A q.it [q.it, q.a] q.xs.size (fun i v => q.xs[i]? = some v) (fun i h => q.St i h) := by
  obtain ⟨it, a, k, xs⟩ := q
  cases k with
  | true => exact Draws.list hh it a hne xs
  | false => exact Draws.tuple hh it a hne xs
theorem itAt_keep {k : Bool} {h h' : Heap} {it a : Addr} (x : itAt k h it a i) (e : ∀ o, h.get? it = some o → h'.get? it = some o) : itAt k h' it a i := by
  cases k with
  | true => exact Heap.IsListIter.at x e
  | false => exact Heap.IsTupleIter.at x e
theorem seqAt_keep {k : Bool} {h h' : Heap} {a : Addr} {xs : Array Value} (x : seqAt k h a xs) (e : ∀ o, h.get? a = some o → h'.get? a = some o) : seqAt k h' a xs := by
  cases k with
  | true => exact Heap.IsList.at x e
  | false => exact Heap.IsTuple.at x e
theorem itAt_get {k : Bool} {h : Heap} {it a : Addr} (x : itAt k h it a i) : ∃ o, h.get? it = some o ∧ ∀ v, o.data ≠ .cell v := by
  cases k with
  | true => obtain ⟨o, h1, _, h2⟩ := x; exact ⟨o, h1, fun v e => by rw [h2] at e; cases e⟩
  | false => obtain ⟨o, h1, _, h2⟩ := x; exact ⟨o, h1, fun v e => by rw [h2] at e; cases e⟩
theorem drawS (strict : Bool) (q : Sr) (hh : A.handled = none) (hne : q.a ≠ q.it) (st : q.St i s.heap) {Q : Option Value → Shared → Prop}
    (h1 : ∀ x h' tk, q.xs[i]? = some x → q.St (i + 1) h' → Heap.SameBut q.it s.heap h' → Q (some x) { s with heap := h', toks := tk }) (hlt : i < q.xs.size) :
    wpAny (model prog w) A (if strict = true then Builtin.SmallTypes.nextOrEnd (.ref q.it) else (do return some (← Builtin.SmallTypes.nextOf (.ref q.it)))) Q E s := by
  cases strict with
  | false =>
    rw [if_neg Bool.false_ne_true]
    exact wpAny_bind ((q.draws hh hne).item i s _ E hlt st fun x h' tk a b c => wpAny_pure (h1 x h' tk a b c))
  | true =>
    rw [if_pos rfl]
    unfold Builtin.SmallTypes.nextOrEnd
    exact wpAny_bind (wpAny_attempt ((q.draws hh hne).item i s _ _ hlt st fun x h' tk a b c => wpAny_pure (h1 x h' tk a b c)))
theorem drawEnd (q : Sr) (hh : A.handled = none) (hne : q.a ≠ q.it) (st : q.St q.xs.size s.heap) {Q : Option Value → Shared → Prop}
    (h1 : ∀ h', Heap.ExtBut q.it s.heap h' → Q none { s with heap := h' }) : wpAny (model prog w) A (Builtin.SmallTypes.nextOrEnd (.ref q.it)) Q E s := by
  unfold Builtin.SmallTypes.nextOrEnd
  refine wpAny_bind (wpAny_attempt ((q.draws hh hne).done s _ _ st fun h' e he hx => ?_))
  obtain ⟨o, ho, hc⟩ := hx
  exact wpAny_bind (wpAny_isInstance (T := "StopIteration") (b := true) ⟨o, ho, hc⟩ isSubtype_stop (wpAny_pure (h1 h' he)))
abbrev zipO (strict : Bool) (f0 : Value) (TI TO : Addr) : Obj := { cls := .type "zip", dict := none, data := .fields #[f0, .bool false, .bool strict, .ref TI, .ref TO], slots := #[] }
abbrev tupO (xs : Array Value) : Obj := { cls := .type "tuple", data := .seq xs }
structure ZApart (z TI TO : Addr) (qs : List Sr) : Prop where
  TIz : TI ≠ z
  TOz : TO ≠ z
  TITO : TI ≠ TO
  iz : ∀ q ∈ qs, q.it ≠ z
  iTI : ∀ q ∈ qs, q.it ≠ TI
  iTO : ∀ q ∈ qs, q.it ≠ TO
  az : ∀ q ∈ qs, q.a ≠ z
  aTO : ∀ q ∈ qs, q.a ≠ TO
  ai : ∀ q ∈ qs, ∀ q' ∈ qs, q.a ≠ q'.it
  nd : (qs.map Sr.it).Nodup
theorem St_keep {q : Sr} {h h' : Heap} (x : q.St i h) (e : ∀ c o, (c = q.it ∨ c = q.a) → h.get? c = some o → h'.get? c = some o) : q.St i h' := ⟨itAt_keep x.1 fun o => e q.it o (.inl rfl), seqAt_keep x.2 fun o => e q.a o (.inr rfl)⟩
theorem draw_loop {TO : Addr} {β : Type} {b : β} {f : Value × Nat → β → Sem (ForInStep β)} {R : β → Shared → Prop} (all : List Sr) (hai : ∀ q ∈ all, ∀ q' ∈ all, q.a ≠ q'.it) (hTO : ∀ q ∈ all, q.it ≠ TO ∧ q.a ≠ TO)
    (hf : ∀ (q : Sr) (k : Nat) (s : Shared) (Q : ForInStep β → Shared → Prop) (old : Array Value), q ∈ all → q.St i s.heap → i < q.xs.size → s.heap.get? TO = some (tupO old) → old.size ≤ 1000 →
      (∀ x h' tk, q.xs[i]? = some x → h'.get? TO = some (tupO (old.setIfInBounds k x)) → q.St (i + 1) h' → (∀ c o, c ≠ TO → c ≠ q.it → s.heap.get? c = some o → h'.get? c = some o) → h'.objs.size = s.heap.objs.size → Q (.yield b) { s with heap := h', toks := tk }) →
      wpAny (model prog w) A (f (.ref q.it, k) b) Q E s) :
    ∀ (qs : List Sr) (k : Nat) (old : Array Value) (s : Shared), (∀ q ∈ qs, q ∈ all) → (qs.map Sr.it).Nodup → (∀ q ∈ qs, q.St i s.heap ∧ i < q.xs.size) → s.heap.get? TO = some (tupO old) → old.size = k + qs.length → old.size ≤ 1000 →
      (∀ h' tk xs, xs.map some = qs.map (fun q => q.xs[i]?) → h'.get? TO = some (tupO (old.toList.take k ++ xs).toArray) → (∀ q ∈ qs, q.St (i + 1) h') → (∀ c o, c ≠ TO → (∀ q ∈ qs, c ≠ q.it) → s.heap.get? c = some o → h'.get? c = some o) → h'.objs.size = s.heap.objs.size → R b { s with heap := h', toks := tk }) →
      wpAny (model prog w) A (forIn ((qs.map fun q => Value.ref q.it).zipIdx k) b f) R E s := by
  intro qs
  induction qs with
  | nil =>
    intro k old s _ _ _ hto hsz _ hR
    simp only [List.map_nil, List.zipIdx_nil, List.forIn_nil]
    refine wpAny_pure ?_
    have := hR s.heap s.toks [] rfl (by
      rw [hto]
      have e : (old.toList.take k ++ []).toArray = old := by
        rw [List.append_nil, List.take_of_length_le (by simp at hsz; simp [hsz])]
      rw [e]) (fun q m => nomatch m) (fun c o _ _ e => e) rfl
    exact this
  | cons q qs ih =>
    intro k old s hin hnd hst hto hsz hsm hR
    simp only [List.map_cons, List.zipIdx_cons, List.forIn_cons]
    obtain ⟨hq1, hq2⟩ := hst q List.mem_cons_self
    have hqa := hin q List.mem_cons_self
    refine wpAny_bind (hf q k s _ old hqa hq1 hq2 hto hsm fun x h1 tk1 ex ht1 st1 kp1 sz1 => ?_)
    simp only [List.map_cons, List.nodup_cons] at hnd
    have nit : ∀ q' ∈ qs, q'.it ≠ q.it := fun q' m e => hnd.1 (by rw [← e]; exact List.mem_map_of_mem m)
    refine ih (k + 1) (old.setIfInBounds k x) _ (fun q' m => hin q' (List.mem_cons_of_mem _ m)) hnd.2 (fun q' m => ⟨?_, (hst q' (List.mem_cons_of_mem _ m)).2⟩) ht1 (by simp at hsz ⊢; omega) (by simpa using hsm) fun h2 tk2 xs e2 ht2 st2 kp2 sz2 => ?_
    · have hq' := hin q' (List.mem_cons_of_mem _ m)
      refine St_keep (hst q' (List.mem_cons_of_mem _ m)).1 fun c o hc e => kp1 c o ?_ ?_ e
      · rcases hc with rfl | rfl
        · exact (hTO q' hq').1
        · exact (hTO q' hq').2
      · rcases hc with rfl | rfl
        · exact nit q' m
        · exact hai q' hq' q hqa
    · refine hR h2 tk2 (x :: xs) (by rw [List.map_cons, List.map_cons, e2, ex]) ?_ (fun q' m => ?_) (fun c o h1 h2 e => kp2 c o h1 (fun q' m => h2 q' (List.mem_cons_of_mem _ m)) (kp1 c o h1 (h2 q List.mem_cons_self) e)) (sz2.trans sz1)
      · rw [ht2]
        have hk : k < old.toList.length := by simp at hsz ⊢; omega
        have e : (old.setIfInBounds k x).toList.take (k + 1) = old.toList.take k ++ [x] := by
          rw [Array.toList_setIfInBounds, List.take_succ_eq_append_getElem (by simpa using hk), List.take_set_of_le (Nat.le_refl _)]
          simp
        rw [e, List.append_assoc]
        rfl
      · rcases List.mem_cons.mp m with rfl | m
        · refine St_keep st1 fun c o hc e => kp2 c o ?_ (fun q' m' => ?_) e
          · rcases hc with rfl | rfl
            · exact (hTO _ hqa).1
            · exact (hTO _ hqa).2
          · rcases hc with rfl | rfl
            · exact fun z => nit q' m' z.symm
            · exact hai _ hqa q' (hin q' (List.mem_cons_of_mem _ m'))
        · exact st2 q' m
end
end WF
namespace WF
open PySem PySem.Spec PyProof.Rows L2
section
variable {prog : Program} {w : World} {A : Around} {E : Value → Shared → Prop} {s : Shared} {i : Nat} {z TI TO : Addr} {qs : List Sr} {old : Array Value} {strict : Bool}
theorem zip_next_item {Q : Value → Shared → Prop} (hh : A.handled = none) (Z : ZApart z TI TO qs) (hz : s.heap.get? z = some (zipO strict .none TI TO)) (hTI : s.heap.get? TI = some (tupO (qs.map fun q => Value.ref q.it).toArray)) (hTO : s.heap.get? TO = some (tupO old))
    (hn : old.size = qs.length) (hsm : qs.length ≤ 1000) (hne : qs ≠ []) (hst : ∀ q ∈ qs, q.St i s.heap ∧ i < q.xs.size)
    (hQ : ∀ (xs : List Value) h' tk, xs.map some = qs.map (fun q => q.xs[i]?) → h'.get? z = some (zipO strict (rawInt s.heap.objs.size) TI TO) → h'.get? TO = some (tupO xs.toArray) → (∀ q ∈ qs, q.St (i + 1) h') → h'.get? s.heap.objs.size = some (tupO xs.toArray) → h'.objs.size = s.heap.objs.size + 1 →
      (∀ c o, c ≠ z → c ≠ TO → (∀ q ∈ qs, c ≠ q.it) → s.heap.get? c = some o → h'.get? c = some o) → Q (.ref s.heap.objs.size) { s with heap := h', toks := tk }) :
    wpAny (model prog w) A (Builtin.«zip.__next__» ⟨[.ref z], []⟩) (fun fin s' => ∃ v, fin = .done (.ret v) ∧ Q v s') E s := by
  obtain ⟨hp, g, d, tk0, os⟩ := s
  show wpAny _ _ (field (.ref z) 2 >>= _) _ _ _
  refine wpAny_bind (wpAny_field hz rfl (x := .bool strict) rfl ?_)
  show wpAny _ _ (field (.ref z) 3 >>= _) _ _ _
  refine wpAny_bind (wpAny_field hz rfl (x := .ref TI) rfl ?_)
  refine wpAny_bind (wpAny_seqItems hTI rfl ?_)
  have hem : (qs.map fun q => Value.ref q.it).toArray.isEmpty = false := by
    cases qs with
    | nil => exact (hne rfl).elim
    | cons _ _ => simp
  simp only [hem, Bool.false_eq_true, if_false]
  refine wpAny_bind ?_
  unfold Builtin.SmallTypes.ownedTupleIsFree
  refine wpAny_bind (wpAny_field hz rfl (x := .none) rfl (wpAny_pure ?_))
  simp only [if_true]
  refine wpAny_bind (wpAny_rule ?_)
  refine wpAny_bind (wpAny_field hz rfl (x := .ref TO) rfl ?_)
  refine wpAny_bind (wpAny_setField_rec hz (by simp) fun g0 hz0 sb0 => ?_)
  have hz0 : g0.get? z = some (zipO strict .ellipsis TI TO) := hz0
  have sb0 : Heap.SameBut z hp g0 := sb0
  have hTO0 : g0.get? TO = some (tupO old) := sb0.extBut _ _ Z.TOz hTO
  refine wpAny_bind (draw_loop (i := i) (TO := TO) qs Z.ai (fun q m => ⟨Z.iTO q m, Z.aTO q m⟩) ?_ qs 0 old _ (fun q m => m) Z.nd (fun q m => ⟨St_keep (hst q m).1 fun c o hc e => sb0.extBut _ _ ?_ e, (hst q m).2⟩) hTO0 (by omega) (by omega) fun h1 tk1 xs ex ht1 st1 kp1 sz1 => ?_)
  · intro q k s Q old hq st hlt ho hsz h
    refine wpAny_bind (wpAny_onRaise ?_)
    have fin : ∀ (x : Value) (h1 : Heap) (tk1 : Nat), q.xs[i]? = some x → q.St (i + 1) h1 → Heap.SameBut q.it s.heap h1 → wpAny (model prog w) A (do
        let __x ← seqItems? (Value.ref TO)
        match __x with
          | some kept => do
            updateSeq TO fun x_2 => x_2.setIfInBounds k x
            letGo [kept.getD k Value.none]
            pure (ForInStep.yield (none, ()))
          | y => do
            unsupported "internal:zip.__next__"
            pure (ForInStep.yield (none, ()))) Q E { s with heap := h1, toks := tk1 } := fun x h1 tk1 ex st1 sb1 => by
      have ho1 : h1.get? TO = some (tupO old) := sb1.extBut _ _ (Z.iTO q hq).symm ho
      refine wpAny_bind (wpAny_seqItems (s := { s with heap := h1, toks := tk1 }) ho1 rfl ?_)
      have z1 : old.size ≤ sizeLine := Nat.le_trans hsz (by decide)
      have z2 : (old.setIfInBounds k x).size ≤ sizeLine + 1 := by simp; omega
      refine wpAny_bind (wpAny_updateSeq (s := { s with heap := h1, toks := tk1 }) ho1 rfl ?_ z1 z2)
      have g2 : (h1.update TO (Obj.mapSeq (·.setIfInBounds k x))).get? TO = some (tupO (old.setIfInBounds k x)) := by
        rw [Heap.get?_update_self _ ho1 rfl]
        simp [Obj.mapSeq]
      have sb2 : Heap.SameBut TO h1 (h1.update TO (Obj.mapSeq (·.setIfInBounds k x))) := Heap.SameBut.update ..
      refine wpAny_bind (wpAny_letGo (wpAny_pure (h x _ tk1 ex g2 (St_keep st1 fun c o hc e => sb2.extBut _ _ ?_ e) (fun c o h1 h2 e => sb2.extBut _ _ h1 (sb1.extBut _ _ h2 e)) (sb2.1.trans sb1.1))))
      rcases hc with rfl | rfl
      · exact Z.iTO q hq
      · exact Z.aTO q hq
    cases strict with
    | true => exact drawS true q hh (Z.ai q hq q hq) st (fun x h1 tk1 ex st1 sb1 => fin x h1 tk1 ex st1 sb1) hlt
    | false => exact drawS false q hh (Z.ai q hq q hq) st (fun x h1 tk1 ex st1 sb1 => fin x h1 tk1 ex st1 sb1) hlt
  · rcases hc with rfl | rfl
    · exact Z.iz q m
    · exact Z.az q m
  · rw [List.take_zero, List.nil_append] at ht1
    have hsz : h1.objs.size = hp.objs.size := sz1.trans sb0.1
    refine wpAny_bind (wpAny_seqItems (s := ⟨h1, g, d, tk1, os⟩) ht1 rfl ?_)
    have hxl : xs.length = qs.length := by
      have := congrArg List.length ex
      simpa using this
    refine wpAny_bind (wpAny_newTuple ?_ (by simp; exact Nat.le_trans (by omega : xs.length ≤ 1000) (by decide)))
    have hz1 : h1.get? z = some (zipO strict .ellipsis TI TO) := kp1 z _ Z.TOz.symm (fun q m => (Z.iz q m).symm) hz0
    have hzl : z < h1.objs.size := Heap.lt_size hz1
    refine wpAny_bind ?_
    unfold Builtin.SmallTypes.ownedTupleHandOut
    have hz2 : (h1.push (tupO xs.toArray)).get? z = some (zipO strict .ellipsis TI TO) := Heap.get?_push_of_some _ hz1
    refine wpAny_bind (wpAny_setField_rec (s := ⟨h1.push (tupO xs.toArray), g, d, tk1, os⟩) hz2 (by simp) fun h3 hz3 sb3 => ?_)
    have hz3 : h3.get? z = some (zipO strict (rawInt h1.objs.size) TI TO) := hz3
    have sb3 : Heap.SameBut z (h1.push (tupO xs.toArray)) h3 := sb3
    refine wpAny_setField_rec (s := ⟨h3, g, d, tk1, os⟩) hz3 (by simp) fun h4 hz4 sb4 => ?_
    have hz4 : h4.get? z = some (zipO strict (rawInt h1.objs.size) TI TO) := hz4
    have sb4 : Heap.SameBut z h3 h4 := sb4
    have up : ∀ c o, c ≠ z → h1.get? c = some o → h4.get? c = some o := fun c o hc e => sb4.extBut _ _ hc (sb3.extBut _ _ hc (Heap.get?_push_of_some _ e))
    have hT4 : h4.get? h1.objs.size = some (tupO xs.toArray) := sb4.extBut _ _ (Nat.ne_of_gt hzl) (sb3.extBut _ _ (Nat.ne_of_gt hzl) (Heap.get?_push_size _ rfl))
    have sz4 : h4.objs.size = h1.objs.size + 1 := by rw [sb4.1, sb3.1, Heap.size_push]
    rw [hsz] at hz4 hT4 sz4
    refine wpAny_pure ⟨_, rfl, ?_⟩
    show Q (.ref h1.objs.size) ⟨h4, g, d, tk1, os⟩
    rw [hsz]
    refine hQ xs h4 tk1 ex hz4 (up _ _ Z.TOz ht1) (fun q m => St_keep (st1 q m) fun c o hc e => up c o ?_ e) hT4 sz4 fun c o h1 h2 h3 e => up c o h1 (kp1 c o h2 h3 (sb0.extBut _ _ h1 e))
    rcases hc with rfl | rfl
    · exact Z.iz q m
    · exact Z.az q m
end
end WF
namespace WF
open PySem PySem.Spec PyProof.Rows L2
section
variable {prog : Program} {w : World} {A : Around} {E : Value → Shared → Prop} {s : Shared} {i : Nat} {z TI TO : Addr} {qs : List Sr} {old : Array Value} {strict : Bool}
theorem stop_raise {α : Type} (hh : A.handled = none) {Q : α → Shared → Prop} (hE : ∀ h' e, (∀ c o, s.heap.get? c = some o → h'.get? c = some o) → (∃ o, h'.get? e = some o ∧ o.cls = .type "StopIteration") → E (.ref e) { s with heap := h' }) : wpAny (model prog w) A (Builtin.SmallTypes.stopIteration (α := α)) Q E s := by
  unfold Builtin.SmallTypes.stopIteration
  refine wpAny_bind ?_
  simp only [newExc, newTuple]
  refine wpAny_bind (wpAny_newObj_type ?_ (by size_fits))
  refine wpAny_bind (m := firstArgMember _ _) (wpAny_of_eq (a := Value.none) (by first | rfl | (simp only [firstArgMember]; rfl)) ?_)
  refine wpAny_newObj_type ?_ (by size_fits)
  simp only [raiseNew]
  refine wpAny_bind (wpAny_handled ?_)
  rw [hh]
  exact wpAny_bind (wpAny_pure (wpAny_throw (hE _ _ (fun c o e => Heap.get?_push_of_some _ (Heap.get?_push_of_some _ e)) ⟨_, Heap.get?_push_size _ rfl, rfl⟩)))
theorem end_loop {TO : Addr} {β : Type} {b : β} {f : Value × Nat → β → Sem (ForInStep β)} {R : β → Shared → Prop} {zo : Obj} (all : List Sr) (hai : ∀ q ∈ all, ∀ q' ∈ all, q.a ≠ q'.it) (hTO : ∀ q ∈ all, q.it ≠ TO ∧ q.a ≠ TO)
    (hf : ∀ (q : Sr) (k : Nat) (s : Shared) (Q : ForInStep β → Shared → Prop) (old : Array Value), q ∈ all → q.St i s.heap → i < q.xs.size → s.heap.get? TO = some (tupO old) → old.size ≤ 1000 →
      (∀ x h' tk, q.xs[i]? = some x → h'.get? TO = some (tupO (old.setIfInBounds k x)) → q.St (i + 1) h' → (∀ c o, c ≠ TO → c ≠ q.it → s.heap.get? c = some o → h'.get? c = some o) → h'.objs.size = s.heap.objs.size → Q (.yield b) { s with heap := h', toks := tk }) →
      wpAny (model prog w) A (f (.ref q.it, k) b) Q E s)
    (he : ∀ (q : Sr) (k : Nat) (s : Shared) (Q : ForInStep β → Shared → Prop), q ∈ all → q.St i s.heap → i = q.xs.size →
      (∀ h' e, (∀ c o, c ≠ z → c ≠ q.it → s.heap.get? c = some o → h'.get? c = some o) → (∃ o, h'.get? e = some o ∧ o.cls = .type "StopIteration") → E (.ref e) { s with heap := h' }) →
      s.heap.get? z = some zo → wpAny (model prog w) A (f (.ref q.it, k) b) Q E s) :
    ∀ (qs : List Sr) (k : Nat) (old : Array Value) (s : Shared), (∀ q ∈ qs, q ∈ all) → (qs.map Sr.it).Nodup → (∀ q ∈ qs, q.St i s.heap ∧ i ≤ q.xs.size) → (∃ q ∈ qs, i = q.xs.size) → s.heap.get? TO = some (tupO old) → old.size ≤ 1000 → s.heap.get? z = some zo → z ≠ TO → (∀ q ∈ all, q.it ≠ z) →
      (∀ h' tk e, (∀ c o, c ≠ z → c ≠ TO → (∀ q ∈ qs, c ≠ q.it) → s.heap.get? c = some o → h'.get? c = some o) → (∃ o, h'.get? e = some o ∧ o.cls = .type "StopIteration") → E (.ref e) { s with heap := h', toks := tk }) →
      wpAny (model prog w) A (forIn ((qs.map fun q => Value.ref q.it).zipIdx k) b f) R E s := by
  intro qs
  induction qs with
  | nil => intro k old s _ _ _ hex; obtain ⟨q, m, _⟩ := hex; cases m
  | cons q qs ih =>
    intro k old s hin hnd hst hex hto hsm hzo hzT hzi hR
    simp only [List.map_cons, List.zipIdx_cons, List.forIn_cons]
    obtain ⟨hq1, hq2⟩ := hst q List.mem_cons_self
    have hqa := hin q List.mem_cons_self
    simp only [List.map_cons, List.nodup_cons] at hnd
    have nit : ∀ q' ∈ qs, q'.it ≠ q.it := fun q' m e => hnd.1 (by rw [← e]; exact List.mem_map_of_mem m)
    by_cases hlt : i < q.xs.size
    · refine wpAny_bind (hf q k s _ old hqa hq1 hlt hto hsm fun x h1 tk1 ex ht1 st1 kp1 sz1 => ?_)
      refine ih (k + 1) (old.setIfInBounds k x) _ (fun q' m => hin q' (List.mem_cons_of_mem _ m)) hnd.2 (fun q' m => ⟨?_, (hst q' (List.mem_cons_of_mem _ m)).2⟩) ?_ ht1 (by simpa using hsm) ?_ hzT hzi fun h2 tk2 e kp2 he2 => ?_
      · have hq' := hin q' (List.mem_cons_of_mem _ m)
        refine St_keep (hst q' (List.mem_cons_of_mem _ m)).1 fun c o hc e => kp1 c o ?_ ?_ e
        · rcases hc with rfl | rfl
          · exact (hTO q' hq').1
          · exact (hTO q' hq').2
        · rcases hc with rfl | rfl
          · exact nit q' m
          · exact hai q' hq' q hqa
      · obtain ⟨q', m, e⟩ := hex
        rcases List.mem_cons.mp m with rfl | m
        · omega
        · exact ⟨q', m, e⟩
      · exact kp1 z zo hzT (hzi q hqa).symm hzo
      · exact hR h2 tk2 e (fun c o h0 h1 h2 e => kp2 c o h0 h1 (fun q' m => h2 q' (List.mem_cons_of_mem _ m)) (kp1 c o h1 (h2 q List.mem_cons_self) e)) he2
    · refine wpAny_bind (he q k s _ hqa hq1 (by omega) (fun h1 e kp1 hx => ?_) hzo)
      exact hR h1 s.toks e (fun c o h0 _ h2 x => kp1 c o h0 (h2 q List.mem_cons_self) x) hx
theorem ends_loop {β : Type} {b : β} {f : Value × Nat → β → Sem (ForInStep β)} {R : β → Shared → Prop} (hh : A.handled = none)
    (hf : ∀ (q : Sr) (k : Nat) (s : Shared) (Q : ForInStep β → Shared → Prop), q.a ≠ q.it → q.St q.xs.size s.heap → (∀ h', Heap.ExtBut q.it s.heap h' → Q (.yield b) { s with heap := h' }) → wpAny (model prog w) A (f (.ref q.it, k) b) Q E s) :
    ∀ (qs : List Sr) (k : Nat) (s : Shared), (qs.map Sr.it).Nodup → (∀ q ∈ qs, ∀ q' ∈ qs, q.a ≠ q'.it) → (∀ q ∈ qs, q.St q.xs.size s.heap) →
      (∀ h', (∀ c o, (∀ q ∈ qs, c ≠ q.it) → s.heap.get? c = some o → h'.get? c = some o) → R b { s with heap := h' }) →
      wpAny (model prog w) A (forIn ((qs.map fun q => Value.ref q.it).zipIdx k) b f) R E s := by
  intro qs
  induction qs with
  | nil =>
    intro k s _ _ _ hR
    simp only [List.map_nil, List.zipIdx_nil, List.forIn_nil]
    exact wpAny_pure (hR s.heap fun c o _ e => e)
  | cons q qs ih =>
    intro k s hnd hai hst hR
    simp only [List.map_cons, List.zipIdx_cons, List.forIn_cons]
    simp only [List.map_cons, List.nodup_cons] at hnd
    have nit : ∀ q' ∈ qs, q'.it ≠ q.it := fun q' m e => hnd.1 (by rw [← e]; exact List.mem_map_of_mem m)
    refine wpAny_bind (hf q k s _ (hai q List.mem_cons_self q List.mem_cons_self) (hst q List.mem_cons_self) fun h1 eb => ?_)
    refine ih (k + 1) _ hnd.2 (fun q1 m1 q2 m2 => hai q1 (List.mem_cons_of_mem _ m1) q2 (List.mem_cons_of_mem _ m2)) (fun q' m => St_keep (hst q' (List.mem_cons_of_mem _ m)) fun c o hc e => eb c o ?_ e) fun h2 kp => ?_
    · rcases hc with rfl | rfl
      · exact nit q' m
      · exact hai q' (List.mem_cons_of_mem _ m) q List.mem_cons_self
    · exact hR h2 fun c o hc e => kp c o (fun q' m => hc q' (List.mem_cons_of_mem _ m)) (eb c o (hc q List.mem_cons_self) e)
theorem zip_next_end {Q : Fin → Shared → Prop} (hh : A.handled = none) (Z : ZApart z TI TO qs) (hz : s.heap.get? z = some (zipO strict .none TI TO)) (hTI : s.heap.get? TI = some (tupO (qs.map fun q => Value.ref q.it).toArray)) (hTO : s.heap.get? TO = some (tupO old))
    (hn : old.size = qs.length) (hsm : qs.length ≤ 1000) (hne : qs ≠ []) (hst : ∀ q ∈ qs, q.St i s.heap ∧ i ≤ q.xs.size) (hex : if strict = true then ∀ q ∈ qs, i = q.xs.size else ∃ q ∈ qs, i = q.xs.size)
    (hE : ∀ h' tk e, (∀ c o, c ≠ z → c ≠ TO → (∀ q ∈ qs, c ≠ q.it) → s.heap.get? c = some o → h'.get? c = some o) → (∃ o, h'.get? e = some o ∧ o.cls = .type "StopIteration") → E (.ref e) { s with heap := h', toks := tk }) :
    wpAny (model prog w) A (Builtin.«zip.__next__» ⟨[.ref z], []⟩) Q E s := by
  obtain ⟨hp, g, d, tk0, os⟩ := s
  show wpAny _ _ (field (.ref z) 2 >>= _) _ _ _
  refine wpAny_bind (wpAny_field hz rfl (x := .bool strict) rfl ?_)
  show wpAny _ _ (field (.ref z) 3 >>= _) _ _ _
  refine wpAny_bind (wpAny_field hz rfl (x := .ref TI) rfl ?_)
  refine wpAny_bind (wpAny_seqItems hTI rfl ?_)
  have hem : (qs.map fun q => Value.ref q.it).toArray.isEmpty = false := by
    cases qs with
    | nil => exact (hne rfl).elim
    | cons _ _ => simp
  simp only [hem, Bool.false_eq_true, if_false]
  refine wpAny_bind ?_
  unfold Builtin.SmallTypes.ownedTupleIsFree
  refine wpAny_bind (wpAny_field hz rfl (x := .none) rfl (wpAny_pure ?_))
  simp only [if_true]
  refine wpAny_bind (wpAny_rule ?_)
  refine wpAny_bind (wpAny_field hz rfl (x := .ref TO) rfl ?_)
  refine wpAny_bind (wpAny_setField_rec hz (by simp) fun g0 hz0 sb0 => ?_)
  have hz0 : g0.get? z = some (zipO strict .ellipsis TI TO) := hz0
  have sb0 : Heap.SameBut z hp g0 := sb0
  have hTO0 : g0.get? TO = some (tupO old) := sb0.extBut _ _ Z.TOz hTO
  have st0 : ∀ q ∈ qs, q.St i g0 := fun q m => St_keep (hst q m).1 fun c o hc e => sb0.extBut _ _ (by
    rcases hc with rfl | rfl
    · exact Z.iz q m
    · exact Z.az q m) e
  cases strict with
  | true =>
    rw [if_pos rfl] at hex
    cases qs with
    | nil => exact (hne rfl).elim
    | cons q r =>
      simp only [List.map_cons, List.zipIdx_cons, List.forIn_cons]
      refine wpAny_bind (wpAny_bind (wpAny_bind (wpAny_onRaise ?_)))
      have hqi := hex q List.mem_cons_self
      have stq := st0 q List.mem_cons_self
      rw [hqi] at stq
      show wpAny _ _ (Builtin.SmallTypes.nextOrEnd (.ref q.it)) _ _ _
      refine drawEnd (s := ⟨g0, g, d, tk0, os⟩) q hh (Z.ai q List.mem_cons_self q List.mem_cons_self) stq fun h1 eb1 => ?_
      have eb1 : Heap.ExtBut q.it g0 h1 := eb1
      have hz1 : h1.get? z = some (zipO true .ellipsis TI TO) := eb1 _ _ (Z.iz q List.mem_cons_self).symm hz0
      refine wpAny_bind (wpAny_setField_rec (s := ⟨h1, g, d, tk0, os⟩) hz1 (by simp) fun h2 hz2 sb2 => ?_)
      have sb2 : Heap.SameBut z h1 h2 := sb2
      refine wpAny_bind ?_
      show wpAny _ _ (forIn ((r.map fun q => Value.ref q.it).zipIdx 1) () _ >>= _) _ _ _
      have hnd := Z.nd
      simp only [List.map_cons, List.nodup_cons] at hnd
      refine wpAny_bind (ends_loop hh (fun q' k s Q hne st hQ => by
        show wpAny _ _ (Builtin.SmallTypes.nextOrEnd (.ref q'.it) >>= _) _ _ _
        exact wpAny_bind (drawEnd q' hh hne st fun h' eb => wpAny_pure (hQ h' eb))) r 1 _ hnd.2 (fun q1 m1 q2 m2 => Z.ai q1 (List.mem_cons_of_mem _ m1) q2 (List.mem_cons_of_mem _ m2)) (fun q' m => ?_) fun h3 kp3 => ?_)
      · have e := hex q' (List.mem_cons_of_mem _ m)
        have x := st0 q' (List.mem_cons_of_mem _ m)
        rw [e] at x
        refine St_keep x fun c o hc e => sb2.extBut _ _ ?_ (eb1 _ _ ?_ e)
        · rcases hc with rfl | rfl
          · exact Z.iz _ (List.mem_cons_of_mem _ m)
          · exact Z.az _ (List.mem_cons_of_mem _ m)
        · rcases hc with rfl | rfl
          · exact fun z => hnd.1 (by rw [← z]; exact List.mem_map_of_mem m)
          · exact Z.ai _ (List.mem_cons_of_mem _ m) q List.mem_cons_self
      · refine wpAny_bind (wpAny_rule (stop_raise hh fun h4 e kp4 hx => ?_))
        exact hE h4 tk0 e (fun c o h1 _ h3 x => kp4 c o (kp3 c o (fun q' m => h3 q' (List.mem_cons_of_mem _ m)) (sb2.extBut _ _ h1 (eb1 _ _ (h3 q List.mem_cons_self) (sb0.extBut _ _ h1 x))))) hx
  | false =>
    rw [if_neg Bool.false_ne_true] at hex
    refine wpAny_bind (end_loop (zo := zipO false .ellipsis TI TO) qs Z.ai (fun q m => ⟨Z.iTO q m, Z.aTO q m⟩) ?_ ?_ qs 0 old _ (fun q m => m) Z.nd (fun q m => ⟨st0 q m, (hst q m).2⟩) hex hTO0 (by omega) hz0 Z.TOz.symm Z.iz fun h1 tk1 e kp hx => hE h1 tk1 e (fun c o h1 h2 h3 x => kp c o h1 h2 h3 (sb0.extBut _ _ h1 x)) hx)
    · intro q k s Q old hq st hlt ho hsz h
      refine wpAny_bind (wpAny_onRaise ?_)
      refine drawS false q hh (Z.ai q hq q hq) st (fun x h1 tk1 ex st1 sb1 => ?_) hlt
      have ho1 : h1.get? TO = some (tupO old) := sb1.extBut _ _ (Z.iTO q hq).symm ho
      refine wpAny_bind (wpAny_seqItems (s := { s with heap := h1, toks := tk1 }) ho1 rfl ?_)
      have z1 : old.size ≤ sizeLine := Nat.le_trans hsz (by decide)
      have z2 : (old.setIfInBounds k x).size ≤ sizeLine + 1 := by simp; omega
      refine wpAny_bind (wpAny_updateSeq (s := { s with heap := h1, toks := tk1 }) ho1 rfl ?_ z1 z2)
      have g2 : (h1.update TO (Obj.mapSeq (·.setIfInBounds k x))).get? TO = some (tupO (old.setIfInBounds k x)) := by
        rw [Heap.get?_update_self _ ho1 rfl]
        simp [Obj.mapSeq]
      have sb2 : Heap.SameBut TO h1 (h1.update TO (Obj.mapSeq (·.setIfInBounds k x))) := Heap.SameBut.update ..
      refine wpAny_bind (wpAny_letGo (wpAny_pure (h x _ tk1 ex g2 (St_keep st1 fun c o hc e => sb2.extBut _ _ ?_ e) (fun c o h1 h2 e => sb2.extBut _ _ h1 (sb1.extBut _ _ h2 e)) (sb2.1.trans sb1.1))))
      rcases hc with rfl | rfl
      · exact Z.iTO q hq
      · exact Z.aTO q hq
    · intro q k s Q hq st hi h hzs
      refine wpAny_bind (wpAny_onRaise ?_)
      rw [hi] at st
      show wpAny _ _ (Builtin.SmallTypes.nextOf (.ref q.it) >>= _) _ _ _
      refine wpAny_bind ((q.draws hh (Z.ai q hq q hq)).done s _ _ st fun h1 e eb hx => ?_)
      obtain ⟨oe, hoe, hce⟩ := hx
      have hz1 : h1.get? z = some (zipO false .ellipsis TI TO) := eb _ _ (Z.iz q hq).symm hzs
      refine wpAny_setField_rec (s := { s with heap := h1 }) hz1 (by simp) fun h2 _ sb2 => ?_
      have sb2 : Heap.SameBut z h1 h2 := sb2
      have hez : e ≠ z := fun q' => by
        have hoe : h1.get? e = some oe := hoe
        rw [q', hz1] at hoe
        cases hoe
        simp at hce
      exact h h2 e (fun c o h1 h2 x => sb2.extBut _ _ h1 (eb _ _ h2 x)) ⟨oe, sb2.extBut _ _ hez hoe, hce⟩
theorem pyNext_zipX {Q : Option Value → Shared → Prop} (hh : A.handled = none) (Z : ZApart z TI TO qs) (hz : s.heap.get? z = some (zipO strict .none TI TO)) (hTI : s.heap.get? TI = some (tupO (qs.map fun q => Value.ref q.it).toArray)) (hTO : s.heap.get? TO = some (tupO old))
    (hn : old.size = qs.length) (hsm : qs.length ≤ 1000) (hne : qs ≠ []) (hst : ∀ q ∈ qs, q.St i s.heap ∧ i < q.xs.size)
    (hQ : ∀ (xs : List Value) h' tk, xs.map some = qs.map (fun q => q.xs[i]?) → h'.get? z = some (zipO strict (rawInt s.heap.objs.size) TI TO) → h'.get? TO = some (tupO xs.toArray) → (∀ q ∈ qs, q.St (i + 1) h') → h'.get? s.heap.objs.size = some (tupO xs.toArray) → h'.objs.size = s.heap.objs.size + 1 →
      (∀ c o, c ≠ z → c ≠ TO → (∀ q ∈ qs, c ≠ q.it) → s.heap.get? c = some o → h'.get? c = some o) → Q (some (.ref s.heap.objs.size)) { s with heap := h', toks := tk }) :
    wpAny (model prog w) A (pyNext (.ref z)) Q E s := by
  have hT : s.TypeIs (.ref z) "zip" := ⟨_, hz, rfl⟩
  unfold pyNext
  exact wpAny_bind (wpAny_attempt (wpAny_callSpecial?_slot (name := Str.ofString "__next__") hT F.slot_zip_next
    (wpAny_call_entry F.slot_zip_next hT F.entry_zip_next (zip_next_item hh Z hz hTI hTO hn hsm hne hst fun xs h' tk a b c d e f k => wpAny_pure (hQ xs h' tk a b c d e f k)) (F.args_zip_next_1 _))))
theorem pyNext_zipEnd {Q : Option Value → Shared → Prop} (hh : A.handled = none) (Z : ZApart z TI TO qs) (hz : s.heap.get? z = some (zipO strict .none TI TO)) (hTI : s.heap.get? TI = some (tupO (qs.map fun q => Value.ref q.it).toArray)) (hTO : s.heap.get? TO = some (tupO old))
    (hn : old.size = qs.length) (hsm : qs.length ≤ 1000) (hne : qs ≠ []) (hst : ∀ q ∈ qs, q.St i s.heap ∧ i ≤ q.xs.size) (hex : if strict = true then ∀ q ∈ qs, i = q.xs.size else ∃ q ∈ qs, i = q.xs.size)
    (hQ : ∀ h' tk, (∀ c o, c ≠ z → c ≠ TO → (∀ q ∈ qs, c ≠ q.it) → s.heap.get? c = some o → h'.get? c = some o) → Q none { s with heap := h', toks := tk }) : wpAny (model prog w) A (pyNext (.ref z)) Q E s := by
  have hT : s.TypeIs (.ref z) "zip" := ⟨_, hz, rfl⟩
  unfold pyNext
  refine wpAny_bind (wpAny_attempt (wpAny_callSpecial?_slot (name := Str.ofString "__next__") hT F.slot_zip_next
    (wpAny_call_entry F.slot_zip_next hT F.entry_zip_next (zip_next_end hh Z hz hTI hTO hn hsm hne hst hex fun h' tk e hk he => ?_) (F.args_zip_next_1 _))))
  obtain ⟨o, ho, hc⟩ := he
  exact wpAny_bind (wpAny_isInstance (T := "StopIteration") (b := true) ⟨o, ho, hc⟩ isSubtype_stop (wpAny_pure (hQ _ _ hk)))
theorem pyIter_zipX {f0 : Value} {Q : Value → Shared → Prop} (hz : s.heap.get? z = some (zipO strict f0 TI TO)) (h : Q (.ref z) s) : wpAny (model prog w) A (pyIter (.ref z)) Q E s := by
  have hT : s.TypeIs (.ref z) "zip" := ⟨_, hz, rfl⟩
  refine wpAny_pyIter_slot hT F.slot_zip_iter (wpAny_call_entry F.slot_zip_iter hT F.entry_zip_iter ?_ (F.args_zip_iter_1 _))
  show wpAny _ _ (ret (.ref z)) _ _ s
  exact wpAny_pure ⟨_, rfl, "zip", _, hT, F.slot_zip_next.lookup, h⟩
theorem zip_go {elts : List Expr} {x1 : Nat} {pos : Pos} {T : Addr} {Q : Unit → Shared → Prop} (hz : s.heap.get? z = some (zipO strict (rawInt T) TI TO))
    (hQ : ∀ h', h'.get? z = some (zipO strict .none TI TO) → Heap.SameBut z s.heap h' → Q () { s with heap := h' }) : wpAny (model prog w) A (letOwnedTupleGo (.Tuple elts x1 pos) (.ref z) (.ref T)) Q E s := by
  unfold letOwnedTupleGo
  refine wpAny_bind (wpAny_load hz ?_)
  show wpAny _ _ (if (["enumerate", "zip", "dict_itemiterator", "dict_reverseitemiterator", "odict_iterator", "itertools.zip_longest", "itertools.pairwise"].contains "zip" &&
      (#[rawInt T, .bool false, .bool strict, .ref TI, .ref TO] : Array Value)[0]? == some (rawInt T)) = true then _ else _) Q E s
  rw [if_pos (by simp)]
  refine wpAny_bind (wpAny_rule ?_)
  exact wpAny_setField_rec hz (by simp) fun h' hz' sb => hQ h' hz' sb
end
end WF
namespace WF
open PySem PySem.Spec PyProof.Rows L2
section
variable {prog : Program} {w : World} {A : Around} {E : Value → Shared → Prop} {s : Shared}
abbrev iterO (k : Bool) (a : Addr) : Obj := { cls := .type (if k then "list_iterator" else "tuple_iterator"), data := .fields #[.ref a, .int 0 0] }
theorem pyIterK {k : Bool} {a : Addr} {xs : Array Value} {Q : Value → Shared → Prop} (h : seqAt k s.heap a xs) (hQ : Q (.ref s.heap.objs.size) { s with heap := s.heap.push (iterO k a) }) : wpAny (model prog w) A (pyIter (.ref a)) Q E s := by
  cases k with
  | true => exact wpAny_pyIter_list h hQ
  | false => exact wpAny_pyIter_tuple h hQ
theorem seqAt_push {k : Bool} {h : Heap} {a : Addr} {xs : Array Value} {o : Obj} (x : seqAt k h a xs) : seqAt k (h.push o) a xs := seqAt_keep x fun _ e => Heap.get?_push_of_some _ e
theorem iterO_at {k : Bool} {h : Heap} {a it : Addr} (e : h.get? it = some (iterO k a)) : itAt k h it a 0 := by
  cases k with
  | true => exact ⟨_, e, rfl, rfl⟩
  | false => exact ⟨_, e, rfl, rfl⟩
theorem callTypeKw {T newId : String} {Bn : Builtin} {args : List Value} {a0 : Value} {kw : List (Str × Value)} {S : PySem.Spec} {Q : Value → Shared → Prop} (ft : TypeCalled T newId "object.__init__") (hne : (some newId != some "object.__new__") = true)
    (hct : checkTypeCall T ⟨a0 :: args, kw⟩ = pure ()) (hcn : checkBuiltinCall newId ⟨.type T :: a0 :: args, kw⟩ = pure ()) (hok : ∀ obj, argsOk "object.__init__" ⟨obj :: a0 :: args, kw⟩) (entryN : entryFor table newId = some Bn) (g : Meets (Bn ⟨.type T :: a0 :: args, kw⟩) S)
    (h : S A.in1 (wants (fun obj s₁ => s₁.TypeIs obj T ∧ Q obj s₁) E) s) : wpAny (model prog w) A (call (.type T) (a0 :: args) kw) Q E s := by
  obtain ⟨c, tl, hmro⟩ := ft.mro
  have hmade := ft.made
  have hsub := ft.sub
  refine wpAny_call (codeAny_of_tree ?_)
  show wpAny _ _ (callAny (.type T) _) _ _ _
  refine wpAny_pure ⟨Code.quiet_builtin _ (by decide +kernel), codeAny_builtin F.entry_type_call ?_⟩
  rw [Around.under_plain (weight_type_call_type T (a0 :: args) kw) (units_type_call_type T (a0 :: args) kw)]
  have h1 := ft.notType
  have h2 := ft.canCreate
  repeat (any_goals (first | assumption | wp_step))
  refine codeAny_mono (codeAny_call_builtin ft.plain entryN (wpAny_of_eq hcn (g prog w A.in1 _ s h))) fun r s₁ hr => ?_
  cases r with
  | error e => exact hr
  | ok fl =>
    cases fl with
    | ret obj =>
      obtain ⟨hT, hq⟩ := hr
      have hli := ft.init.lookup
      have hbi := ft.init.bind obj
      repeat (any_goals (first | assumption | wp_step))
      have gi : Meets (Builtin.«object.__init__» ⟨obj :: a0 :: args, kw⟩) (fun _ R s => s.TypeIs obj T ∧ R (.ok (.ret .none)) s) := by
        refine Meets.of_wp fun prog w A R s hs => ?_
        obtain ⟨hT, hq⟩ := hs
        have hl := ft.init.lookup
        have hm := ft.made
        repeat (any_goals (first | assumption | wp_step))
        exact ⟨_, rfl, hq⟩
      refine codeAny_mono (codeAny_call_builtin ft.init.plain F.entry_object_init (ft.init.check _ _ _ _ _ _ _ _ hT (hok obj) (gi prog w A.in1 _ s₁ (⟨hT, ⟨rfl, hq⟩⟩ : s₁.TypeIs obj T ∧ wants (fun r s₂ => r = .none ∧ Q obj s₂) E (.ok (.ret .none)) s₁)))) fun r₂ s₂ hr₂ => ?_
      cases r₂ with
      | error e => exact hr₂
      | ok fl₂ =>
        cases fl₂ with
        | ret r =>
          obtain ⟨rfl, hq2⟩ := hr₂
          repeat (any_goals (first | assumption | wp_step))
        | _ => exact hr₂.elim
    | _ => exact hr.elim
def kwS (strict : Bool) (kf : Bool := false) : List (Str × Value) := if strict then [("strict", .bool true)] else if kf then [("strict", .bool false)] else []
abbrev Sq := Addr × Bool × Array Value
def mkIts : Nat → List Sq → List Sr
  | _, [] => []
  | n, x :: r => ⟨n, x.1, x.2.1, x.2.2⟩ :: mkIts (n + 1) r
theorem mkIts_len : ∀ (n : Nat) (l : List Sq), (mkIts n l).length = l.length
  | _, [] => rfl
  | n, x :: r => by simp [mkIts, mkIts_len (n + 1) r]
theorem mkIts_ge : ∀ {n : Nat} {l : List Sq} {q : Sr}, q ∈ mkIts n l → n ≤ q.it ∧ q.it < n + l.length ∧ (q.a, q.k, q.xs) ∈ l
  | n, x :: r, q, m => by
    rcases List.mem_cons.mp m with rfl | m
    · exact ⟨Nat.le_refl _, by simp, List.mem_cons_self⟩
    · obtain ⟨h1, h2, h3⟩ := mkIts_ge m
      exact ⟨Nat.le_of_succ_le h1, Nat.lt_of_lt_of_eq h2 (by simp; omega), List.mem_cons_of_mem _ h3⟩
theorem mkIts_nd : ∀ (n : Nat) (l : List Sq), ((mkIts n l).map Sr.it).Nodup
  | _, [] => List.nodup_nil
  | n, x :: r => by
    refine List.nodup_cons.mpr ⟨fun m => ?_, mkIts_nd (n + 1) r⟩
    obtain ⟨q, hq, e⟩ := List.mem_map.mp m
    have := (mkIts_ge hq).1
    have e : q.it = n := e
    rw [e] at this
    exact Nat.not_succ_le_self n this
theorem iter_loop {f : Value → Array Value → Sem (ForInStep (Array Value))} (hf : ∀ v acc, f v acc = (do let y ← holding acc.toList (pyIter v); pure (.yield (acc.push y)))) {R : Array Value → Shared → Prop} : ∀ (l : List Sq) (acc : Array Value) (s : Shared), (∀ x ∈ l, seqAt x.2.1 s.heap x.1 x.2.2) →
    (∀ h', (∀ c o, s.heap.get? c = some o → h'.get? c = some o) → (∀ q ∈ mkIts s.heap.objs.size l, h'.get? q.it = some (iterO q.k q.a)) → h'.objs.size = s.heap.objs.size + l.length → R (acc ++ ((mkIts s.heap.objs.size l).map fun q => Value.ref q.it).toArray) { s with heap := h' }) →
    wpAny (model prog w) A (forIn (l.map fun x => Value.ref x.1) acc f) R E s
  | [], acc, s, _, h => by
    simp only [List.map_nil, List.forIn_nil]
    have := h s.heap (fun _ _ e => e) (fun q m => nomatch m) (by simp)
    simp [mkIts] at this
    exact wpAny_pure this
  | x :: l, acc, s, hs, h => by
    simp only [List.map_cons, List.forIn_cons, hf]
    refine wpAny_bind (wpAny_bind (wpAny_holding (pyIterK (hs x List.mem_cons_self) (wpAny_pure ?_))))
    have hsz : (s.heap.push (iterO x.2.1 x.1)).objs.size = s.heap.objs.size + 1 := Heap.size_push ..
    refine iter_loop hf l _ { s with heap := s.heap.push (iterO x.2.1 x.1) } (fun y m => seqAt_push (hs y (List.mem_cons_of_mem _ m))) fun h' kp its sz => ?_
    have its : ∀ q ∈ mkIts (s.heap.push (iterO x.2.1 x.1)).objs.size l, h'.get? q.it = some (iterO q.k q.a) := its
    have sz : h'.objs.size = (s.heap.push (iterO x.2.1 x.1)).objs.size + l.length := sz
    have q := h h' (fun c o e => kp c o (Heap.get?_push_of_some _ e)) (fun q m => ?_) (by rw [sz, hsz]; simp; omega)
    · show R (acc.push (.ref s.heap.objs.size) ++ ((mkIts (s.heap.push (iterO x.2.1 x.1)).objs.size l).map fun q => Value.ref q.it).toArray) _
      rw [hsz]
      have e : acc ++ ((mkIts s.heap.objs.size (x :: l)).map fun q => Value.ref q.it).toArray = acc.push (.ref s.heap.objs.size) ++ ((mkIts (s.heap.objs.size + 1) l).map fun q => Value.ref q.it).toArray := by
        simp [mkIts]
      rw [← e]
      exact q
    · rcases List.mem_cons.mp m with rfl | m
      · exact kp _ _ (Heap.get?_push_size _ rfl)
      · exact its q (by rw [hsz]; exact m)
theorem newClass_zip {r : List Value} {kw : List (Str × Value)} {Q : Value × List Value → Shared → Prop} (h : Q (.type "zip", r) s) : wpAny (model prog w) A (Builtin.SmallTypes.newClass "zip" ⟨.type "zip" :: r, kw⟩) Q E s := by
  have hsub := sub_zip
  wp_walk
  exact h
def ZipMade (strict : Bool) (l : List Sq) (h h' : Heap) : Prop :=
  (∀ c o, h.get? c = some o → h'.get? c = some o) ∧ (∀ q ∈ mkIts h.objs.size l, h'.get? q.it = some (iterO q.k q.a)) ∧ h'.get? (h.objs.size + l.length) = some (tupO ((mkIts h.objs.size l).map fun q => Value.ref q.it).toArray) ∧
    h'.get? (h.objs.size + l.length + 1) = some (tupO (List.replicate l.length Value.none).toArray) ∧ h'.get? (h.objs.size + l.length + 2) = some (zipO strict .none (h.objs.size + l.length) (h.objs.size + l.length + 1)) ∧ h'.objs.size = h.objs.size + l.length + 3
theorem zip_new {l : List Sq} (strict : Bool) {kf : Bool} {Q : Fin → Shared → Prop} (hl : l.length ≤ 1000) (hs : ∀ x ∈ l, seqAt x.2.1 s.heap x.1 x.2.2) (h : ∀ h', ZipMade strict l s.heap h' → Q (.done (.ret (.ref (s.heap.objs.size + l.length + 2)))) { s with heap := h' }) :
    wpAny (model prog w) A (Builtin.«zip.__new__» ⟨.type "zip" :: (l.map fun x => Value.ref x.1), kwS strict kf⟩) Q E s := by
  obtain ⟨hp, g, d, tk, os⟩ := s
  have body : wpAny (model prog w) A (do
      let its ← Builtin.SmallTypes.iterAll (l.map fun x => Value.ref x.1)
      let t1 ← newTuple its
      let t2 ← newTuple (List.map (fun x => Value.none) its)
      let r ← Builtin.SmallTypes.newRecord (.type "zip") (Builtin.SmallTypes.ownedTupleFields ++ [Value.bool strict, t1, t2])
      ret r) Q E ⟨hp, g, d, tk, os⟩ := by
    refine wpAny_bind ?_
    unfold Builtin.SmallTypes.iterAll
    refine wpAny_bind (iter_loop (fun v acc => rfl) l #[] _ hs fun h1 kp its sz => wpAny_pure ?_)
    have its : ∀ q ∈ mkIts hp.objs.size l, h1.get? q.it = some (iterO q.k q.a) := its
    have sz : h1.objs.size = hp.objs.size + l.length := sz
    have e0 : (#[] ++ ((mkIts hp.objs.size l).map fun q => Value.ref q.it).toArray : Array Value).toList = (mkIts hp.objs.size l).map fun q => Value.ref q.it := by simp
    show wpAny _ _ (newTuple (#[] ++ ((mkIts hp.objs.size l).map fun q => Value.ref q.it).toArray : Array Value).toList >>= _) _ _ _
    rw [e0]
    have ln : ((mkIts hp.objs.size l).map fun q => Value.ref q.it).length = l.length := by rw [List.length_map, mkIts_len]
    have big : l.length ≤ sizeLine := Nat.le_trans hl (by decide)
    refine wpAny_bind (wpAny_newTuple ?_ (by rw [ln]; exact big))
    refine wpAny_bind (wpAny_newTuple ?_ (by rw [List.length_map, ln]; exact big))
    refine wpAny_bind ?_
    show wpAny _ _ (newObj (.type "zip") (.fields #[.none, .bool false, .bool strict, _, _])) _ _ _
    refine wpAny_newObj_type ?_ (by size_fits)
    refine wpAny_pure ?_
    have s1 : (h1.push (tupO ((mkIts hp.objs.size l).map fun q => Value.ref q.it).toArray)).objs.size = hp.objs.size + l.length + 1 := by rw [Heap.size_push, sz]
    have s2 : ((h1.push (tupO ((mkIts hp.objs.size l).map fun q => Value.ref q.it).toArray)).push (tupO (List.map (fun _ => Value.none) ((mkIts hp.objs.size l).map fun q => Value.ref q.it)).toArray)).objs.size = hp.objs.size + l.length + 2 := by rw [Heap.size_push, s1]
    have en : List.map (fun _ => Value.none) ((mkIts hp.objs.size l).map fun q => Value.ref q.it) = List.replicate l.length Value.none := by rw [List.map_const', ln]
    have m : ZipMade strict l hp (((h1.push (tupO ((mkIts hp.objs.size l).map fun q => Value.ref q.it).toArray)).push (tupO (List.map (fun _ => Value.none) ((mkIts hp.objs.size l).map fun q => Value.ref q.it)).toArray)).push (zipO strict .none h1.objs.size (h1.push (tupO ((mkIts hp.objs.size l).map fun q => Value.ref q.it).toArray)).objs.size)) := by
      refine ⟨fun c o e => Heap.get?_push_of_some _ (Heap.get?_push_of_some _ (Heap.get?_push_of_some _ (kp c o e))), fun q m => Heap.get?_push_of_some _ (Heap.get?_push_of_some _ (Heap.get?_push_of_some _ (its q m))), ?_, ?_, ?_, by rw [Heap.size_push, s2]⟩
      · rw [← sz]; exact Heap.get?_push_of_some _ (Heap.get?_push_of_some _ (Heap.get?_push_size _ rfl))
      · rw [← s1, ← en]; exact Heap.get?_push_of_some _ (Heap.get?_push_size _ rfl)
      · rw [← s2]
        have := Heap.get?_push_size ((h1.push (tupO ((mkIts hp.objs.size l).map fun q => Value.ref q.it).toArray)).push (tupO (List.map (fun _ => Value.none) ((mkIts hp.objs.size l).map fun q => Value.ref q.it)).toArray)) (o := zipO strict .none h1.objs.size (h1.push (tupO ((mkIts hp.objs.size l).map fun q => Value.ref q.it).toArray)).objs.size) rfl
        rw [this, sz, s1]
    have q := h _ m
    show Q (.done (.ret (.ref _))) _
    have q2 : Q (.done (.ret (.ref (hp.objs.size + l.length + 2)))) _ := q
    rw [← s2] at q2
    exact q2
  cases strict with
  | false =>
    cases kf with
    | false =>
      unfold Builtin.«zip.__new__»
      exact wpAny_bind (newClass_zip body)
    | true =>
      have hk : ((("strict" : Str)) != "strict") = false := by decide +kernel
      unfold Builtin.«zip.__new__»
      simp only [kwS, if_true, hk, List.length_cons, List.length_nil, Nat.zero_add, gt_iff_lt, Nat.lt_irrefl, if_false, Bool.false_eq_true]
      exact wpAny_bind (newClass_zip (wpAny_bind (wpAny_truthy_bool body)))
  | true =>
    have hk : ((("strict" : Str)) != "strict") = false := by decide +kernel
    unfold Builtin.«zip.__new__»
    simp only [kwS, if_true, hk, List.length_cons, List.length_nil, Nat.zero_add, gt_iff_lt, Nat.lt_irrefl, if_false, Bool.false_eq_true]
    exact wpAny_bind (newClass_zip (wpAny_bind (wpAny_truthy_bool body)))
end
end WF
namespace WF
open PySem PySem.Spec PyProof.Rows L2
def SqK (K : PySem.W.Frag) (H : Hp) (x : Addr × Bool) (vs : List V) : Prop := match x.2 with
  | true => SqL K H x.1 vs
  | false => SqT K H x.1 vs
inductive RdAll (K : PySem.W.Frag) (H : Hp) : List (Addr × Bool) → List (List V) → Prop where
  | nil : RdAll K H [] []
  | cons {x vs xs vss} : SqK K H x vs → RdAll K H xs vss → RdAll K H (x :: xs) (vs :: vss)
def Itz2 (K : PySem.W.Frag) (strict : Bool) (xs : List (Addr × Bool)) : It :=
  ⟨fun i H => ∃ vss, RdAll K H xs vss ∧ ∀ vs ∈ vss, i < vs.length,
   fun i H v H' => ∃ T us, v = .ref T ∧ H T = none ∧ H' = upd H T (.tup us) ∧ ∀ vss, RdAll K H xs vss → us.map some = vss.map (fun vs => vs[i]?),
   fun i H => ∃ vss, RdAll K H xs vss ∧ (∀ vs ∈ vss, i ≤ vs.length) ∧ (if strict = true then ∀ vs ∈ vss, i = vs.length else ∃ vs ∈ vss, i = vs.length)⟩
section
variable {X : Cx} {pins : List (Addr × Obj)} {σ : L2.St} {H : Hp} {s : Shared} {i : Nat}
theorem sqK_inj {x : Addr × Bool} {vs vs' : List V} (I : L2.Inv X pins σ H s) (h : SqK X.K H x vs) (h' : SqK X.K H x vs') : vs = vs' := by
  obtain ⟨a, k⟩ := x
  cases k with
  | true => exact I.list_inj h h'
  | false => exact I.tuple_inj h h'
theorem rdAll_inj (I : L2.Inv X pins σ H s) : ∀ {xs : List (Addr × Bool)} {v v' : List (List V)}, RdAll X.K H xs v → RdAll X.K H xs v' → v = v'
  | _, _, _, .nil, .nil => rfl
  | _, _, _, .cons a b, .cons a' b' => by rw [sqK_inj I a a', rdAll_inj I b b']
theorem sqK_at (I : L2.Inv X pins σ H s) {x : Addr × Bool} {vs : List V} (h : SqK X.K H x vs) : ∃ its : List Value, Vals vs its ∧ seqAt x.2 s.heap x.1 its.toArray := by
  obtain ⟨a, k⟩ := x
  cases k with
  | true => obtain ⟨its, r, p, _⟩ := I.list h; exact ⟨its, r, p.isList⟩
  | false => obtain ⟨its, r, p, _⟩ := I.tuple h; exact ⟨its, r, p⟩
theorem rdAll_at (I : L2.Inv X pins σ H s) : ∀ {xs : List (Addr × Bool)} {vss : List (List V)}, RdAll X.K H xs vss → ∃ itss : List (List Value), Paired Vals vss itss ∧ xs.length = itss.length ∧ ∀ (j : Nat) x its, xs[j]? = some x → itss[j]? = some its → seqAt x.2 s.heap x.1 its.toArray
  | _, _, .nil => ⟨[], .nil, rfl, fun j x its h => by simp at h⟩
  | _, _, .cons a b => by
    obtain ⟨its, r, h⟩ := sqK_at I a
    obtain ⟨itss, rs, hl, hs⟩ := rdAll_at I b
    refine ⟨its :: itss, .cons r rs, by simp [hl], fun j x its' h1 h2 => ?_⟩
    cases j with
    | zero => simp at h1 h2; subst h1 h2; exact h
    | succ j => exact hs j x its' (by simpa using h1) (by simpa using h2)
def mkSr : List Addr → List (Addr × Bool) → List (List Value) → List Sr
  | t :: ts, x :: xs, y :: ys => ⟨t, x.1, x.2, y.toArray⟩ :: mkSr ts xs ys
  | _, _, _ => []
theorem mkSr_its : ∀ {ts : List Addr} {xs : List (Addr × Bool)} {ys : List (List Value)}, ts.length = xs.length → xs.length = ys.length → (mkSr ts xs ys).map Sr.it = ts
  | [], [], [], _, _ => rfl
  | t :: ts, x :: xs, y :: ys, h1, h2 => by simp [mkSr, mkSr_its (ts := ts) (xs := xs) (ys := ys) (by simpa using h1) (by simpa using h2)]
  | [], _ :: _, _, h, _ => by simp at h
  | _ :: _, [], _, h, _ => by simp at h
  | _, [], _ :: _, _, h => by simp at h
  | _, _ :: _, [], _, h => by simp at h
theorem mkSr_mem : ∀ {ts : List Addr} {xs : List (Addr × Bool)} {ys : List (List Value)} {q : Sr}, q ∈ mkSr ts xs ys → ∃ j : Nat, ts[j]? = some q.it ∧ xs[j]? = some (q.a, q.k) ∧ ∃ y, ys[j]? = some y ∧ q.xs = y.toArray
  | t :: ts, x :: xs, y :: ys, q, m => by
    rcases List.mem_cons.mp m with rfl | m
    · exact ⟨0, rfl, rfl, y, rfl, rfl⟩
    · obtain ⟨j, h1, h2, y', h3, h4⟩ := mkSr_mem m
      exact ⟨j + 1, by simpa using h1, by simpa using h2, y', by simpa using h3, h4⟩
theorem mkSr_refs {ts : List Addr} {xs : List (Addr × Bool)} {ys : List (List Value)} (h1 : ts.length = xs.length) (h2 : xs.length = ys.length) : (mkSr ts xs ys).map (fun q => Value.ref q.it) = ts.map Value.ref := by
  have e := congrArg (List.map Value.ref) (mkSr_its h1 h2)
  rw [List.map_map] at e
  exact e
theorem mkSr_items : ∀ {ts : List Addr} {xs : List (Addr × Bool)} {ys : List (List Value)}, ts.length = xs.length → xs.length = ys.length → (mkSr ts xs ys).map (fun q => q.xs[i]?) = ys.map (fun y => y[i]?)
  | [], [], [], _, _ => rfl
  | t :: ts, x :: xs, y :: ys, h1, h2 => by simp [mkSr, mkSr_items (ts := ts) (xs := xs) (ys := ys) (by simpa using h1) (by simpa using h2)]
  | [], _ :: _, _, h, _ => by simp at h
  | _ :: _, [], _, h, _ => by simp at h
  | _, [], _ :: _, _, h => by simp at h
  | _, _ :: _, [], _, h => by simp at h
theorem vals_at : ∀ {vss : List (List V)} {itss : List (List Value)} {xs : List Value}, Paired Vals vss itss → xs.map some = itss.map (fun y => y[i]?) → ∃ us, Vals us xs ∧ us.map some = vss.map (fun y => y[i]?)
  | _, _, [], .nil, _ => ⟨[], .nil, rfl⟩
  | _, _, x :: xs, .cons r t, h => by
    simp only [List.map_cons, List.cons.injEq] at h
    obtain ⟨us, v, e⟩ := vals_at t h.2
    rename_i vs its vss itss
    have hlt : i < vs.length := by
      rw [r.length]
      by_cases q : i < its.length
      · exact q
      · rw [List.getElem?_eq_none (by omega)] at h; cases h.1
    obtain ⟨u, e1, r1⟩ := r.get (List.getElem?_eq_getElem hlt)
    have : u = x := by rw [e1] at h; exact (Option.some.inj h.1).symm
    subst this
    exact ⟨vs[i] :: us, .cons r1 v, by rw [List.map_cons, List.map_cons, e, List.getElem?_eq_getElem hlt]⟩
  | _, _, [], .cons _ _, h => by simp at h
  | _, _, _ :: _, .nil, h => by simp at h
theorem paired_len {vss : List (List V)} {itss : List (List Value)} (p : Paired Vals vss itss) : ∀ its ∈ itss, ∃ vs ∈ vss, vs.length = its.length := by
  induction p with
  | nil => intro its m; cases m
  | cons r _ ih =>
    intro its m
    rcases List.mem_cons.mp m with rfl | m
    · exact ⟨_, List.mem_cons_self, r.length⟩
    · obtain ⟨vs, h1, h2⟩ := ih its m
      exact ⟨vs, List.mem_cons_of_mem _ h1, h2⟩
theorem paired_len' {vss : List (List V)} {itss : List (List Value)} (p : Paired Vals vss itss) : ∀ vs ∈ vss, ∃ its ∈ itss, vs.length = its.length := by
  induction p with
  | nil => intro its m; cases m
  | cons r _ ih =>
    intro its m
    rcases List.mem_cons.mp m with rfl | m
    · exact ⟨_, List.mem_cons_self, r.length⟩
    · obtain ⟨vs, h1, h2⟩ := ih its m
      exact ⟨vs, List.mem_cons_of_mem _ h1, h2⟩
end
structure ZTurn (z TI TO : Addr) (ts : List Addr) (xs : List (Addr × Bool)) : Prop where
  TIz : TI ≠ z
  TOz : TO ≠ z
  TITO : TI ≠ TO
  tz : ∀ t ∈ ts, t ≠ z ∧ t ≠ TI ∧ t ≠ TO
  xz : ∀ x ∈ xs, x.1 ≠ z ∧ x.1 ≠ TO ∧ ∀ t ∈ ts, x.1 ≠ t
  nd : ts.Nodup
  len : ts.length = xs.length
  ne : xs ≠ []
  sm : xs.length ≤ 1000
theorem ZTurn.apart {z TI TO : Addr} {ts : List Addr} {xs : List (Addr × Bool)} (Z : ZTurn z TI TO ts xs) {ys : List (List Value)} (h : xs.length = ys.length) : ZApart z TI TO (mkSr ts xs ys) := by
  have tm : ∀ q ∈ mkSr ts xs ys, q.it ∈ ts := fun q m => by
    obtain ⟨j, h1, _⟩ := mkSr_mem m
    exact List.mem_of_getElem? h1
  have xm : ∀ q ∈ mkSr ts xs ys, (q.a, q.k) ∈ xs := fun q m => by
    obtain ⟨j, _, h1, _⟩ := mkSr_mem m
    exact List.mem_of_getElem? h1
  exact ⟨Z.TIz, Z.TOz, Z.TITO, fun q m => (Z.tz _ (tm q m)).1, fun q m => (Z.tz _ (tm q m)).2.1, fun q m => (Z.tz _ (tm q m)).2.2, fun q m => (Z.xz _ (xm q m)).1, fun q m => (Z.xz _ (xm q m)).2.1,
    fun q m q' m' => (Z.xz _ (xm q m)).2.2 _ (tm q' m'), by rw [mkSr_its Z.len h]; exact Z.nd⟩
def zState (strict : Bool) (z TI TO : Addr) (ts : List Addr) (xs : List (Addr × Bool)) (i : Nat) (h : Heap) : Prop :=
  h.get? z = some (zipO strict .none TI TO) ∧ h.get? TI = some (tupO (ts.map Value.ref).toArray) ∧ (∃ old, old.size = xs.length ∧ h.get? TO = some (tupO old)) ∧ ∀ (j : Nat) t x, ts[j]? = some t → xs[j]? = some x → itAt x.2 h t x.1 i
theorem turn_zipX {P : Program} {w : World} {K : PySem.W.Frag} {elts : List Expr} {kk : Nat} {tpos : Pos} {strict : Bool} {z TI TO : Addr} {ts : List Addr} {xs : List (Addr × Bool)} (Z : ZTurn z TI TO ts xs) :
    Turn P w K (.Tuple elts kk tpos) (Itz2 K strict xs) (z :: TI :: TO :: ts) z (zState strict z TI TO ts xs) where
  mem := List.mem_cons_self
  obj := fun i h st b hb => by
    obtain ⟨hz, hTI, ⟨old, _, hTO⟩, hit⟩ := st
    rcases List.mem_cons.mp hb with rfl | hb
    · exact ⟨_, hz, fun v q => nomatch q⟩
    rcases List.mem_cons.mp hb with rfl | hb
    · exact ⟨_, hTI, fun v q => nomatch q⟩
    rcases List.mem_cons.mp hb with rfl | hb
    · exact ⟨_, hTO, fun v q => nomatch q⟩
    obtain ⟨j, hj, e⟩ := List.mem_iff_getElem.mp hb
    have h1 : ts[j]? = some b := by rw [List.getElem?_eq_getElem hj, e]
    have h2 : xs[j]? = some (xs[j]'(by rw [← Z.len]; exact hj)) := List.getElem?_eq_getElem _
    exact itAt_get (hit j b _ h1 h2)
  keep := fun i h h' st k => by
    obtain ⟨hz, hTI, ⟨old, ho, hTO⟩, hit⟩ := st
    exact ⟨k z (by simp) _ hz, k TI (by simp) _ hTI, ⟨old, ho, k TO (by simp) _ hTO⟩, fun j t x h1 h2 => itAt_keep (hit j t x h1 h2) fun o => k t (by simp [List.mem_of_getElem? h1]) o⟩
  item := by
    intro X hP hw hK hc i pins s σ H E I hf st hg
    subst hP hw hK
    obtain ⟨hz, hTI, ⟨old, ho, hTO⟩, hit⟩ := st
    obtain ⟨vss, rd, hlt⟩ := hg
    obtain ⟨itss, pv, hl, hs⟩ := rdAll_at I rd
    have hh : X.A.handled = none := I.ok.hd hc
    have ln := Z.len
    have sl : (mkSr ts xs itss).length = xs.length := by
      have := congrArg List.length (mkSr_its ln hl)
      simpa [ln] using this
    have stt : ∀ q ∈ mkSr ts xs itss, q.St i s.heap ∧ i < q.xs.size := fun q m => by
      obtain ⟨j, h1, h2, y, h3, h4⟩ := mkSr_mem m
      refine ⟨⟨hit j _ _ h1 h2, by rw [h4]; exact hs j _ _ h2 h3⟩, ?_⟩
      obtain ⟨vs, m1, e1⟩ := paired_len pv y (List.mem_of_getElem? h3)
      rw [h4, List.size_toArray, ← e1]
      exact hlt vs m1
    have hne : mkSr ts xs itss ≠ [] := fun e => by
      rw [e] at sl
      have : xs.length = 0 := sl.symm
      exact Z.ne (List.length_eq_zero_iff.mp this)
    refine pyNext_zipX hh (Z.apart hl) hz (by rw [mkSr_refs ln hl]; exact hTI) hTO (by rw [sl]; exact ho) (by rw [sl]; exact Z.sm) hne stt fun ys h' tk ey hz' hTO' st' hT hsz kp => ?_
    refine ⟨_, rfl, zip_go (s := { s with heap := h', toks := tk }) hz' fun h2 hz2 sb => ?_⟩
    have sb : Heap.SameBut z h' h2 := sb
    rw [mkSr_items ln hl] at ey
    obtain ⟨us, vu, eu⟩ := vals_at pv ey
    have zl : z < s.heap.objs.size := Heap.lt_size hz
    have hT2 : h2.get? s.heap.objs.size = some (tupO ys.toArray) := sb.extBut _ _ (Nat.ne_of_gt zl) hT
    have ul : us.length ≤ sizeLine := by
      have e1 : us.length = xs.length := by
        have a := congrArg List.length ey
        simp at a
        rw [vu.length, a, hl]
      rw [e1]
      exact Nat.le_trans Z.sm (by decide)
    have new : ObjOk X.prog X.w (upd H s.heap.objs.size (.tup us)) h2 s.heap.objs.size (.tup us) := ⟨ul, ys, vu, ⟨_, hT2, rfl, _, rfl⟩⟩
    have tm : ∀ q ∈ mkSr ts xs itss, q.it ∈ ts := fun q m => by
      obtain ⟨j, h1, _⟩ := mkSr_mem m
      exact List.mem_of_getElem? h1
    have I1 : L2.Inv X pins σ (upd H s.heap.objs.size (.tup us)) { s with heap := h2, toks := tk } :=
      I.turnedNew (t' := tk) (ch := z :: TI :: TO :: ts) (fun c o hb q => sb.extBut _ _ (fun e => hb (by simp [e])) (kp c o (fun e => hb (by simp [e])) (fun e => hb (by simp [e])) (fun q' m e => hb (by simp [e, tm q' m])) q)) hf (Nat.le_refl _) new
    refine ⟨.ref s.heap.objs.size, _, I1, rfl, ⟨_, us, rfl, I.hok.fresh (Nat.le_refl _), rfl, fun vss' rd' => by rw [← rdAll_inj I rd rd']; exact eu⟩, ⟨hz2, ?_, ⟨ys.toArray, ?_, sb.extBut _ _ Z.TOz hTO'⟩, fun j t x h1 h2' => ?_⟩, fun c hcm => ?_⟩
    · refine sb.extBut _ _ Z.TIz (kp TI _ Z.TIz Z.TITO (fun q m e => ?_) hTI)
      exact (Z.tz _ (tm q m)).2.1 e.symm
    · have a := congrArg List.length ey
      simp at a
      simp [a, hl]
    · have hj : j < itss.length := by rw [← hl]; exact (List.getElem?_eq_some_iff.mp h2').1
      have hm : (⟨t, x.1, x.2, (itss[j]).toArray⟩ : Sr) ∈ mkSr ts xs itss := by
        have : ∀ {ts : List Addr} {xs : List (Addr × Bool)} {ys : List (List Value)} {j : Nat} {t : Addr} {x : Addr × Bool} {y : List Value}, ts[j]? = some t → xs[j]? = some x → ys[j]? = some y → (⟨t, x.1, x.2, y.toArray⟩ : Sr) ∈ mkSr ts xs ys := by
          intro ts
          induction ts with
          | nil => intro xs ys j t x y h; simp at h
          | cons t0 ts ih =>
            intro xs ys j t x y h1 h2 h3
            cases xs with
            | nil => simp at h2
            | cons x0 xs =>
              cases ys with
              | nil => simp at h3
              | cons y0 ys =>
                cases j with
                | zero => simp at h1 h2 h3; subst h1 h2 h3; exact List.mem_cons_self
                | succ j => exact List.mem_cons_of_mem _ (ih (by simpa using h1) (by simpa using h2) (by simpa using h3))
        exact this h1 h2' (List.getElem?_eq_getElem hj)
      exact itAt_keep (st' _ hm).1 fun o e => sb.extBut _ _ (Z.tz t (List.mem_of_getElem? h1)).1 e
    · have hlt' : c < s.heap.objs.size := by
        rcases List.mem_cons.mp hcm with rfl | hcm
        · exact zl
        rcases List.mem_cons.mp hcm with rfl | hcm
        · exact Heap.lt_size hTI
        rcases List.mem_cons.mp hcm with rfl | hcm
        · exact Heap.lt_size hTO
        obtain ⟨j, hj, e⟩ := List.mem_iff_getElem.mp hcm
        have h1 : ts[j]? = some c := by rw [List.getElem?_eq_getElem hj, e]
        obtain ⟨o, ho, _⟩ := itAt_get (hit j c _ h1 (List.getElem?_eq_getElem (by rw [← Z.len]; exact hj)))
        exact Heap.lt_size ho
      rw [upd_ne (Nat.ne_of_lt hlt')]
      exact (hf c hcm).1
  done := by
    intro X hP hw hK hc i pins s σ H E I hf st hg
    subst hP hw hK
    obtain ⟨hz, hTI, ⟨old, ho, hTO⟩, hit⟩ := st
    obtain ⟨vss, rd, hle, hend⟩ := hg
    obtain ⟨itss, pv, hl, hs⟩ := rdAll_at I rd
    have hh : X.A.handled = none := I.ok.hd hc
    have ln := Z.len
    have sl : (mkSr ts xs itss).length = xs.length := by
      have := congrArg List.length (mkSr_its ln hl)
      simpa [ln] using this
    have tm : ∀ q ∈ mkSr ts xs itss, q.it ∈ ts := fun q m => by
      obtain ⟨j, h1, _⟩ := mkSr_mem m
      exact List.mem_of_getElem? h1
    have stt : ∀ q ∈ mkSr ts xs itss, q.St i s.heap ∧ i ≤ q.xs.size := fun q m => by
      obtain ⟨j, h1, h2, y, h3, h4⟩ := mkSr_mem m
      refine ⟨⟨hit j _ _ h1 h2, by rw [h4]; exact hs j _ _ h2 h3⟩, ?_⟩
      obtain ⟨vs, m1, e1⟩ := paired_len pv y (List.mem_of_getElem? h3)
      rw [h4, List.size_toArray, ← e1]
      exact hle vs m1
    have hne : mkSr ts xs itss ≠ [] := fun e => by
      rw [e] at sl
      have : xs.length = 0 := sl.symm
      exact Z.ne (List.length_eq_zero_iff.mp this)
    have hex : if strict = true then ∀ q ∈ mkSr ts xs itss, i = q.xs.size else ∃ q ∈ mkSr ts xs itss, i = q.xs.size := by
      cases strict with
      | true =>
        rw [if_pos rfl] at hend ⊢
        intro q m
        obtain ⟨j, h1, h2, y, h3, h4⟩ := mkSr_mem m
        obtain ⟨vs, m1, e1⟩ := paired_len pv y (List.mem_of_getElem? h3)
        rw [h4, List.size_toArray, ← e1]
        exact hend vs m1
      | false =>
        rw [if_neg Bool.false_ne_true] at hend ⊢
        obtain ⟨vs, m1, e1⟩ := hend
        obtain ⟨its, m2, e2⟩ := paired_len' pv vs m1
        obtain ⟨j, hj, e3⟩ := List.mem_iff_getElem.mp m2
        have : ∀ {ts : List Addr} {xs : List (Addr × Bool)} {ys : List (List Value)} {j : Nat} {y : List Value}, ts.length = xs.length → xs.length = ys.length → ys[j]? = some y → ∃ q ∈ mkSr ts xs ys, q.xs = y.toArray := by
          intro ts
          induction ts with
          | nil =>
            intro xs ys j y h1 h2 h3
            have z : ys.length = 0 := h2.symm.trans h1.symm
            rw [List.length_eq_zero_iff.mp z] at h3
            simp at h3
          | cons t0 ts ih =>
            intro xs ys j y h1 h2 h3
            cases xs with
            | nil => simp at h1
            | cons x0 xs =>
              cases ys with
              | nil => simp at h3
              | cons y0 ys =>
                cases j with
                | zero => simp at h3; subst h3; exact ⟨_, List.mem_cons_self, rfl⟩
                | succ j =>
                  obtain ⟨q, m, e⟩ := ih (xs := xs) (ys := ys) (j := j) (y := y) (by simpa using h1) (by simpa using h2) (by simpa using h3)
                  exact ⟨q, List.mem_cons_of_mem _ m, e⟩
        obtain ⟨q, mq, eq⟩ := this (j := j) (y := its) ln hl (by rw [List.getElem?_eq_getElem hj, e3])
        exact ⟨q, mq, by rw [eq, List.size_toArray, ← e2]; exact e1⟩
    exact pyNext_zipEnd hh (Z.apart hl) hz (by rw [mkSr_refs ln hl]; exact hTI) hTO (by rw [sl]; exact ho) (by rw [sl]; exact Z.sm) hne stt hex fun h' tk kp =>
      ⟨rfl, I.turnedL (t' := tk) (ch := z :: TI :: TO :: ts) (fun c o hb q => kp c o (fun e => hb (by simp [e])) (fun e => hb (by simp [e])) (fun q' m e => hb (by simp [e, tm q' m])) q) hf⟩
  self := fun A i s Q E st h => pyIter_zipX st.1 h
end WF
namespace WF
open PySem PySem.Spec PyProof.Rows L2
section
variable {M : Model} {A : Around} {E : Value → Shared → Prop} {s : Shared} {env : Env}
theorem callTyKw {pos : Pos} {T : String} {e : Expr} {rest : List Expr} {kws : List Keyword} {Q : Value → Shared → Prop}
    (h : wpAny M A (spliced (backTo pos (starEach (e :: rest) env))) (fun vs s1 => wpAny M A (evalAll ((backToKw pos (keywordEach kws env)).map (·.2))) (fun ws s2 => wpAny M A (call (.type T) vs (((backToKw pos (keywordEach kws env)).filterMap (·.1)).zip ws)) Q E s2) E s1) E s)
    (he : starEach (e :: rest) env = (false, eval e env) :: starEach rest env) (hpl : (backTo pos (starEach rest env)).any (·.1) = false)
    (hall : (backToKw pos (keywordEach kws env)).all (·.1.isSome) = true) (hkw : (backToKw pos (keywordEach kws env)).any (·.1.isNone) = false) :
    wpAny M A (callWith pos (.type T) [] (backTo pos (starEach (e :: rest) env)) (backToKw pos (keywordEach kws env))) Q E s := by
  have hp : (backTo pos (starEach (e :: rest) env)).any (·.1) = false := by
    rw [he]
    show (false || (backTo pos (starEach rest env)).any (·.1)) = false
    rw [hpl]; rfl
  have h2 : wpAny M A (evalArgs (.type T) true (backTo pos (starEach (e :: rest) env)) (backToKw pos (keywordEach kws env))) (fun a s1 => wpAny M A (call (.type T) ([] ++ a.pos) a.kw) Q E s1) E s := by
    rw [he] at h ⊢
    exact evalArgs_kwB hall h
  unfold callWith
  refine wpAny_bind (wpAny_holding (wpAny_mono h2 (fun a s1 h3 => wpAny_bind (wpAny_standAt ?_)) fun _ _ x => x))
  simp only [hp, hkw, Bool.or_false]
  exact wpAny_bind (wpAny_pure (wpAny_bind (wpAny_mono h3 (fun r s2 hr => wpAny_bind (wpAny_holding (wpAny_point (wpAny_pure hr)))) fun _ _ x => x)))
end
structure ZipArgs (strict : Bool) (us : List Value) (kf : Bool := false) : Prop where
  ct : checkTypeCall "zip" ⟨us, kwS strict kf⟩ = pure ()
  cn : checkBuiltinCall "zip.__new__" ⟨.type "zip" :: us, kwS strict kf⟩ = pure ()
  ok : ∀ obj, argsOk "object.__init__" ⟨obj :: us, kwS strict kf⟩
theorem zipArgs2 (strict : Bool) (a b : Value) : ZipArgs strict [a, b] := by
  cases strict with
  | false => exact ⟨by kernel_rfl, by kernel_rfl, fun obj => by unfold argsOk; kernel_rfl⟩
  | true => exact ⟨by kernel_rfl, by kernel_rfl, fun obj => by unfold argsOk; kernel_rfl⟩
section
variable {prog : Program} {w : World} {A : Around} {E : Value → Shared → Prop} {s : Shared}
theorem call_zipX {l : List Sq} (strict : Bool) {kf : Bool} {Q : Value → Shared → Prop} (hl : l.length ≤ 1000) (hne : l ≠ []) (za : ZipArgs strict (l.map fun x => Value.ref x.1) kf) (hs : ∀ x ∈ l, seqAt x.2.1 s.heap x.1 x.2.2)
    (h : ∀ h', ZipMade strict l s.heap h' → Q (.ref (s.heap.objs.size + l.length + 2)) { s with heap := h' }) : wpAny (model prog w) A (call (.type "zip") (l.map fun x => Value.ref x.1) (kwS strict kf)) Q E s := by
  obtain ⟨x0, r, rfl⟩ : ∃ x0 r, l = x0 :: r := by
    cases l with
    | nil => exact (hne rfl).elim
    | cons x0 r => exact ⟨x0, r, rfl⟩
  have g : Meets (Builtin.«zip.__new__» ⟨.type "zip" :: Value.ref x0.1 :: (r.map fun x => Value.ref x.1), kwS strict kf⟩) (fun _ R s => (∀ x ∈ x0 :: r, seqAt x.2.1 s.heap x.1 x.2.2) ∧ ∀ h', ZipMade strict (x0 :: r) s.heap h' → R (.ok (.ret (.ref (s.heap.objs.size + (x0 :: r).length + 2)))) { s with heap := h' }) :=
    Meets.of_wp fun prog w A R s h => zip_new (l := x0 :: r) strict hl h.1 fun h' m => ⟨_, rfl, h.2 h' m⟩
  have k : (∀ x ∈ x0 :: r, seqAt x.2.1 s.heap x.1 x.2.2) ∧ ∀ h', ZipMade strict (x0 :: r) s.heap h' → wants (fun obj s1 => s1.TypeIs obj "zip" ∧ Q obj s1) E (.ok (.ret (.ref (s.heap.objs.size + (x0 :: r).length + 2)))) { s with heap := h' } :=
    ⟨hs, fun h' m => ⟨⟨_, m.2.2.2.2.1, rfl⟩, h h' m⟩⟩
  have hd : (some "zip.__new__" != some "object.__new__") = true := by decide
  have c1 := za.ct
  have c2 := za.cn
  have c3 := za.ok
  simp only [List.map_cons] at c1 c2 c3 ⊢
  refine callTypeKw F.called_zip hd c1 c2 c3 F.entry_zip_new g ?_
  exact k
end
def iZipX (K : PySem.W.Frag) (strict : Bool) (ta : TA) : TI := fun σ H R => ta σ H fun vs H1 => ∃ (xs : List (Addr × Bool)) (vss : List (List V)), vs = xs.map (fun x => V.ref x.1) ∧ RdAll K H1 xs vss ∧ R (Itz2 K strict xs) H1
section
variable {X : Cx} {pins : List (Addr × Obj)} {σ : L2.St} {H : Hp} {s : Shared}
theorem vals_refs : ∀ {xs : List (Addr × Bool)} {us : List Value}, Vals (xs.map fun x => V.ref x.1) us → us = xs.map fun x => Value.ref x.1
  | [], _, .nil => rfl
  | x :: xs, _, .cons r t => by
    have e := vals_refs (xs := xs) t
    rw [e, show _ = Value.ref x.1 from r]
    rfl
theorem mkSq (I : L2.Inv X pins σ H s) : ∀ {xs : List (Addr × Bool)} {vss : List (List V)}, RdAll X.K H xs vss → ∃ l : List Sq, l.map (fun x => (x.1, x.2.1)) = xs ∧ ∀ x ∈ l, seqAt x.2.1 s.heap x.1 x.2.2
  | _, _, .nil => ⟨[], rfl, fun x m => nomatch m⟩
  | _, _, .cons a b => by
    obtain ⟨its, r, h⟩ := sqK_at I a
    obtain ⟨l, e, hs⟩ := mkSq I b
    rename_i x vs xs vss
    refine ⟨(x.1, x.2, its.toArray) :: l, by rw [List.map_cons, e], fun y m => ?_⟩
    rcases List.mem_cons.mp m with rfl | m
    · exact h
    · exact hs y m
theorem seqAt_lt {k : Bool} {h : Heap} {a : Addr} {xs : Array Value} (x : seqAt k h a xs) : a < h.objs.size := by
  cases k with
  | true => obtain ⟨o, e, _⟩ := x; exact Heap.lt_size e
  | false => obtain ⟨o, e, _⟩ := x; exact Heap.lt_size e
theorem zip_pie {elts : List Expr} {kk : Nat} {tpos : Pos} {R : It → Hp → Prop} (strict : Bool) {kf : Bool} (I : L2.Inv X pins σ H s) {xs : List (Addr × Bool)} {vss : List (List V)} (rd : RdAll X.K H xs vss) (hne : xs ≠ []) (hsm : xs.length ≤ 1000) (za : ZipArgs strict (xs.map fun x => Value.ref x.1) kf) (q : R (Itz2 X.K strict xs) H) :
    wpAny (model X.prog X.w) X.A (call (.type "zip") (xs.map fun x => Value.ref x.1) (kwS strict kf)) (fun v s1 => wpAny (model X.prog X.w) X.A (pyIter v) (PIE X pins σ (.Tuple elts kk tpos) R) X.xe s1) X.xe s := by
  obtain ⟨l, el, hs⟩ := mkSq I rd
  have ll : l.length = xs.length := by rw [← el, List.length_map]
  have er : (xs.map fun x => Value.ref x.1) = l.map fun x => Value.ref x.1 := by rw [← el, List.map_map]; rfl
  rw [er] at za ⊢
  refine call_zipX strict (by omega) (fun e => hne (by rw [← el, e]; rfl)) za hs fun h' m => ?_
  obtain ⟨kp, its, hTI, hTO, hz, sz⟩ := m
  refine pyIter_zipX (s := { s with heap := h' }) hz ?_
  have I2 : L2.Inv X pins σ H { s with heap := h' } := I.kept (t' := s.toks) kp
  let n := s.heap.objs.size
  let ts := (mkIts n l).map Sr.it
  have tl : ts.length = xs.length := by rw [List.length_map, mkIts_len, ll]
  have tge : ∀ t : Nat, t ∈ ts → n ≤ t ∧ t < n + l.length := fun t m => by
    obtain ⟨q, hq, rfl⟩ := List.mem_map.mp m
    exact ⟨(mkIts_ge hq).1, (mkIts_ge hq).2.1⟩
  have ne : ∀ a b : Nat, a < b → (a : Addr) ≠ b := fun a b h => Nat.ne_of_lt h
  have xlt : ∀ x ∈ xs, Nat.lt x.1 n := fun x m => by
    rw [← el] at m
    obtain ⟨y, hy, rfl⟩ := List.mem_map.mp m
    exact seqAt_lt (hs y hy)
  have Z : ZTurn (n + l.length + 2) (n + l.length) (n + l.length + 1) ts xs := by
    refine ⟨ne _ _ (by omega), (ne _ _ (by omega)), ne _ _ (by omega), fun t m => ?_, fun x m => ?_, mkIts_nd _ _, tl, hne, hsm⟩
    · have := tge t m
      exact ⟨ne t _ (by omega), ne t _ (by omega), ne t _ (by omega)⟩
    · have := xlt x m
      have h2 : ∀ k : Nat, Nat.lt x.1 (n + k) := fun k => Nat.lt_of_lt_of_le this (Nat.le_add_right n k)
      exact ⟨Nat.ne_of_lt (h2 (l.length + 2)), Nat.ne_of_lt (h2 (l.length + 1)), fun t m' => Nat.ne_of_lt (Nat.lt_of_lt_of_le this (tge t m').1)⟩
  have fr : ∀ c ∈ (n + l.length + 2) :: (n + l.length) :: (n + l.length + 1) :: ts, FpOk X pins H c := fun c hc => by
    have hle : n ≤ c := by
      rcases List.mem_cons.mp hc with rfl | hc
      · omega
      rcases List.mem_cons.mp hc with rfl | hc
      · omega
      rcases List.mem_cons.mp hc with rfl | hc
      · omega
      exact (tge c hc).1
    exact I.fpOk hle (I.hok.fresh hle)
  refine ⟨n + l.length + 2, (n + l.length + 2) :: (n + l.length) :: (n + l.length + 1) :: ts, _, _, H, rfl, I2, turn_zipX Z, ⟨hz, ?_, ⟨_, ?_, hTO⟩, fun j t x h1 h2 => ?_⟩, fr, q⟩
  · have e : (mkIts n l).map (fun q => Value.ref q.it) = ts.map Value.ref := by rw [List.map_map]; rfl
    rw [← e]
    exact hTI
  · simp [ll]
  · have hj : (mkIts n l)[j]? = some ((mkIts n l)[j]'(by
        have := (List.getElem?_eq_some_iff.mp h1).1
        simpa [ts] using this)) := List.getElem?_eq_getElem _
    have ht : ((mkIts n l)[j]'(by
        have := (List.getElem?_eq_some_iff.mp h1).1
        simpa [ts] using this)).it = t := by
      have h1 : ((mkIts n l).map Sr.it)[j]? = some t := h1
      rw [List.getElem?_map, hj] at h1
      exact Option.some.inj h1
    have e := its _ (List.mem_of_getElem? hj)
    rw [ht] at e
    have hx : ∀ {n : Nat} {l : List Sq} {j : Nat} {q : Sr} {x : Addr × Bool}, (mkIts n l)[j]? = some q → (l.map (fun x => (x.1, x.2.1)))[j]? = some x → (q.a, q.k) = x := by
      intro n l
      induction l generalizing n with
      | nil => intro j q x h; simp [mkIts] at h
      | cons y l ih =>
        intro j q x h1 h2
        cases j with
        | zero => simp [mkIts] at h1 h2; rw [← h1, ← h2]
        | succ j => exact ih (n := n + 1) (by simpa [mkIts] using h1) (by simpa using h2)
    rw [← el] at h2
    have e2 := hx hj h2
    rw [← e2]
    exact iterO_at e
variable {e : Expr} {es : List Expr} {p pos tpos kpos cpos : Pos} {elts : List Expr} {kk j : Nat} {ta : TA}
theorem pi_zipX (hn : ∀ us : List Value, us.length = (e :: es).length → ZipArgs false us) (hsm : (e :: es).length ≤ 1000) (hlen : ∀ σ H Q, ta σ H Q → ta σ H fun vs H1 => vs.length = (e :: es).length ∧ Q vs H1) (hg : Gl X "zip") (hm : X.mg "zip" = none) (ha : PA X (e :: es) ta)
    (hs : starEach (e :: es) X.env = (false, eval e X.env) :: starEach es X.env := by rfl) (hpl : (backTo pos (starEach es X.env)).any (·.1) = false := by rfl) : PI X (.Tuple elts kk tpos) (.Call (.Name "zip" p) (e :: es) [] pos) (iZipX X.K false ta) := ⟨fun pins s σ H R I h => by
  refine Call_ (ld_blt I hg hm PyProof.Rows.boot_zip (PyProof.Rows.callWith_type1 (thn (ha.run pos pins s σ H _ I (hlen _ _ _ h)) fun us s1 ⟨vs, H1, I1, r1, q0, q1⟩ => ?_) hs hpl))
  obtain ⟨xs, vss, ex, rd, q1⟩ := q1
  subst ex
  have hu := vals_refs r1
  have hl : us.length = (e :: es).length := by rw [← r1.length]; exact q0
  subst hu
  have hl2 : xs.length = (e :: es).length := by simpa using hl
  have za := hn _ hl
  exact zip_pie false I1 rd (fun z => by rw [z] at hl2; simp at hl2) (by omega) za q1⟩
theorem pi_zipS (hn : ∀ us : List Value, us.length = (e :: es).length → ZipArgs true us) (hsm : (e :: es).length ≤ 1000) (hlen : ∀ σ H Q, ta σ H Q → ta σ H fun vs H1 => vs.length = (e :: es).length ∧ Q vs H1) (hg : Gl X "zip") (hm : X.mg "zip" = none) (ha : PA X (e :: es) ta)
    (hs : starEach (e :: es) X.env = (false, eval e X.env) :: starEach es X.env := by rfl) (hpl : (backTo pos (starEach es X.env)).any (·.1) = false := by rfl) : PI X (.Tuple elts kk tpos) (.Call (.Name "zip" p) (e :: es) [⟨some "strict", .Constant (.bool true) j cpos, kpos⟩] pos) (iZipX X.K true ta) := ⟨fun pins s σ H R I h => by
  refine wpAny_Call_Name_kw (ld_blt I hg hm PyProof.Rows.boot_zip (callTyKw (thn (ha.run pos pins s σ H _ I (hlen _ _ _ h)) fun us s1 ⟨vs, H1, I1, r1, q0, q1⟩ => ?_) hs hpl rfl rfl))
  have hk : PK X [⟨some "strict", .Constant (.bool true) j cpos, kpos⟩] (tCons (tC (.bl true)) tNil) := pk_cons pe_bl pk_nil
  refine thn (hk.run pos pins s1 σ H1 (fun ws H2 => ws = [V.bl true] ∧ H2 = H1) I1 ⟨rfl, rfl⟩) fun ws s2 ⟨ks, H2, I2, r2, e1, e2⟩ => ?_
  subst e1 e2
  obtain ⟨w1, ew, rw1⟩ := vals1 r2
  subst ew
  cases (show w1 = Value.bool true from rw1)
  obtain ⟨xs, vss, ex, rd, q1⟩ := q1
  subst ex
  have hu := vals_refs r1
  have hl : us.length = (e :: es).length := by rw [← r1.length]; exact q0
  subst hu
  have hl2 : xs.length = (e :: es).length := by simpa using hl
  have za := hn _ hl
  exact zip_pie true I2 rd (fun z => by rw [z] at hl2; simp at hl2) (by omega) za q1⟩
end
end WF
namespace WF
open PySem PySem.Spec PyProof.Rows L2
section
variable {prog : Program} {w : World} {A : Around} {E : Value → Shared → Prop} {s : Shared}
theorem meets_enumK (k : Bool) (a : Addr) (xs : Array Value) :
    Meets (Builtin.«enumerate.__new__» ⟨[.type "enumerate", .ref a], []⟩) (fun _ R s => seqAt k s.heap a xs ∧ R (.ok (.ret (.ref (s.heap.push (iterO k a)).objs.size)))
      { s with heap := (s.heap.push (iterO k a)).push { cls := .type "enumerate", data := .fields #[.none, .bool false, .ref s.heap.objs.size, rawInt 0, .none, .none] } }) :=
  .of_wp fun prog w A R s h => by
    obtain ⟨hp, g, d, tk, os⟩ := s
    obtain ⟨hl, h⟩ := h
    have hsub := sub_enumerate
    have hL : seqAt k (Shared.heap ⟨hp, g, d, tk, os⟩) a xs := hl
    wp_walk
    refine wpAny_stack_any fun st => wpAny_pure ?_
    split
    · rename_i c _ _ _ _ _
      cases (c == Value.type "enumerate")
      · wp_walk using pyIterK hL
        exact ⟨_, rfl, h⟩
      · wp_walk using pyIterK hL
        exact ⟨_, rfl, h⟩
    · wp_walk using pyIterK hL
      exact ⟨_, rfl, h⟩
theorem call_enumK {k : Bool} {a : Addr} {xs : Array Value} {Q : Value → Shared → Prop} (hL : seqAt k s.heap a xs)
    (h : ∀ h', IsEnum h' (s.heap.objs.size + 1) s.heap.objs.size 0 .none → itAt k h' s.heap.objs.size a 0 → (∀ b o, s.heap.get? b = some o → h'.get? b = some o) → Q (.ref (s.heap.objs.size + 1)) { s with heap := h' }) :
    wpAny (model prog w) A (call (.type "enumerate") [.ref a]) Q E s := by
  have hz : (s.heap.push (iterO k a)).objs.size = s.heap.objs.size + 1 := Heap.size_push ..
  refine callType_new F.called_enumerate (by decide) (F.typeCall_enumerate_1 _) (F.newCall_enumerate_1 _) (fun obj => F.args_object_init_2 obj _) F.entry_enumerate_new (meets_enumK k a xs) ⟨hL, ?_⟩
  show _ ∧ _
  rw [hz]
  have he : IsEnum ((s.heap.push (iterO k a)).push { cls := .type "enumerate", data := .fields #[.none, .bool false, .ref s.heap.objs.size, rawInt 0, .none, .none] }) (s.heap.objs.size + 1) s.heap.objs.size 0 .none := by
    rw [← hz]
    exact Heap.get?_push_size _ rfl
  exact ⟨⟨_, he, rfl⟩, h _ he (iterO_at (Heap.get?_push_of_some _ (Heap.get?_push_size _ rfl))) fun b o x => Heap.get?_push_of_some _ (Heap.get?_push_of_some _ x)⟩
end
def Ite2 (K : PySem.W.Frag) (x : Addr × Bool) : It :=
  ⟨fun i H => ∃ (xs : List V) (u : V), SqK K H x xs ∧ xs[i]? = some u, fun i H v H' => ∃ T u, v = .ref T ∧ H T = none ∧ H' = upd H T (.tup [.int (i : Nat), u]) ∧ ∀ xs, SqK K H x xs → xs[i]? = some u, fun i H => ∃ xs : List V, SqK K H x xs ∧ xs.length = i⟩
theorem turn_enumX {P : Program} {w : World} {K : PySem.W.Frag} {elts : List Expr} {kk : Nat} {tpos : Pos} {x : Addr × Bool} {e it : Addr} (hei : e ≠ it) (hea : e ≠ x.1) (hia : x.1 ≠ it) :
    Turn P w K (.Tuple elts kk tpos) (Ite2 K x) [e, it] e (fun i h => (∃ old, IsEnum h e it ((i : Nat) : Int) old) ∧ itAt x.2 h it x.1 i) where
  mem := List.mem_cons_self
  obj := fun i h st b hb => by
    obtain ⟨⟨old, he⟩, hi⟩ := st
    have e' : b = e ∨ b = it := by simpa using hb
    rcases e' with rfl | rfl
    · exact ⟨_, he, fun v q => nomatch q⟩
    · exact itAt_get hi
  keep := fun i h h' st k => let ⟨⟨old, he⟩, hi⟩ := st; ⟨⟨old, k e (by simp) _ he⟩, itAt_keep hi fun o q => k it (by simp) o q⟩
  item := by
    intro X hP hw hK hc i pins s σ H E I hf st hg
    subst hP hw hK
    obtain ⟨⟨old, he⟩, hit⟩ := st
    obtain ⟨xs, u, hq, hx⟩ := hg
    obtain ⟨its, rv, hseq⟩ := sqK_at I hq
    obtain ⟨y, hy, ry⟩ := rv.get hx
    have hh : X.A.handled = none := I.ok.hd hc
    have hlt : i < its.length := (List.getElem?_eq_some_iff.mp hy).1
    have hel : e < s.heap.objs.size := Heap.lt_size he
    obtain ⟨oi, hoi, _⟩ := itAt_get hit
    have hil : it < s.heap.objs.size := Heap.lt_size hoi
    let q : Sr := ⟨it, x.1, x.2, its.toArray⟩
    have dr : Draws X.prog X.w X.A.in1 it [it, x.1] its.toArray.size (fun i v => its.toArray[i]? = some v) (fun i h => q.St i h) := q.draws (A := X.A.in1) hh hia
    refine wpAny_pyNext_enum_itemD dr he ⟨hit, hseq⟩ (by simpa using hlt) hei (by simp [hei, hea]) fun z h' tk ez ho st' hT hsz kp => ?_
    have ez : z = y := by
      have : its[i]? = some z := by simpa using ez
      rw [hy] at this
      exact (Option.some.inj this).symm
    subst ez
    refine ⟨_, rfl, wpAny_letOwnedTupleGo_enum (s := { s with heap := h', toks := tk + 1 }) ho fun h2 he2 sb => ?_⟩
    have sb : Heap.SameBut e h' h2 := sb
    have hT2 : h2.get? s.heap.objs.size = some (tupO #[.int i tk, z]) := sb.extBut _ _ (Nat.ne_of_gt hel) hT
    have new : ObjOk X.prog X.w (upd H s.heap.objs.size (.tup [.int (i : Nat), u])) h2 s.heap.objs.size (.tup [.int (i : Nat), u]) :=
      ⟨by show 2 ≤ sizeLine; decide, [.int i tk, z], .cons ⟨_, rfl⟩ (.cons ry .nil), ⟨_, hT2, rfl, _, rfl⟩⟩
    have I1 : L2.Inv X pins σ (upd H s.heap.objs.size (.tup [.int (i : Nat), u])) { s with heap := h2, toks := tk + 1 } :=
      I.turnedNew (ch := [e, it]) (fun b ob hb q => sb.extBut _ _ (fun z => hb (by simp [z])) (kp b ob (fun z => hb (by simp [z])) (fun z => hb (by simp [z])) q)) hf (Nat.le_refl _) new
    refine ⟨.ref s.heap.objs.size, _, I1, rfl, ⟨_, u, rfl, I.hok.fresh (Nat.le_refl _), rfl, fun ys hy => by rw [sqK_inj I hy hq]; exact hx⟩, ⟨⟨z, ?_⟩, itAt_keep st'.1 fun o q => sb.extBut _ _ (Ne.symm hei) q⟩, fun b hb => ?_⟩
    · have e1 : ((i + 1 : Nat) : Int) = (i : Int) + 1 := by omega
      rw [e1]; exact he2
    · have hb' : b < s.heap.objs.size := by
        have e' : b = e ∨ b = it := by simpa using hb
        rcases e' with z | z
        · rw [z]; exact hel
        · rw [z]; exact hil
      rw [upd_ne (Nat.ne_of_lt hb')]
      exact (hf b hb).1
  done := by
    intro X hP hw hK hc i pins s σ H E I hf st hg
    subst hP hw hK
    obtain ⟨⟨old, he⟩, hit⟩ := st
    obtain ⟨xs, hq, hx⟩ := hg
    obtain ⟨its, rv, hseq⟩ := sqK_at I hq
    have hh : X.A.handled = none := I.ok.hd hc
    obtain ⟨f0, f1, f2, f3, f4, f5⟩ := hf it (by simp)
    let q : Sr := ⟨it, x.1, x.2, its.toArray⟩
    have dr : Draws X.prog X.w X.A.in1 it [it, x.1] its.toArray.size (fun i v => its.toArray[i]? = some v) (fun i h => q.St i h) := q.draws (A := X.A.in1) hh hia
    have hn : its.toArray.size = i := by rw [List.size_toArray, ← rv.length]; exact hx
    refine wpAny_pyNext_enum_endD dr he (by rw [hn]; exact ⟨hit, hseq⟩) fun h' eb => ⟨rfl, I.turned (t' := s.toks) (fun b o hb q => eb b o hb q) f0 f1 f3 f4 f5⟩
  self := fun A i s Q E st h => let ⟨⟨_, he⟩, _⟩ := st; wpAny_pyIter_enum he h
def iEnumX (K : PySem.W.Frag) (ta : TA) : TI := fun σ H R => ta σ H fun vs H1 => ∃ (x : Addr × Bool) (xs : List V), vs = [.ref x.1] ∧ SqK K H1 x xs ∧ R (Ite2 K x) H1
theorem pi_enumX {X : Cx} {e : Expr} {ta : TA} {p pos tpos : Pos} {elts : List Expr} {kk : Nat} (hg : Gl X "enumerate") (hm : X.mg "enumerate" = none) (ha : PA X [e] ta) (hs : starEach [e] X.env = [(false, eval e X.env)] := by rfl) :
    PI X (.Tuple elts kk tpos) (.Call (.Name "enumerate" p) [e] [] pos) (iEnumX X.K ta) := ⟨fun pins s σ H R I h => by
  refine Call_ (ld_blt I hg hm boot_enumerate (PyProof.Rows.callWith_type1 (thn (ha.run pos pins s σ H _ I h) fun us s1 ⟨vs, H1, I1, r1, q1⟩ => ?_) hs rfl))
  obtain ⟨x, xs, ex, hq, q⟩ := q1
  subst ex
  obtain ⟨u, rfl, ru⟩ := vals1 r1
  cases (show u = Value.ref x.1 from ru)
  obtain ⟨its, rv, hseq⟩ := sqK_at I1 hq
  refine call_enumK hseq fun h' he hit hk => wpAny_pyIter_enum he ?_
  have I2 : L2.Inv X pins σ H1 { s1 with heap := h' } := I1.kept (t' := s1.toks) hk
  have hlt : Nat.lt x.1 s1.heap.objs.size := seqAt_lt hseq
  refine ⟨s1.heap.objs.size + 1, [s1.heap.objs.size + 1, s1.heap.objs.size], _, _, H1, rfl, I2, turn_enumX (Nat.succ_ne_self _) (Nat.ne_of_gt (Nat.lt_succ_of_lt hlt)) (Nat.ne_of_lt hlt), ⟨⟨.none, he⟩, hit⟩, fun b hb => ?_, q⟩
  have e' : b = s1.heap.objs.size + 1 ∨ b = s1.heap.objs.size := by simpa using hb
  have hle : s1.heap.objs.size ≤ b := by
    rcases e' with z | z
    · rw [z]; exact Nat.le_succ _
    · rw [z]; exact Nat.le_refl _
  exact I1.fpOk hle (I1.hok.fresh hle)⟩
def kindD : D → Bool
  | .tup _ => false
  | _ => true
section
variable {K : PySem.W.Frag} {H : Hp} {R : List Pr} {v : V} {d d' : D} {xs : List D}
theorem Joint.accK (h : WF.seqV d = some (xs, d')) (j : Joint K H ((v, d') :: R)) : ∃ p vs, v = .ref p ∧ ((H p = some (.lst vs) ∧ kindD d' = true) ∨ (H p = some (.tup vs) ∧ kindD d' = false)) ∧ vs.length = xs.length ∧ ∀ (n : Nat) u x, vs[n]? = some u → xs[n]? = some x → Joint K H ((u, x) :: (v, d') :: R) := by
  obtain ⟨p, vs, e, k, hl, get⟩ := Joint.acc h j
  refine ⟨p, vs, e, ?_, hl, get⟩
  rcases k with ⟨ys, rfl, hp⟩ | ⟨ys, rfl, hp⟩ | ⟨ys, rfl, hp⟩
  · exact .inl ⟨hp, rfl⟩
  · exact .inl ⟨hp, rfl⟩
  · exact .inr ⟨hp, rfl⟩
theorem sqK_of {p : Addr} {k : Bool} {vs : List V} (h : (H p = some (.lst vs) ∧ k = true) ∨ (H p = some (.tup vs) ∧ k = false)) : SqK K H (p, k) vs := by
  rcases h with ⟨h, rfl⟩ | ⟨h, rfl⟩
  · exact .inl (.inl h)
  · exact .inl (.inl h)
theorem Joint.accAll : ∀ {ds : List D} {xss : List (List D)} {vs : List V} {R : List Pr}, SeqAll ds xss → vs.length = ds.length → Joint K H (vs.zip ds ++ R) → ∃ (ys : List (Addr × Bool)) (vss : List (List V)), vs = ys.map (fun x => V.ref x.1) ∧ ys.map Prod.snd = ds.map kindD ∧ RdAll K H ys vss ∧ vss.map List.length = xss.map List.length ∧
    ∀ (i : Nat) (us : List V) (es : List D), us.map some = vss.map (fun l => l[i]?) → es.map some = xss.map (fun l => l[i]?) → Joint K H (us.zip es ++ (vs.zip ds ++ R))
  | [], _, [], R, .nil, _, j => ⟨[], [], rfl, rfl, .nil, rfl, fun i us es h1 h2 => by
    cases us with
    | nil => exact j
    | cons _ _ => simp at h1⟩
  | d :: ds, _, v :: vs, R, .cons h1 h2, hl, j => by
    rename_i d0 xs xss
    obtain ⟨p, ws, e, sk, lw, get⟩ := Joint.accK (R := vs.zip ds ++ R) h1 j
    obtain ⟨ys, vss, e1, ek, rd, ll, getA⟩ := Joint.accAll (R := (v, d) :: R) h2 (by simpa using hl) (j.perm perm_take.symm)
    refine ⟨(p, kindD d) :: ys, ws :: vss, by rw [List.map_cons, ← e1, e], by simp [ek], .cons (sqK_of sk) rd, by simp [lw, ll], fun i us es hu he => ?_⟩
    cases us with
    | nil => simp at hu
    | cons u us =>
      cases es with
      | nil => simp at he
      | cons x es =>
        simp only [List.map_cons, List.cons.injEq] at hu he
        have k1 := getA i us es hu.2 he.2
        have k2 : Joint K H ((v, d) :: (us.zip es ++ (vs.zip ds ++ R))) := k1.perm ((List.Perm.append_left _ perm_take).trans perm_take)
        obtain ⟨p', ws', e', sk', lw', get'⟩ := Joint.accK h1 k2
        have ep : p' = p := by rw [e] at e'; exact (V.ref.inj e').symm
        subst ep
        have ew : ws' = ws := by
          rcases sk with ⟨a, b⟩ | ⟨a, b⟩ <;> rcases sk' with ⟨a', b'⟩ | ⟨a', b'⟩
          · rw [a] at a'; cases a'; rfl
          · rw [a] at a'; cases a'
          · rw [a] at a'; cases a'
          · rw [a] at a'; cases a'; rfl
        subst ew
        have k3 := get' i u x hu.1.symm he.1.symm
        refine k3.perm (List.Perm.cons _ ?_)
        exact (perm_take.symm).trans (List.Perm.append_left _ (List.Perm.refl _))
end
end WF
namespace WF
open PySem PySem.Spec PyProof.Rows L2
structure ZipIs (strict : Bool) (xss : List (List D)) (R : List D) : Prop where
  at_ : ∀ (i : Nat) d, R[i]? = some d → ∃ es, d = .tup es ∧ es.map some = xss.map (fun l => l[i]?)
  le : ∀ xs ∈ xss, R.length ≤ xs.length
  fin : if strict = true then ∀ xs ∈ xss, R.length = xs.length else ∃ xs ∈ xss, R.length = xs.length
def zip2D (strict : Bool) : List (List D) → Option (List D)
  | [xs, ys] => if strict && xs.length != ys.length then none else some (List.zipWith (fun x y => .tup [x, y]) xs ys)
  | _ => none
theorem zip2_is {strict : Bool} {xss : List (List D)} {R : List D} (h : zip2D strict xss = some R) : ZipIs strict xss R ∧ xss.length = 2 := by
  unfold zip2D at h
  split at h
  · rename_i xs ys
    split at h
    · cases h
    · rename_i hc
      cases h
      refine ⟨⟨fun i d hd => ?_, fun l m => ?_, ?_⟩, rfl⟩
      · rw [List.getElem?_zipWith] at hd
        cases q1 : xs[i]? with
        | none => rw [q1] at hd; cases hd
        | some x =>
          cases q2 : ys[i]? with
          | none => rw [q1, q2] at hd; cases hd
          | some y => rw [q1, q2] at hd; cases hd; exact ⟨[x, y], rfl, by simp [q1, q2]⟩
      · rw [List.length_zipWith]
        have m' : l = xs ∨ l = ys := by simpa using m
        rcases m' with rfl | rfl <;> omega
      · rw [List.length_zipWith]
        cases strict with
        | true =>
          rw [if_pos rfl]
          have e : xs.length = ys.length := by simpa using hc
          intro l m
          have m' : l = xs ∨ l = ys := by simpa using m
          rcases m' with rfl | rfl <;> omega
        | false =>
          rw [if_neg Bool.false_ne_true]
          by_cases q : xs.length ≤ ys.length
          · exact ⟨xs, by simp, by omega⟩
          · exact ⟨ys, by simp, by omega⟩
  · cases h
theorem srcs_eq : ∀ {ys zs : List (Addr × Bool)} {vs : List V}, vs = ys.map (fun x => V.ref x.1) → vs = zs.map (fun x => V.ref x.1) → ys.map Prod.snd = zs.map Prod.snd → ys = zs
  | [], [], _, _, _, _ => rfl
  | y :: ys, z :: zs, v :: vs, h1, h2, h3 => by
    simp only [List.map_cons, List.cons.injEq] at h1 h2 h3
    have e1 : y.1 = z.1 := V.ref.inj (h1.1.symm.trans h2.1)
    rw [srcs_eq h1.2 h2.2 h3.2, show y = z from Prod.ext e1 h3.1]
  | [], _ :: _, _, h1, h2, _ => by rw [h1] at h2; simp at h2
  | _ :: _, [], _, h1, h2, _ => by rw [h1] at h2; simp at h2
  | _ :: _, _ :: _, [], h1, _, _ => by simp at h1
theorem len_mem {vss : List (List V)} {xss : List (List D)} (h : vss.map List.length = xss.map List.length) : ∀ vs ∈ vss, ∃ xs ∈ xss, vs.length = xs.length := fun vs m => by
  have : vs.length ∈ xss.map List.length := by rw [← h]; exact List.mem_map_of_mem m
  obtain ⟨xs, m', e⟩ := List.mem_map.mp this
  exact ⟨xs, m', e.symm⟩
theorem len_mem' {vss : List (List V)} {xss : List (List D)} (h : vss.map List.length = xss.map List.length) : ∀ xs ∈ xss, ∃ vs ∈ vss, vs.length = xs.length := fun xs m => by
  have : xs.length ∈ vss.map List.length := by rw [h]; exact List.mem_map_of_mem m
  obtain ⟨vs, m', e⟩ := List.mem_map.mp this
  exact ⟨vs, m', e⟩
section
variable {K : PySem.W.Frag} {H : Hp} {ds : List D} {xss : List (List D)} {vs : List V} {Rr : List D} {strict : Bool}
theorem iter_zipX {ys : List (Addr × Bool)} (sa : SeqAll ds xss) (hl : vs.length = ds.length) (e : vs = ys.map (fun x => V.ref x.1)) (ek : ys.map Prod.snd = ds.map kindD) (z : ZipIs strict xss Rr) : Iter K (Itz2 K strict ys) (vs.zip ds) Rr := by
  have main : ∀ {H : Hp} {L : List Pr}, Joint K H (vs.zip ds ++ L) → ∃ vss, RdAll K H ys vss ∧ vss.map List.length = xss.map List.length ∧ ∀ (i : Nat) (us : List V) (es : List D), us.map some = vss.map (fun l => l[i]?) → es.map some = xss.map (fun l => l[i]?) → Joint K H (us.zip es ++ (vs.zip ds ++ L)) := fun {H L} j => by
    obtain ⟨ys', vss, e1, ek1, rd, ll, get⟩ := Joint.accAll sa hl j
    have := srcs_eq e1 e (ek1.trans ek.symm)
    subst this
    exact ⟨vss, rd, ll, get⟩
  refine ⟨fun i H L hi j => ?_, fun i H L d x H' hd j y => ?_, fun H L j => ?_⟩
  · obtain ⟨vss, rd, ll, get⟩ := main j
    refine ⟨vss, rd, fun ws m => ?_⟩
    obtain ⟨xs, m', e⟩ := len_mem ll ws m
    have := z.le xs m'
    omega
  · obtain ⟨vss, rd, ll, get⟩ := main j
    obtain ⟨T, us, rfl, hT, rfl, hu⟩ := y
    obtain ⟨es, rfl, he⟩ := z.at_ i d hd
    have k := get i us es (hu vss rd) he
    have lu : us.length = es.length := by
      have a := congrArg List.length (hu vss rd)
      have b := congrArg List.length he
      have c := congrArg List.length ll
      simp at a b c
      omega
    exact Joint.tup lu k hT
  · obtain ⟨vss, rd, ll, get⟩ := main j
    refine ⟨vss, rd, fun ws m => ?_, ?_⟩
    · obtain ⟨xs, m', e⟩ := len_mem ll ws m
      have := z.le xs m'
      omega
    · have f := z.fin
      cases strict with
      | true =>
        rw [if_pos rfl] at f ⊢
        intro ws m
        obtain ⟨xs, m', e⟩ := len_mem ll ws m
        rw [e]; exact f xs m'
      | false =>
        rw [if_neg Bool.false_ne_true] at f ⊢
        obtain ⟨xs, m', e⟩ := f
        obtain ⟨ws, m2, e2⟩ := len_mem' ll xs m'
        exact ⟨ws, m2, by omega⟩
def enumD : List (List D) → Option (List D)
  | [xs] => some (xs.zipIdx.map fun p => .tup [.int (p.2 : Nat), p.1])
  | _ => none
theorem iter_enumX {x : Addr × Bool} {d0 d' : D} {xs : List D} (h : seqV d0 = some (xs, d')) (hk : x.2 = kindD d') : Iter K (Ite2 K x) [(.ref x.1, d')] (xs.zipIdx.map fun p => .tup [.int (p.2 : Nat), p.1]) := by
  obtain ⟨p, k⟩ := x
  have hk : k = kindD d' := hk
  have main : ∀ {H : Hp} {L : List Pr}, Joint K H ([(.ref p, d')] ++ L) → ∃ vs, SqK K H (p, k) vs ∧ vs.length = xs.length ∧ ∀ (n : Nat) u x, vs[n]? = some u → xs[n]? = some x → Joint K H ((u, x) :: ([(.ref p, d')] ++ L)) := fun {H L} j => by
    obtain ⟨q, vs, e, sk, hl, get⟩ := Joint.accK (R := L) h j
    cases e
    rw [← hk] at sk
    exact ⟨vs, sqK_of sk, hl, get⟩
  refine ⟨fun i H L hi j => ?_, fun i H L d y H' hd j yy => ?_, fun H L j => ?_⟩
  · obtain ⟨vs, sq, hl, get⟩ := main j
    have hi' : i < vs.length := by simp at hi; omega
    exact ⟨vs, vs[i], sq, List.getElem?_eq_getElem _⟩
  · obtain ⟨vs, sq, hl, get⟩ := main j
    obtain ⟨T, u, rfl, hT, rfl, hu⟩ := yy
    rw [List.getElem?_map, List.getElem?_zipIdx] at hd
    cases q : xs[i]? with
    | none => rw [q] at hd; cases hd
    | some x =>
      rw [q] at hd
      simp at hd
      subst hd
      exact Joint.tup (vs := [.int (i : Nat), u]) (ds := [.int (i : Nat), x]) rfl (ju_int (get i u x (hu vs sq) q)) hT
  · obtain ⟨vs, sq, hl, get⟩ := main j
    exact ⟨vs, sq, by simp [hl]⟩
end
section
variable {c : Cfg} {X : Cx} {as : List Ar} {e : Expr} {es : List Expr} {p pos tpos kpos cpos : Pos} {elts : List Expr} {kk j : Nat}
theorem tArgsA_len : ∀ {as : List Ar} {σ : L2.St} {H : Hp} {Q : List V → Hp → Prop}, tArgsA c as σ H Q → tArgsA c as σ H fun vs H1 => vs.length = as.length ∧ Q vs H1
  | [], _, _, _, h => ⟨rfl, h⟩
  | .v f :: r, _, _, _, h => T.mono h fun v H1 h1 => tArgsA_mono (tArgsA_len h1) fun vs H2 ⟨a, b⟩ => ⟨by simp [a], b⟩
  | .s i :: r, _, _, _, ⟨v, e, h⟩ => ⟨v, e, tArgsA_mono (tArgsA_len h) fun vs H2 ⟨a, b⟩ => ⟨by simp [a], b⟩⟩
theorem t_zip {strict : Bool} {comb : List (List D) → Option (List D)} (hz : ∀ {xss R}, comb xss = some R → ZipIs strict xss R) (hK : c.K = X.K) {σ : L2.St} {H : Hp} {R : It → Hp → Prop} (h : TIm c (walkM comb as) σ H R) : iZipX X.K strict (tArgsA c as) σ H R := by
  refine tArgsA_mono (src_post h) fun vs H1 ⟨ds, xss, ys, hc, sa, hl, hd, ⟨Z, jz⟩, fin⟩ => ?_
  obtain ⟨zs, vss, e1, ek, rd, _, _⟩ := Joint.accAll sa hl jz
  exact ⟨zs, vss, e1, hK ▸ rd, fin _ (hK ▸ iter_zipX sa hl e1 ek (hz hc))⟩
theorem args2 (strict : Bool) : ∀ us : List Value, us.length = 2 → ZipArgs strict us
  | [a, b], _ => zipArgs2 strict a b
variable {e1 e2 e3 : Expr} {y1 y2 y3 : Ar}
theorem wi_zip2 (hK : c.K = X.K) (hg : Gl X "zip") (hm : X.mg "zip" = none) (ha : PA X [e1, e2] (tArgsA c [y1, y2])) (hs : starEach [e1, e2] X.env = (false, eval e1 X.env) :: starEach [e2] X.env := by rfl) (hpl : (backTo pos (starEach [e2] X.env)).any (·.1) = false := by rfl) :
    PI X (.Tuple elts kk tpos) (.Call (.Name "zip" p) [e1, e2] [] pos) (TIm c (walkM (zip2D false) [y1, y2])) :=
  pi_mono (pi_zipX (ta := tArgsA c [y1, y2]) (args2 false) (by simp) (fun σ H Q h => tArgsA_len (as := [y1, y2]) h) hg hm ha hs hpl) fun σ H R h => t_zip (fun h => (zip2_is h).1) hK h
theorem wi_zip2s (hK : c.K = X.K) (hg : Gl X "zip") (hm : X.mg "zip" = none) (ha : PA X [e1, e2] (tArgsA c [y1, y2])) (hs : starEach [e1, e2] X.env = (false, eval e1 X.env) :: starEach [e2] X.env := by rfl) (hpl : (backTo pos (starEach [e2] X.env)).any (·.1) = false := by rfl) :
    PI X (.Tuple elts kk tpos) (.Call (.Name "zip" p) [e1, e2] [⟨some "strict", .Constant (.bool true) j cpos, kpos⟩] pos) (TIm c (walkM (zip2D true) [y1, y2])) :=
  pi_mono (pi_zipS (ta := tArgsA c [y1, y2]) (args2 true) (by simp) (fun σ H Q h => tArgsA_len (as := [y1, y2]) h) hg hm ha hs hpl) fun σ H R h => t_zip (fun h => (zip2_is h).1) hK h
theorem wi_enum (hK : c.K = X.K) (hg : Gl X "enumerate") (hm : X.mg "enumerate" = none) (ha : PA X [e1] (tArgsA c [y1])) (hs : starEach [e1] X.env = [(false, eval e1 X.env)] := by rfl) : PI X (.Tuple elts kk tpos) (.Call (.Name "enumerate" p) [e1] [] pos) (TIm c (walkM enumD [y1])) :=
  pi_mono (pi_enumX hg hm ha hs) fun σ H R h => by
    refine tArgsA_mono (src_post h) fun vs H1 ⟨ds, xss, ys, hc, sa, hl, hd, ⟨Z, jz⟩, fin⟩ => ?_
    obtain ⟨d, rfl⟩ := one_len hd
    obtain ⟨v, rfl⟩ := one_of hl
    cases sa with
    | cons h1 h2 =>
      cases h2
      cases hc
      have jz : Joint c.K H1 ((v, d) :: Z) := jz
      obtain ⟨q, ws, rfl, sk, _, _⟩ := Joint.accK h1 jz
      exact ⟨(q, kindD d), ws, rfl, hK ▸ sqK_of sk, fin _ (hK ▸ iter_enumX (x := (q, kindD d)) h1 rfl)⟩
end
end WF
namespace WF
open PySem PySem.Spec PyProof.Rows L2
def lstS (i : Nat) (f : EM) : EM := fun S => match S[i]? with
  | some (.lst o xs) => f S
  | _ => none
def modS (i : Nat) (g : List D → Option (D × List D)) : EM := fun S => match S[i]? with
  | some (.lst true xs) => (g xs).map fun r => (.ok r.1, S.set i (.lst true r.2))
  | _ => none
def appM (i : Nat) (fe : EM) : EM := lstS i (bindM fe fun d => modS i fun xs => if xs.length < 1000000 then some (.non, xs ++ [d]) else none)
def extM (i : Nat) (fe : EM) : EM := lstS i (bindM fe fun d => modS i fun xs => match d with
  | .lst _ ys => if xs.length + ys.length < 1000000 then some (.non, xs ++ ys) else none
  | _ => none)
section
variable {c : Cfg} {X : Cx} {S : S0} {tm tm0 : List Pr} {σ : L2.St} {H : Hp} {i : Nat} {a b e o : Expr} {fa fb fe : EM} {pos apos : Pos}
theorem lst_get {f : EM} {Q : VK} (j : SJ c S tm σ H) (p : post c (lstS i f S) tm0 σ Q) : ∃ q vs, σ[i]? = some (some (.ref q)) ∧ H q = some (.lst vs) ∧ post c (f S) tm0 σ Q := by
  unfold lstS at p
  split at p
  · rename_i o xs hd
    obtain ⟨v, ev, Z, k, _⟩ := j.get hd rfl
    obtain ⟨q, rfl⟩ := k.is_lst
    obtain ⟨vs, hp, _⟩ := k.unlst
    exact ⟨q, vs, ev, hp, p⟩
  · exact p.elim
theorem t_app {Q : VK} (h : T c (appM i fe) σ H Q) : tBM X.K "list" rAppend (tVar i) (tCons (T c fe) tNil) σ H Q := by
  obtain ⟨S, tm, j, p⟩ := h
  obtain ⟨q, vs, ev, hp, p⟩ := lst_get j p
  refine ⟨_, ev, .inl ⟨rfl, vs, .inl (.inl hp)⟩, (post_bind j p).mono fun v H1 ⟨d, S1, j1, p1⟩ => ?_⟩
  unfold modS at p1
  split at p1
  · rename_i xs hd
    obtain ⟨v', ev', Z, k, put⟩ := j1.get2 hd rfl
    have e0 : v' = .ref q := by rw [ev] at ev'; exact (Option.some.inj (Option.some.inj ev')).symm
    subst e0
    by_cases hlt : xs.length < 1000000
    · simp only [if_pos hlt, Option.map_some] at p1
      obtain ⟨us, hq, hl, k2⟩ := k.sw.app
      refine ⟨q, us, v, rfl, rfl, hq, Nat.lt_trans (by omega : us.length < 1000000) (by decide), p1 .non _ ?_⟩
      exact put _ [(.non, .non)] _ (ju_non k2).sw
    · simp only [if_neg hlt, Option.map_none] at p1
      exact p1.elim
  · exact p1.elim
theorem w_app (h : PE X e (tBM X.K "list" rAppend (tVar i) (tCons (T c fe) tNil))) : PE X e (T c (appM i fe)) := pe_mono h fun _ _ _ h => t_app h
def gSubM (i : Nat) (fk : EM) : GM := fun d S => match S[i]? with
  | some (.lst _ _) => match fk S with
    | some (.ok (.int k), S1) => match S1[i]? with
      | some (.lst true xs) => match ixN xs.length k with
        | some m => some (S1.set i (.lst true (xs.set m d)))
        | none => none
      | _ => none
    | _ => none
  | _ => none
theorem zip_set : ∀ {vs : List V} {ds : List D} {m : Nat} {v : V} {d : D}, vs.length = ds.length → m < vs.length → ∃ u x Z, (vs.zip ds).Perm ((u, x) :: Z) ∧ ((vs.set m v).zip (ds.set m d)).Perm ((v, d) :: Z)
  | u :: vs, x :: ds, 0, v, d, h, _ => ⟨u, x, vs.zip ds, .refl _, .refl _⟩
  | u :: vs, x :: ds, m + 1, v, d, h, hm => by
    obtain ⟨u', x', Z, p1, p2⟩ := zip_set (vs := vs) (ds := ds) (m := m) (v := v) (d := d) (by simpa using h) (by simpa using hm)
    exact ⟨u', x', (u, x) :: Z, (List.Perm.cons _ p1).trans (List.Perm.swap _ _ _), (List.Perm.cons _ p2).trans (List.Perm.swap _ _ _)⟩
  | [], _, _, _, _, _, h => by simp at h
  | _ :: _, [], _, _, _, h, _ => by simp at h
theorem Joint.setL {K : PySem.W.Frag} {p : Addr} {ds : List D} {v : V} {d : D} {R : List Pr} {m : Nat} (j : Joint K H ((.ref p, .lst true ds) :: (v, d) :: R)) (hm : m < ds.length) : ∃ vs, H p = some (.lst vs) ∧ vs.length = ds.length ∧ Joint K (upd H p (.lst (vs.set m v))) ((.ref p, .lst true (ds.set m d)) :: R) := by
  obtain ⟨vs, hp, hl, k⟩ := j.openL
  obtain ⟨u, x, Z, p1, p2⟩ := zip_set (v := v) (d := d) hl (by omega : m < vs.length)
  refine ⟨vs, hp, hl, JX.close (by simp [hl]) ?_⟩
  have k1 := k.perm (List.Perm.append_right _ p1)
  have k2 : JX K H p (Z ++ ((v, d) :: R)) := JX.drop k1
  exact (k2.perm perm_take).perm (List.Perm.append_right _ p2.symm)
theorem wg_sub {t : Expr} {fk : EM} (h : PG X t (gSub (tVar i) (T c fk) rSetL)) : PG X t (UG c (gSubM i fk)) := pg_mono h fun v σ H Q h => by
  obtain ⟨d, S, tm, j, p⟩ := h
  unfold gSubM at p
  split at p
  · rename_i S' heq
    split at heq
    · rename_i o xs0 hd0
      obtain ⟨w, ew, Z0, k0, _⟩ := j.get hd0 rfl
      obtain ⟨q, rfl⟩ := k0.is_lst
      refine ⟨_, ew, S, (v, d) :: tm, j, ?_⟩
      split at heq
      · rename_i k S1 hfk
        rw [hfk]
        split at heq
        · rename_i xs hd1
          split at heq
          · rename_i m hm
            cases heq
            intro kv H1 j1
            have ek := j1.take.is_int
            obtain ⟨w', ew', Z, k1, put⟩ := (j1.drop).get2 hd1 rfl
            have e0 : w' = .ref q := by rw [ew] at ew'; exact (Option.some.inj (Option.some.inj ew')).symm
            subst e0
            have hml : m < xs.length := (ixN_seq hm).2.1
            obtain ⟨us, hq, hl, k2⟩ := k1.sw.setL hml
            exact ⟨q, us, k, m, rfl, ek, hq, by rw [hl]; exact hm, p _ _ (put _ [] _ k2)⟩
          · cases heq
        · cases heq
      · cases heq
    · cases heq
  · exact p.elim
end
end WF
namespace WF
open PySem PySem.Spec PyProof.Rows L2
abbrev FnP (K : PySem.W.Frag) (x : Str) (st : Stmt) (kws : List (Str × V)) (f : Addr) (fd : FuncData) : Prop := FunD K x x (defArgs st) (defBody st) (defScope st) [] kws f fd
section
variable {P : Program} {w : World} {K : PySem.W.Frag} {mg : Str → Option Value} {base : Heap}
theorem def_okD {x : Str} {st : Stmt} {kws : List (Str × V)} {f : Addr} {fd : FuncData} {N ps : List Str} {k : Nat} {mask : List Bool} {fb : SM} (F : FnP K x st kws f fd) (S : FnScope N ps (defScope st)) (hm : mask.length = ps.length) (hN : ps.length ≤ N.length)
    (hbody : ∀ (cdv : Value) (A : Around) (outer : List Env) (s : Shared) (H : Hp) (vs : List V) (rs : List Pr) (E : XK), Room k (A.deeper (envOfC x (defScope st) s.heap.objs.size f cdv)) → vs.length = ps.length →
      PSs (cxOf (L2.CX P w) P w K mg base N x (defScope st) f cdv A outer s H E) (defBody st) (U (cfgOf K mask N.length vs rs E) fb)) :
    FnOk P w K mg base (L2.CX P w) (k + 1) f fd ps (spOf K ps.length (defM mask N.length fb)) := by
  refine F.ok (CX := L2.CX P w) S (fun vs H Q E h => h.1) fun cdv A outer s H vs Q E hr h => ?_
  obtain ⟨hl, ds, rs, hd, j, mt⟩ := h
  refine ⟨_, hbody cdv A outer s H vs rs E hr hl, ds ++ List.replicate (N.length - mask.length) .un, [], ⟨?_, fun i d h hu => ?_, fun i o h => ?_, ?_, ?_⟩, ?_⟩
  · simp [L2.start, hl, hd, hm]
  · by_cases hi : i < ds.length
    · refine ⟨vs[i]'(by omega), ?_⟩
      unfold L2.start
      rw [List.getElem?_append_left (by simp; omega)]
      simp [show i < vs.length by omega]
    · rw [List.getElem?_append_right (by omega)] at h
      rw [List.getElem?_replicate] at h
      split at h
      · cases h; exact (hu rfl).elim
      · cases h
  · exact pvOf_get (r := List.replicate (N.length - vs.length) none) (pv_split h)
  · simp [L2.start, pvOf_len (hm.trans hl.symm), hl, hm]
  · unfold L2.start
    rw [show N.length - vs.length = N.length - mask.length by omega, slotL_start (by omega)]
    exact Joint.uns j
  · unfold defM at mt
    have fin : ∀ {S1 : S0} {σ : L2.St} {H' : Hp} {tm : List Pr}, (maskM mask S1).length = ps.length → SJ (cfgOf K mask N.length vs rs E) S1 tm σ H' → Joint K H' (vs.zip (maskM mask S1) ++ (tm ++ rs)) := fun {S1 σ H' tm} e j' =>
      mask_ok (by omega) j'.len (by have := maskM_le (e.trans hm.symm); omega) (fun i o h => j'.pv i o (by
        rw [List.getElem?_append_left (List.getElem?_eq_some_iff.mp h).1]
        exact h)) j'.jt
    cases hb : fb (ds ++ List.replicate (N.length - mask.length) D.un) with
    | none => rw [hb] at mt; exact mt.elim
    | some o =>
      obtain ⟨fl, S1⟩ := o
      rw [hb] at mt
      cases fl with
      | nx => exact fun σ H' j' => mt.2 _ _ (j_non (c := cfgOf K mask N.length vs rs E) H' _ (fin mt.1 j'))
      | rt d => exact fun v σ H' j' => mt.2 _ _ ((fin mt.1 j').perm perm_take)
      | bk => exact mt.elim
      | ct => exact mt.elim
      | ex y => exact fun cls dd σ H' ⟨fv, x1, x2, x3, k⟩ => mt.2 cls dd H' ⟨fv, x1, x2, x3, (fin mt.1 k).perm perm_sw⟩
theorem fn_none {f : Addr} {fd : FuncData} {ps : List Str} {k n : Nat} : FnOk P w K mg base (L2.CX P w) k f fd ps (spOf K n fun _ => none) :=
  ⟨fun _ _ _ _ ⟨_, _, _, _, _, h⟩ => h.elim, fun _ _ _ _ _ _ _ _ _ _ _ _ _ ⟨_, _, _, _, _, h⟩ => h.elim⟩
end
def pick {α : Type} (d : α) (ix : List Nat) (xs : List α) : List α := ix.map fun i => xs.getD i d
def pickF (ix inv : List Nat) (dd : List D) (m : Fn) : Fn := fun ds => match m (pick .un ix (ds ++ dd)) with
  | some (o, as) => if as.length = ix.length then some (o, (pick .un inv as).take ds.length) else none
  | none => none
section
theorem pick_len {α : Type} {d : α} {ix : List Nat} {xs : List α} : (pick d ix xs).length = ix.length := by simp [pick]
theorem map_range_getD {α : Type} (d : α) (xs : List α) : (List.range xs.length).map (fun i => xs.getD i d) = xs := by
  refine List.ext_getElem (by simp) fun i h1 h2 => ?_
  simp at h1
  simp [List.getElem?_eq_getElem h2]
theorem pick_perm {α : Type} {d : α} {ix : List Nat} {xs : List α} (h : ix.Perm (List.range xs.length)) : (pick d ix xs).Perm xs := by
  have := h.map (fun i => xs.getD i d)
  rwa [map_range_getD] at this
theorem pick_zip {ix : List Nat} {vs : List V} {ds : List D} (h : ∀ i ∈ ix, i < vs.length) (hl : vs.length = ds.length) : (pick .non ix vs).zip (pick .un ix ds) = pick (V.non, D.un) ix (vs.zip ds) := by
  induction ix with
  | nil => rfl
  | cons i ix ih =>
    have ih := ih fun j m => h j (List.mem_cons_of_mem _ m)
    have hi := h i List.mem_cons_self
    simp only [pick, List.map_cons, List.zip_cons_cons] at ih ⊢
    rw [ih]
    congr 1
    simp only [List.getD_eq_getElem?_getD, List.getElem?_zip_eq_some, List.getElem?_eq_getElem hi, List.getElem?_eq_getElem (show i < ds.length by omega), List.getElem?_eq_getElem (show i < (vs.zip ds).length by simp; omega), Option.getD_some, List.getElem_zip]
theorem pick_inv {α : Type} {d : α} {ix inv : List Nat} {as : List α} (h : ∀ j, j < ix.length → inv.getD (ix.getD j 0) as.length = j) (hi : ∀ i ∈ ix, i < inv.length) (hl : as.length = ix.length) : pick d ix (pick d inv as) = as := by
  refine List.ext_getElem (by rw [pick_len, hl]) fun j h1 h2 => ?_
  have hj : j < ix.length := by rwa [pick_len] at h1
  have hx := hi (ix[j]) (List.getElem_mem hj)
  have e := h j hj
  rw [List.getD_eq_getElem?_getD, List.getElem?_eq_getElem (by simpa [List.getD_eq_getElem?_getD, List.getElem?_eq_getElem hj] using hx)] at e
  simp only [List.getD_eq_getElem?_getD, List.getElem?_eq_getElem hj, Option.getD_some] at e
  simp only [pick, List.getElem_map, List.getD_eq_getElem?_getD, List.getElem?_map, List.getElem?_eq_getElem hx, Option.map_some, Option.getD_some]
  rw [e, List.getElem?_eq_getElem h2]
  rfl
variable {K : PySem.W.Frag} {H : Hp}
structure PickOk (n m : Nat) (ix inv : List Nat) : Prop where
  perm : ix.Perm (List.range (n + m))
  len : inv.length = n + m
  inv : ∀ j, j < ix.length → inv.getD (ix.getD j 0) ix.length = j
theorem sp_pick {n : Nat} {ix inv : List Nat} {dvs : List V} {dd : List D} {m : Fn} (hp : PickOk n dd.length ix inv) (hd : dvs.length = dd.length) (hj : ∀ H R, Joint K H R → Joint K H (dvs.zip dd ++ R)) {vs : List V} {Q : VK} {E : XK}
    (h : spOf K n (pickF ix inv dd m) vs H Q E) : spOf K (n + dd.length) m (pick .non ix (vs ++ dvs)) H Q E := by
  obtain ⟨hl, ds, rs, hl2, j, mt⟩ := h
  have il : ix.length = n + dd.length := by rw [hp.perm.length_eq, List.length_range]
  have lv : (vs ++ dvs).length = n + dd.length := by simp [hl, hd]
  have ld : (ds ++ dd).length = n + dd.length := by simp [hl2]
  have hlt : ∀ i ∈ ix, i < n + dd.length := fun i mm => List.mem_range.mp (hp.perm.mem_iff.mp mm)
  refine ⟨by rw [pick_len, il], pick .un ix (ds ++ dd), rs, by rw [pick_len, il], ?_, ?_⟩
  · rw [pick_zip (by rw [lv]; exact hlt) (lv.trans ld.symm), List.zip_append (hl.trans hl2.symm)]
    refine Joint.perm (List.Perm.append_right _ (pick_perm ?_).symm) ?_
    · rw [List.length_append, List.length_zip, List.length_zip, hl, hl2, hd, Nat.min_self, Nat.min_self]
      exact hp.perm
    · rw [List.append_assoc]
      exact (hj H _ j).perm perm_sw
  · unfold pickF at mt
    cases hm : m (pick .un ix (ds ++ dd)) with
    | none => rw [hm] at mt; exact mt.elim
    | some o =>
      obtain ⟨o, as⟩ := o
      rw [hm] at mt
      have key : as.length = n + dd.length → ∀ {H' : Hp} {A : List Pr}, Joint K H' (A ++ ((pick .non ix (vs ++ dvs)).zip as ++ rs)) → Joint K H' (A ++ (vs.zip ((pick .un inv as).take ds.length) ++ rs)) := fun la H' A k => by
        have e1 : as = pick .un ix (pick .un inv as) := (pick_inv (fun j hjj => by rw [la, ← il]; exact hp.inv j hjj) (fun i mm => by rw [hp.len]; exact hlt i mm) (by rw [la, il])).symm
        have lp : (pick D.un inv as).length = n + dd.length := by rw [pick_len, hp.len]
        rw [e1, pick_zip (by rw [lv]; exact hlt) (lv.trans lp.symm)] at k
        have k2 : Joint K H' (A ++ ((vs ++ dvs).zip (pick .un inv as) ++ rs)) := k.perm (List.Perm.append_left _ (List.Perm.append_right _ (pick_perm (by rw [List.length_zip, lv, lp, Nat.min_self]; exact hp.perm))))
        have e2 : (vs ++ dvs).zip (pick .un inv as) = vs.zip ((pick .un inv as).take ds.length) ++ dvs.zip ((pick .un inv as).drop ds.length) := by
          conv => lhs; rw [← List.take_append_drop ds.length (pick .un inv as)]
          rw [List.zip_append (by rw [List.length_take, lp, hl2, hl]; omega)]
        rw [e2, List.append_assoc] at k2
        have k3 : Joint K H' (dvs.zip ((pick .un inv as).drop ds.length) ++ (A ++ (vs.zip ((pick .un inv as).take ds.length) ++ rs))) := k2.perm ((List.Perm.append_left _ perm_sw).trans perm_sw)
        exact k3.dropL
      by_cases hla : as.length = ix.length
      · simp only [if_pos hla] at mt
        have la := hla.trans il
        cases o with
        | ok r => exact ⟨la, fun v H' k => mt.2 v H' (key la (A := [(v, r)]) k)⟩
        | ex y => exact ⟨la, fun cls dx H' ⟨fv, x1, x2, x3, k⟩ => mt.2 cls dx H' ⟨fv, x1, x2, x3, key la k⟩⟩
      · simp only [if_neg hla] at mt
end
end WF
namespace WF
open PySem PySem.Spec PyProof.Rows L2
theorem vals_get {d : V} {e : Value} (hde : RelV d e) : ∀ {vs : List V} {us : List Value}, Vals vs us → ∀ i : Nat, RelV (vs.getD i d) (us.getD i e)
  | _, _, .nil, i => by simpa using hde
  | _, _, .cons a r, 0 => by simpa using a
  | _, _, .cons a r, i + 1 => by simpa using vals_get hde r i
theorem vals_pick {vs : List V} {us : List Value} (h : Vals vs us) : ∀ ix : List Nat, Vals (pick .non ix vs) (pick .none ix us)
  | [] => .nil
  | i :: ix => .cons (vals_get (d := .non) (e := .none) rfl h i) (vals_pick h ix)
theorem len2 {α : Type} {xs : List α} (h : xs.length = 2) : ∃ a b, xs = [a, b] := by
  match xs, h with
  | [a, b], _ => exact ⟨a, b, rfl⟩
theorem len3 {α : Type} {xs : List α} (h : xs.length = 3) : ∃ a b c, xs = [a, b, c] := by
  match xs, h with
  | [a, b, c], _ => exact ⟨a, b, c, rfl⟩
section
variable {c : Cfg} {X : Cx} {k : Nat} {f : Addr} {fd : FuncData} {ps : List Str} {n : Nat} {m : Fn} {x : Str} {p pos : Pos} {e : Expr} {es : List Expr} {as bs : List Ar} {ks : List Str} {kws : List Keyword}
theorem tArgsA_app : ∀ {as bs : List Ar} {σ : L2.St} {H : Hp} {Q : List V → Hp → Prop}, tArgsA c (as ++ bs) σ H Q → tArgsA c as σ H fun vs H1 => tArgsA c bs σ H1 fun zs H2 => Q (vs ++ zs) H2
  | [], _, _, _, _, h => h
  | .v f :: as, bs, _, _, _, h => T.mono h fun _ _ h2 => tArgsA_app h2
  | .s i :: as, bs, _, _, _, ⟨v, e, h⟩ => ⟨v, e, tArgsA_app h⟩
theorem wk_nil : PK X [] (tArgsA c []) := pk_nil
theorem wk_v {g : EM} {nm : Option Str} {kpos : Pos} (h : PE X e (T c g)) (hr : PK X kws (tArgsA c as)) : PK X (⟨nm, e, kpos⟩ :: kws) (tArgsA c (.v g :: as)) := pk_cons h hr
def KB (K : PySem.W.Frag) (fd : FuncData) (ps ks : List Str) (n : Nat) (ix : List Nat) (its : List Value) : Prop :=
  ∀ (s : Shared) (us ws : List Value), K.In s.heap → us.length = n → ws.length = ks.length → BindsTo s fd ⟨us, ks.zip ws⟩ (ps.zip (pick .none ix ((us ++ ws) ++ its)))
variable {ix inv : List Nat} {dvs : List V} {dd : List D} {its : List Value}
theorem t_callK {σ : L2.St} {H : Hp} {Q : VK} (h : T c (callM (pickF ix inv dd m) (as ++ bs)) σ H Q) (hn : (as ++ bs).length = n) : tArgsA c as σ H fun vs H1 => tArgsA c bs σ H1 fun zs H2 => spOf c.K n (pickF ix inv dd m) (vs ++ zs) H2 Q (WE c.W σ) :=
  tArgsA_mono (tArgsA_app (tArgsA_mono (t_call h hn) fun vs H h => by rw [List.append_nil] at h; exact h)) fun _ _ h => h
theorem run_K {pins : List (Addr × Obj)} {σ : L2.St} {H : Hp} {s : Shared} {Q : VK} {us ws : List Value} {vs zs : List V} (F : FnOk X.prog X.w X.K X.mg X.base (L2.CX X.prog X.w) k f fd ps (spOf c.K (n + dd.length) m)) (hr : Room k X.A) (hp : PickOk n dd.length ix inv) (hdv : Vals dvs its) (hdd : dvs.length = dd.length) (hj : ∀ H R, Joint c.K H R → Joint c.K H (dvs.zip dd ++ R))
    (hb : KB X.K fd ps ks as.length ix its) (tk : Takes X c.W) (I : Inv X pins σ H s) (r : Vals vs us) (rz : Vals zs ws) (h1 : vs.length = as.length) (h2 : zs.length = ks.length) (h : spOf c.K n (pickF ix inv dd m) (vs ++ zs) H Q (WE c.W σ)) : wpAny (model X.prog X.w) X.A (call (.ref f) us (ks.zip ws)) (EP X pins σ Q) X.xe s := by
  have h' := sp_pick hp hdd hj h
  have r2 : Vals (pick .non ix ((vs ++ zs) ++ dvs)) (pick .none ix ((us ++ ws) ++ its)) := vals_pick ((r.append rz).append hdv) ix
  refine wpAny_call (codeAny_mono (F.run X.A X.stack s H ⟨us, ks.zip ws⟩ _ _ Q (WE c.W σ) hr I.env0 (hb s us ws I.kIn (by rw [← r.length]; exact h1) (by rw [← rz.length]; exact h2)) r2 h') fun r s' hq => ?_)
  cases r with
  | error e => exact passAt tk σ pins H s e s' I hq
  | ok fl =>
    cases fl with
    | ret u => exact I.after hq
    | next => exact False.elim hq
    | brk => exact False.elim hq
    | cont => exact False.elim hq
theorem w_callK0 (F : FnOk X.prog X.w X.K X.mg X.base (L2.CX X.prog X.w) k f fd ps (spOf c.K (n + dd.length) m)) (hr : Room k X.A) (hg : Gl X x) (hm : X.mg x = some (.ref f)) (hk : PySem.W.keepIn X.K (.ref f) = true) (hb : KB X.K fd ps ks 0 ix its) (hp : PickOk n dd.length ix inv) (hdv : Vals dvs its) (hdd : dvs.length = dd.length) (hj : ∀ H R, Joint c.K H R → Joint c.K H (dvs.zip dd ++ R)) (tk : Takes X c.W)
    (hkw : PK X kws (tArgsA c bs)) (hn : bs.length = n := by rfl) (hbl : bs.length = ks.length := by rfl) (hall : (backToKw pos (keywordEach kws X.env)).all (·.1.isSome) = true := by rfl) (hks : (backToKw pos (keywordEach kws X.env)).filterMap (·.1) = ks := by rfl)
    (hdb : (x == ("__debug__" : Str)) = false := by decide)
    (hpl : ((backTo pos (starEach [] X.env)).any (·.1) || (backToKw pos (keywordEach kws X.env)).any (·.1.isNone)) = false := by rfl) :
    PE X (.Call (.Name x p) [] kws pos) (T c (callM (pickF ix inv dd m) bs)) := by
  refine ⟨fun pins s σ H Q I h => ?_⟩
  refine wpAny_Call_Name_kw (ld_glob I hg hm ?_ hdb)
  have h2 := t_callK (as := []) (bs := bs) h hn
  refine PySem.W.callWith_KW0 (h₀ := X.base) I.ok.mod.kin hk hall ?_ hpl
  refine thn (hkw.run pos pins s σ H _ I (tArgsA_len h2)) fun ws s2 ⟨zs, H2, I2, rz, l2, q2⟩ => ⟨I2.kIn, ?_⟩
  rw [hks]
  exact run_K (as := []) (us := []) (vs := []) F hr hp hdv hdd hj hb tk I2 .nil rz rfl (l2.trans hbl) q2
theorem kb_none {K : PySem.W.Frag} {x : Str} {st : Stmt} {kws : List (Str × V)} {r : Nat} (F : FnP K x st kws f fd)
    (h : ∀ (kV doc pm : Value) (an : Option Addr) (cdv ct : Value) (us ws : List Value), us.length = r → ws.length = ks.length → bindArgs (PySem.W.fnOf x x (defArgs st) (defBody st) (defScope st) .none kV doc pm an cdv ct) ⟨us, ks.zip ws⟩ = pure (ps.zip (pick .none ix ((us ++ ws) ++ [])))) : KB K fd ps ks r ix [] := by
  obtain ⟨oc, od, dV, kV, doc, pm, an, cdv, ct, osl, rfl, lk, hcd, hD, hK⟩ := F.ex
  rcases hD with ⟨_, rfl⟩ | ⟨e, _⟩
  · exact fun s us ws _ h1 h2 => .of_eq (h kV doc pm an cdv ct us ws h1 h2)
  · exact absurd rfl e
theorem post_argsS : ∀ (fs : List EM) {g : List D → EM} {h : D → SM} {S : S0} {tm tm0 : List Pr} {σ : L2.St} {H : Hp} {E : Ends}, SJ c S tm σ H → postS c (bindS (argsM fs g) h S) tm0 E →
    tArgs c fs σ H (fun vs H1 => ∃ ds S', vs.length = ds.length ∧ ds.length = fs.length ∧ SJ c S' (vs.zip ds ++ tm) σ H1 ∧ postS c (bindS (g ds) h S') tm0 E)
  | [], _, _, S, _, _, _, _, _, j, p => ⟨[], S, rfl, rfl, j, p⟩
  | f :: fs, g, h, S, tm, tm0, σ, H, E, j, p => by
    have p' : postS c (bindS f (fun d => bindS (argsM fs fun ds => g (d :: ds)) h) S) tm0 E := by
      unfold bindS argsM bindM at p
      unfold bindS
      cases hf : f S with
      | none => rw [hf] at p; exact p
      | some o =>
        obtain ⟨o, S'⟩ := o
        rw [hf] at p
        cases o with
        | ok d => exact p
        | ex x => exact p
    refine (post_bindS (fa := f) j p').mono fun v H1 ⟨d, S1, j1, p1⟩ => ?_
    refine tArgs_mono (post_argsS fs j1 p1) fun vs H2 ⟨ds, S2, e1, e2, j2, p2⟩ => ?_
    exact ⟨d :: ds, S2, by simp [e1], by simp [e2], j2.perm perm_take, p2⟩
def par2M (i j : Nat) (fs : List EM) : SM := asgM (tupM fs) (gTupM 2 (gConsM (gSetM i) (gConsM (gSetM j) gNilM)))
def par3M (i j l : Nat) (fs : List EM) : SM := asgM (tupM fs) (gTupM 3 (gConsM (gSetM i) (gConsM (gSetM j) (gConsM (gSetM l) gNilM))))
theorem SJ.setSlot' {S S' : S0} {tm : List Pr} {σ : L2.St} {H : Hp} {i : Nat} {v : V} {d : D} (j : SJ c S ((v, d) :: tm) σ H) (h : gSetM i d S = some S') (hp : c.PV[i]? = some none) : SJ c S' tm (σ.set i (some v)) H := by
  unfold gSetM at h
  split at h
  · cases h; exact j.setSlot (by assumption) hp
  · cases h
theorem w_par2 {i j : Nat} {y : Str} {a b : Expr} {fa fb : EM} {px py pt : Pos} {kt k2 pt2} (hc : X.calm = true) (hN : X.N.Nodup) (hi : X.N[i]? = some x) (hj : X.N[j]? = some y) (hij : i ≠ j)
    (hx : X.env.scope.names.lookup x = some .local) (hy : X.env.scope.names.lookup y = some .local) (hpi : c.PV[i]? = some none) (hpj : c.PV[j]? = some none) (ha : PA X [a, b] (tArgs c [fa, fb]))
    (hw : swappedStores [.Tuple [.Name x px, .Name y py] kt pt] (.Tuple [a, b] k2 pt2) X.env = pure (some [x, y]))
    (hs : swapsWithSole [.Tuple [.Name x px, .Name y py] kt pt] (.Tuple [a, b] k2 pt2) pos.line X.env = pure false := by rfl) :
    PS X (.Assign [.Tuple [.Name x px, .Name y py] kt pt] (.Tuple [a, b] k2 pt2) pos) (U c (par2M i j [fa, fb])) := ps_mono (ps_par hc hN hi hj hij hx hy ha hw hs) fun E σ H h => by
  obtain ⟨S, tm, j0, p⟩ := h
  refine tArgs_mono (post_argsS [fa, fb] j0 p) fun vs H1 ⟨ds, S1, e1, e2, j1, p1⟩ => ?_
  · obtain ⟨d, e, rfl⟩ := len2 e2
    obtain ⟨v, u, rfl⟩ := len2 e1
    refine ⟨v, u, rfl, ?_⟩
    have p2 : postS c (((gSetM i d S1).bind fun S' => (gSetM j e S').bind fun S2 => some S2).map fun S' => (Fl.nx, S')) tm E := p1
    cases h1 : gSetM i d S1 with
    | none => rw [h1] at p2; exact p2.elim
    | some S2 =>
      rw [h1] at p2
      cases h2 : gSetM j e S2 with
      | none => simp only [Option.bind_some, h2] at p2; exact p2.elim
      | some S3 =>
        simp only [Option.bind_some, h2] at p2
        exact p2 _ _ (SJ.setSlot' (SJ.setSlot' j1 h1 hpi) h2 hpj)
theorem w_par3 {i j l : Nat} {y z : Str} {a b d : Expr} {fa fb fd : EM} {px py pz pt : Pos} {kt k2 pt2} (hc : X.calm = true) (hN : X.N.Nodup) (hi : X.N[i]? = some x) (hj : X.N[j]? = some y) (hl : X.N[l]? = some z) (hij : i ≠ j) (hil : i ≠ l) (hjl : j ≠ l)
    (hx : X.env.scope.names.lookup x = some .local) (hy : X.env.scope.names.lookup y = some .local) (hz : X.env.scope.names.lookup z = some .local) (hpi : c.PV[i]? = some none) (hpj : c.PV[j]? = some none) (hpl : c.PV[l]? = some none) (ha : PA X [a, b, d] (tArgs c [fa, fb, fd]))
    (hw : swappedStores [.Tuple [.Name x px, .Name y py, .Name z pz] kt pt] (.Tuple [a, b, d] k2 pt2) X.env = pure (some [x, y, z]))
    (hs : swapsWithSole [.Tuple [.Name x px, .Name y py, .Name z pz] kt pt] (.Tuple [a, b, d] k2 pt2) pos.line X.env = pure false := by rfl) :
    PS X (.Assign [.Tuple [.Name x px, .Name y py, .Name z pz] kt pt] (.Tuple [a, b, d] k2 pt2) pos) (U c (par3M i j l [fa, fb, fd])) := ps_mono (ps_par3 hc hN hi hj hl hij hil hjl hx hy hz ha hw hs) fun E σ H h => by
  obtain ⟨S, tm, j0, p⟩ := h
  refine tArgs_mono (post_argsS [fa, fb, fd] j0 p) fun vs H1 ⟨ds, S1, e1, e2, j1, p1⟩ => ?_
  · obtain ⟨d, e, f, rfl⟩ := len3 e2
    obtain ⟨v, u, t, rfl⟩ := len3 e1
    refine ⟨v, u, t, rfl, ?_⟩
    have p2 : postS c (((gSetM i d S1).bind fun S' => (gSetM j e S').bind fun S2 => (gSetM l f S2).bind fun S3 => some S3).map fun S' => (Fl.nx, S')) tm E := p1
    cases h1 : gSetM i d S1 with
    | none => rw [h1] at p2; exact p2.elim
    | some S2 =>
      rw [h1] at p2
      cases h2 : gSetM j e S2 with
      | none => simp only [Option.bind_some, h2] at p2; exact p2.elim
      | some S3 =>
        simp only [Option.bind_some, h2] at p2
        cases h3 : gSetM l f S3 with
        | none => simp only [Option.bind_some, h3] at p2; exact p2.elim
        | some S4 =>
          simp only [Option.bind_some, h3] at p2
          exact p2 _ _ (SJ.setSlot' (SJ.setSlot' (SJ.setSlot' j1 h1 hpi) h2 hpj) h3 hpl)
end
end WF
namespace WF
open PySem PySem.Spec PyProof.Rows L2
def prD (p : Int × Int) : D := .tup [.int p.1, .int p.2]
def sortI (ns : List Int) : List Int := ns.mergeSort fun a b => decide (a ≤ b)
section
variable {K : PySem.W.Frag} {H : Hp} {R : List Pr}
end
end WF
namespace WF
open PySem PySem.Spec PyProof.Rows L2
theorem tuple_mul1 (l : Addr) (items : Array Value) (n : Nat) (dd : Option Addr) (sl : Array (Option Value)) (x : Int) (u : Tok) (c0 : (decide (x < -(2 ^ 63)) || decide (x ≥ 2 ^ 63)) = false) (c1 : (items.isEmpty || x == 1) = true) :
    Meets (Builtin.«tuple.__mul__» ⟨[.ref l, .int x u], []⟩) (fun _ R s => s.heap.get? l = some { cls := .type "tuple", dict := dd, data := .seq items n, slots := sl } ∧
      R (.ok (.ret (Value.ref l))) s) :=
  .of_wp fun prog w A R s h => by
    obtain ⟨hp, g, d, tk, os⟩ := s
    obtain ⟨hl, h⟩ := h
    have f1 := AutoSeq1.idx_int
    wp_walk using wpAny_loadPart' hl
    repeat (first
      | (refine wpAny_ite_false (decide_eq_false (by rw [c0]; exact Bool.false_ne_true)) ?_; wp_walk using wpAny_loadPart' hl)
      | (refine wpAny_ite_true (decide_eq_true c1) ?_; wp_walk using wpAny_loadPart' hl))
    all_goals exact ⟨_, rfl, h⟩
def rRep1 (K : PySem.W.Frag) : R2 := fun x y H Q => ∃ l xs, x = .ref l ∧ y = .int 1 ∧ SqT K H l xs ∧ Q (.ref l) H
theorem op_rep1 {X : Cx} : OpR X (binaryOp .Mult) (rRep1 X.K) := by
  intro pins s σ H x y v u Q I rx ry h
  obtain ⟨l, xs, rfl, rfl, hT, q⟩ := h
  cases rx
  obtain ⟨t, rfl⟩ := ry
  obtain ⟨its, r, ⟨⟨cls, dd, data, sl⟩, ho, hc, n, hd⟩, hs⟩ := I.tuple hT
  simp only at hc hd
  subst hc hd
  refine wpAny_binaryOp_repeat_ref (T := "tuple") (U := "int") (by decide) ⟨_, ho, rfl⟩ (fun s' => typeIs_int s' 1 t) noFill_tuple_mul F.fills_int_mul F.slot_int_rmul repeat_tuple F.slot_int_index.lookup
    (call_meets F.slot_int_rmul (typeIs_int s 1 t) F.entry_int_rmul (F.args_int_rmul_2 _ _) (int_rmul_tuple 1 t l its.toArray n dd sl)
      ⟨ho, rfl, ⟨_, ho, rfl⟩, call_meets F.slot_tuple_mul ⟨_, ho, rfl⟩ F.entry_tuple_mul (F.args_tuple_mul_2 _ _) (tuple_mul1 l its.toArray n dd sl 1 t (by decide) (by simp)) ⟨ho, ?_⟩⟩)
  exact ⟨.ref l, H, I, rfl, q⟩
def mulD2 (a b : D) : Option D := match a, b with
  | .tup xs, .int 1 => some (.tup (D.frzs xs))
  | _, _ => mulD a b
def rMulB (K : PySem.W.Frag) : R2 := fun x y H Q => rMulA K x y H Q ∨ rRep1 K x y H Q
theorem op_mulB {X : Cx} : OpR X (binaryOp .Mult) (rMulB X.K) := op_mulA.or op_rep1
theorem s_mulB {K : PySem.W.Frag} : Op2 K (rMulB K) mulD2 := by
  intro H R v1 v2 d1 d2 d Q e j q
  unfold mulD2 at e
  split at e
  · cases e
    have ek := j.is_int
    obtain ⟨p, rfl⟩ := j.sw.is_tup
    obtain ⟨vs, hp, hl, kk⟩ := j.drop.untup
    exact .inr ⟨p, vs, rfl, ek, .inl (.inl hp), q _ _ j.drop.freeze.drop⟩
  · exact .inl (s_mul H R v1 v2 d1 d2 d Q e j q)
end WF
namespace WF
open PySem PySem.Spec PyProof.Rows L2
theorem bb_len : bootBuiltins "len" = some (.builtin "len") := by decide +kernel
theorem bb_abs : bootBuiltins "abs" = some (.builtin "abs") := by decide +kernel
theorem bb_sum : bootBuiltins "sum" = some (.builtin "sum") := by decide +kernel
theorem bb_all : bootBuiltins "all" = some (.builtin "all") := by decide +kernel
theorem bb_max : bootBuiltins "max" = some (.builtin "max") := by decide +kernel
theorem bb_min : bootBuiltins "min" = some (.builtin "min") := by decide +kernel
theorem bb_isinstance : bootBuiltins "isinstance" = some (.builtin "isinstance") := by decide +kernel
theorem bb_divmod : bootBuiltins "divmod" = some (.builtin "divmod") := by decide +kernel
theorem bt_int : bootBuiltins "int" = some (.type "int") := by decide +kernel
theorem bt_bool : bootBuiltins "bool" = some (.type "bool") := by decide +kernel
theorem bt_str : bootBuiltins "str" = some (.type "str") := by decide +kernel
theorem bt_list : bootBuiltins "list" = some (.type "list") := by decide +kernel
theorem bt_tuple : bootBuiltins "tuple" = some (.type "tuple") := by decide +kernel
theorem bt_dict : bootBuiltins "dict" = some (.type "dict") := by decide +kernel
theorem hu65 {k : Nat} {A : Around} (hr : Room k A) : A.units + 65 < cLine := by have := hr.un; omega
end WF
namespace WF
open PySem PySem.Spec PyProof.Rows L2
theorem fn_cx0 {P : Program} {w : World} {K : PySem.W.Frag} {mg : Str → Option Value} {base : Heap} {k : Nat} {f : Addr} {fd : FuncData} {ps : List Str} {sp : Sp} (F : FnOk P w K mg base (L2.CX P w) k f fd ps sp) :
    FnOk P w K mg base CX0 k f fd ps (fun vs H Q _ => sp vs H Q fun _ _ _ => False) :=
  ⟨fun vs H Q _ h => F.len vs H Q _ h, fun A outer s H args us vs Q E hr e0 hb hv hs => codeAny_mono (F.run A outer s H args us vs Q (fun _ _ _ => False) hr e0 hb hv hs) fun r s' h => by
    cases r with
    | error e =>
      obtain ⟨_, _, _, _, _, _, _, _, _, _, _, _, z⟩ := h
      exact z.elim
    | ok fl => cases fl <;> exact h⟩
def takeM (i : Nat) : EM := fun S => match S[i]? with
  | some d => if isUn d then none else some (.ok d, S.set i .un)
  | none => none
theorem w_take {c : Cfg} {X : Cx} {e : Expr} {i : Nat} (he : PE X e (tVar i)) : PE X e (T c (takeM i)) := by
  refine pe_mono he fun σ H Q h => ?_
  obtain ⟨S, tm, j, p⟩ := h
  unfold takeM at p
  split at p
  · rename_i d hd
    split at p
    · exact p.elim
    · rename_i hu
      obtain ⟨v, ev, Z, k, put⟩ := j.get hd (by simpa using hu)
      refine ⟨v, ev, p v H ?_⟩
      exact put .un [(v, d)] H k.un
  · exact p.elim
end WF
namespace WF0
open WF PySem L2
def oE (o : Option (Out × S0)) (Q : D → S0 → Prop) : Prop := match o with
  | some (.ok d, S) => Q d S
  | _ => False
def oS (o : Option (Fl × S0)) (Q : Fl → S0 → Prop) : Prop := match o with
  | some (.ex _, _) => False
  | some (d, S) => Q d S
  | none => False
def oI (o : Option (IOut × S0)) (Q : List D → List (Nat × D) → S0 → Prop) : Prop := match o with
  | some (.ok ds l, S) => Q ds l S
  | _ => False
def oG (o : Option S0) (Q : S0 → Prop) : Prop := match o with
  | some S => Q S
  | none => False
def oC (o : Option (List D × S0)) (Q : List D → S0 → Prop) : Prop := match o with
  | some (d, S) => Q d S
  | none => False
def wE (f : EM) (S : S0) (Q : D → S0 → Prop) : Prop := oE (f S) Q
def wS (f : SM) (S : S0) (Q : Fl → S0 → Prop) : Prop := oS (f S) Q
def wI (f : IM) (S : S0) (Q : List D → List (Nat × D) → S0 → Prop) : Prop := oI (f S) Q
def wG (g : GM) (d : D) (S : S0) (Q : S0 → Prop) : Prop := oG (g d S) Q
def wGs (g : GMs) (d : List D) (S : S0) (Q : S0 → Prop) : Prop := oG (g d S) Q
def wF (m : Fn) (ds : List D) (Q : D → List D → Prop) : Prop := oE (m ds) Q
def wC (own : List Nat) (g : GM) (ft : Option EM) (fe : EM) (ds : List D) (S : S0) (acc : List D) (Q : List D → S0 → Prop) : Prop := oC (compL own g ft fe ds S acc) Q
def rd {α : Type} (o : Option α) (P : α → Prop) : Prop := ∃ d, o = some d ∧ P d
section
variable {α : Type} {P : α → Prop}
@[simp] theorem rd_some {d : α} : rd (some d) P ↔ P d := ⟨fun ⟨_, e, p⟩ => by cases e; exact p, fun p => ⟨_, rfl, p⟩⟩
@[simp] theorem rd_none : rd none P ↔ False := ⟨fun ⟨_, e, _⟩ => (by cases e), False.elim⟩
@[simp] theorem rd_ite {c : Prop} [Decidable c] {o : Option α} : rd (if c then o else none) P ↔ c ∧ rd o P := by
  by_cases h : c <;> simp [h]
@[simp] theorem rd_map {β : Type} {o : Option β} {g : β → α} : rd (o.map g) P ↔ rd o fun b => P (g b) := by cases o <;> simp
@[simp] theorem rd_bind {β : Type} {o : Option β} {g : β → Option α} : rd (o.bind g) P ↔ rd o fun b => rd (g b) P := by cases o <;> simp
end
section
variable {S : S0} {Q : D → S0 → Prop} {QS : Fl → S0 → Prop} {QI : List D → List (Nat × D) → S0 → Prop} {QG : S0 → Prop} {f fa fb fc fd fe : EM} {i : Nat}
theorem oE_ex {o : Option (Out × S0)} : oE o Q ↔ ∃ d S, o = some (.ok d, S) ∧ Q d S := by
  constructor
  · intro h
    match o, h with
    | some (.ok d, S), h => exact ⟨d, S, rfl, h⟩
  · rintro ⟨d, S, rfl, q⟩; exact q
theorem oE.mono {o : Option (Out × S0)} {Q' : D → S0 → Prop} (h : oE o Q) (q : ∀ d S, Q d S → Q' d S) : oE o Q' := by
  match o, h with
  | some (.ok d, S), h => exact q d S h
theorem oS.mono {o : Option (Fl × S0)} {Q' : Fl → S0 → Prop} (h : oS o QS) (q : ∀ d S, QS d S → Q' d S) : oS o Q' := by
  match o, h with
  | some (.nx, S), h => exact q _ S h
  | some (.rt d, S), h => exact q _ S h
  | some (.bk, S), h => exact q _ S h
  | some (.ct, S), h => exact q _ S h
theorem wE.mono {Q' : D → S0 → Prop} (h : wE f S Q) (q : ∀ d S, Q d S → Q' d S) : wE f S Q' := oE.mono h q
theorem wF.mono {m : Fn} {ds : List D} {Q Q' : D → List D → Prop} (h : wF m ds Q) (q : ∀ d S, Q d S → Q' d S) : wF m ds Q' := oE.mono h q
theorem wS.mono {f : SM} {Q' : Fl → S0 → Prop} (h : wS f S QS) (q : ∀ d S, QS d S → Q' d S) : wS f S Q' := oS.mono h q
@[simp] theorem wE_ret {d : D} : wE (retM d) S Q ↔ Q d S := Iff.rfl
@[simp] theorem wE_bind {g : D → EM} : wE (bindM f g) S Q ↔ wE f S fun d S' => wE (g d) S' Q := by
  simp only [wE, bindM]
  match f S with
  | none => exact Iff.rfl
  | some (.ok _, _) => exact Iff.rfl
  | some (.ex _, _) => exact Iff.rfl
@[simp] theorem wE_opt {o : Option D} : wE (optM o) S Q ↔ rd o fun d => Q d S := by
  cases o <;> simp [wE, optM, oE]
@[simp] theorem wE_var : wE (varM i) S Q ↔ rd S[i]? fun d => isUn d = false ∧ Q d.frz (S.set i d.frz) := by
  simp only [wE, varM]
  cases h : S[i]? with
  | none => simp [oE]
  | some d => cases hu : isUn d <;> simp [hu, oE]
@[simp] theorem wE_take : wE (takeM i) S Q ↔ rd S[i]? fun d => isUn d = false ∧ Q d (S.set i .un) := by
  simp only [wE, takeM]
  cases h : S[i]? with
  | none => simp [oE]
  | some d => cases hu : isUn d <;> simp [hu, oE]
@[simp] theorem wE_bin {op : D → D → Option D} : wE (binM op fa fb) S Q ↔ wE fa S fun x S => wE fb S fun y S => rd (op x y) fun d => Q d S := by simp only [binM, wE_bind, wE_opt]
@[simp] theorem wE_un {op : D → Option D} : wE (unM op fa) S Q ↔ wE fa S fun x S => rd (op x) fun d => Q d S := by simp only [unM, wE_bind, wE_opt]
@[simp] theorem wE_args0 {g : List D → EM} : wE (argsM [] g) S Q ↔ wE (g []) S Q := Iff.rfl
@[simp] theorem wE_args1 {g : List D → EM} {fs : List EM} : wE (argsM (f :: fs) g) S Q ↔ wE f S fun d S => wE (argsM fs fun ds => g (d :: ds)) S Q := wE_bind
@[simp] theorem wE_tup {fs : List EM} : wE (tupM fs) S Q ↔ wE (argsM fs fun ds => retM (.tup ds)) S Q := Iff.rfl
@[simp] theorem wE_lst {fs : List EM} : wE (lstM fs) S Q ↔ wE (argsM fs fun ds => retM (.lst true ds)) S Q := Iff.rfl
@[simp] theorem wE_cb {op : List D → Option D} {fs : List EM} : wE (cbM op fs) S Q ↔ wE (argsM fs fun ds => optM (op ds)) S Q := Iff.rfl
@[simp] theorem wE_br {b : Bool} : wE (brM (.bl b) fa fb) S Q ↔ if b = true then wE fa S Q else wE fb S Q := by cases b <;> simp [brM]
@[simp] theorem wE_and : wE (andM fa fb) S Q ↔ wE fa S fun d S => wE (brM d fb (retM (.bl false))) S Q := wE_bind
@[simp] theorem wE_or : wE (orM fa fb) S Q ↔ wE fa S fun d S => wE (brM d (retM (.bl true)) fb) S Q := wE_bind
@[simp] theorem wE_not : wE (notM fa) S Q ↔ wE fa S fun d S => wE (brM d (retM (.bl false)) (retM (.bl true))) S Q := wE_bind
@[simp] theorem wE_if : wE (ifM fc fa fb) S Q ↔ wE fc S fun d S => wE (brM d fa fb) S Q := wE_bind
@[simp] theorem wE_argsA0 {g : List Av → EM} : wE (argsA [] g) S Q ↔ wE (g []) S Q := Iff.rfl
@[simp] theorem wE_argsAv {g : List Av → EM} {r : List Ar} : wE (argsA (.v f :: r) g) S Q ↔ wE f S fun d S => wE (argsA r fun ds => g (.inl d :: ds)) S Q := wE_bind
@[simp] theorem wE_argsAs {g : List Av → EM} {r : List Ar} : wE (argsA (.s i :: r) g) S Q ↔ rd S[i]? fun d => isUn d = false ∧ wE (argsA r fun ds => g (.inr i :: ds)) S Q := by
  have e : argsA (.s i :: r) g S = match S[i]? with
    | some d => if isUn d then none else argsA r (fun ds => g (.inr i :: ds)) S
    | none => none := rfl
  simp only [wE, e]
  cases h : S[i]? with
  | none => simp [oE]
  | some d => cases hu : isUn d <;> simp [hu, oE]
def callK (m : Fn) (av : List Av) : EM := fun S => match takeA av S with
  | some (ds, S1) => match m ds with
    | some (o, ds') => if ds'.length = av.length then some (o, putA av ds' S1) else none
    | none => none
  | none => none
@[simp] theorem wE_call {m : Fn} {as : List Ar} : wE (callM m as) S Q ↔ wE (argsA as (callK m)) S Q := Iff.rfl
@[simp] theorem wE_callK {m : Fn} {av : List Av} : wE (callK m av) S Q ↔ rd (takeA av S) fun p => wF m p.1 fun r ds' => ds'.length = av.length ∧ Q r (putA av ds' p.2) := by
  simp only [wE, callK, wF]
  cases h : takeA av S with
  | none => simp [oE]
  | some o =>
    obtain ⟨ds, S1⟩ := o
    simp only [rd_some]
    match m ds with
    | none => exact Iff.rfl
    | some (.ok d, ds') => by_cases hl : ds'.length = av.length <;> simp [hl, oE]
    | some (.ex d, ds') => by_cases hl : ds'.length = av.length <;> simp [hl, oE]
def roK (op : List D → Option D) (av : List Av) : EM := fun S => match takeA av S with
  | some (ds, S1) => match op ds with
    | some d => if ds.length = av.length then some (.ok d, putA av ds S1) else none
    | none => none
  | none => none
@[simp] theorem wE_ro {op : List D → Option D} {as : List Ar} : wE (roM op as) S Q ↔ wE (argsA as (roK op)) S Q := Iff.rfl
@[simp] theorem wE_roK {op : List D → Option D} {av : List Av} : wE (roK op av) S Q ↔ rd (takeA av S) fun p => rd (op p.1) fun d => p.1.length = av.length ∧ Q d (putA av p.1 p.2) := by
  simp only [wE, roK]
  cases h : takeA av S with
  | none => simp [oE]
  | some o =>
    obtain ⟨ds, S1⟩ := o
    simp only [rd_some]
    cases hm : op ds with
    | none => simp [oE]
    | some d => by_cases hl : ds.length = av.length <;> simp [hl, oE]
@[simp] theorem wE_has : wE (hasM i f) S Q ↔ rd S[i]? fun d => isUn d = false ∧ wE f S Q := by
  simp only [wE, hasM]
  cases h : S[i]? with
  | none => simp [oE]
  | some d => cases hu : isUn d <;> simp [hu, oE]
@[simp] theorem wE_ixS : wE (ixS i fb) S Q ↔ wE fb S fun k S => rd S[i]? fun d => rd (ixO d k) fun p => isUn d = false ∧ Q p.1 (S.set i p.2) := by
  unfold ixS
  rw [wE_bind]
  apply iff_of_eq
  congr 1
  funext k S
  simp only [wE]
  cases h : S[i]? with
  | none => simp [oE]
  | some d =>
    cases h2 : ixO d k with
    | none => simp [h2, oE]
    | some r =>
      obtain ⟨x, d'⟩ := r
      cases hu : isUn d <;> simp [h2, hu, oE]
theorem wE_tail' {q : IP} {b : Int} : wE (tailM q b fc) S Q ↔ wE fc S fun z S => ∃ c, z = .int c ∧ Q (.bl (q b c)) S := by
  unfold tailM
  rw [wE_bind]
  apply iff_of_eq
  congr 1
  funext z S
  cases z <;> simp [wE, oE, retM]
theorem wE_chain2' {p q : IP} : wE (chain2M p q fa fb fc) S Q ↔ wE fa S fun x S => wE fb S fun y S => ∃ a b, x = .int a ∧ y = .int b ∧ if p a b = true then wE (tailM q b fc) S Q else Q (.bl false) S := by
  unfold chain2M
  simp only [wE_bind]
  apply iff_of_eq
  congr 1
  funext x S
  congr 1
  funext y S
  cases x with
  | int a =>
    cases y with
    | int b => by_cases h : p a b = true <;> simp [h]
    | _ => simp [wE, oE]
  | _ => simp [wE, oE]
theorem wE_chain3' {p q r : IP} : wE (chain3M p q r fa fb fc fd) S Q ↔ wE fa S fun x S => wE fb S fun y S => ∃ a b, x = .int a ∧ y = .int b ∧ if p a b = true then (wE fc S fun z S => ∃ d, z = .int d ∧ if q b d = true then wE (tailM r d fd) S Q else Q (.bl false) S) else Q (.bl false) S := by
  unfold chain3M
  simp only [wE_bind]
  apply iff_of_eq
  congr 1
  funext x S
  congr 1
  funext y S
  cases x with
  | int a =>
    cases y with
    | int b =>
      by_cases h : p a b = true
      · simp only [h, if_true, wE_bind, D.int.injEq, exists_and_left, exists_eq_left']
        congr 1
        funext z S
        cases z with
        | int d => by_cases h2 : q b d = true <;> simp [h2]
        | _ => simp [wE, oE]
      · simp [h]
    | _ => simp [wE, oE]
  | _ => simp [wE, oE]
@[simp] theorem wE_optE0 {g : Option Int → EM} : wE (optE none g) S Q ↔ wE (g none) S Q := Iff.rfl
theorem wE_optE1' {g : Option Int → EM} : wE (optE (some f) g) S Q ↔ wE f S fun d S => ∃ n, d = .int n ∧ wE (g (some n)) S Q := by
  unfold optE
  rw [wE_bind]
  apply iff_of_eq
  congr 1
  funext z S
  cases z <;> simp [wE, oE]
@[simp] theorem wE_slice {lo hi : Option EM} : wE (sliceM fe lo hi) S Q ↔ wE fe S fun d S => wE (optE lo fun l => optE hi fun h => optM (sliceD d l h)) S Q := wE_bind
theorem wE_app' : wE (appM i fe) S Q ↔ ∃ o xs, S[i]? = some (.lst o xs) ∧ wE fe S fun d S => ∃ xs, S[i]? = some (.lst true xs) ∧ xs.length < 1000000 ∧ Q .non (S.set i (.lst true (xs ++ [d]))) := by
  have e : wE (appM i fe) S Q ↔ ∃ o xs, S[i]? = some (.lst o xs) ∧ wE (bindM fe fun d => modS i fun xs => if xs.length < 1000000 then some (.non, xs ++ [d]) else none) S Q := by
    simp only [wE, appM, lstS]
    cases h : S[i]? with
    | none => simp [oE]
    | some d => cases d <;> simp [oE]
  rw [e]
  simp only [wE_bind]
  have e2 : ∀ (d : D) (S : S0), (wE (modS i fun xs => if xs.length < 1000000 then some (.non, xs ++ [d]) else none) S Q) = (∃ xs, S[i]? = some (.lst true xs) ∧ xs.length < 1000000 ∧ Q .non (S.set i (.lst true (xs ++ [d])))) := by
    intro d S
    simp only [wE, modS]
    cases h : S[i]? with
    | none => simp [oE]
    | some x =>
      cases x with
      | lst o xs =>
        cases o with
        | false => simp [oE]
        | true => by_cases hl : xs.length < 1000000 <;> simp [hl, oE]
      | _ => simp [oE]
  simp only [e2]
@[simp] theorem wS_seq {f g : SM} : wS (seqM f g) S QS ↔ wS f S fun fl S' => match fl with
    | .nx => wS g S' QS
    | fl => QS fl S' := by
  simp only [wS, seqM]
  match f S with
  | none => exact Iff.rfl
  | some (.nx, _) => exact Iff.rfl
  | some (.rt _, _) => exact Iff.rfl
  | some (.bk, _) => exact Iff.rfl
  | some (.ct, _) => exact Iff.rfl
  | some (.ex _, _) => exact Iff.rfl
@[simp] theorem wS_skip : wS skipM S QS ↔ QS .nx S := Iff.rfl
@[simp] theorem wS_fail : wS failM S QS ↔ False := Iff.rfl
@[simp] theorem wS_raise {x g : Str} {fe : EM} : wS (raiseM x g fe) S QS ↔ False := by
  simp only [wS, raiseM]
  match fe S with
  | none => exact Iff.rfl
  | some (.ok _, _) => exact Iff.rfl
  | some (.ex _, _) => exact Iff.rfl
@[simp] theorem wS_raise0 {x : Str} : wS (raise0M x) S QS ↔ False := Iff.rfl
@[simp] theorem wS_bindS {g : D → SM} : wS (bindS f g) S QS ↔ wE f S fun d S => wS (g d) S QS := by
  simp only [wS, wE, bindS]
  match f S with
  | none => exact Iff.rfl
  | some (.ok _, _) => exact Iff.rfl
  | some (.ex _, _) => exact Iff.rfl
@[simp] theorem wS_ret : wS (retS fe) S QS ↔ wE fe S fun d S => QS (.rt d) S := wS_bindS
@[simp] theorem wS_expr : wS (exprS fe) S QS ↔ wE fe S fun _ S => QS .nx S := wS_bindS
@[simp] theorem wS_bk : wS (fun S => some (.bk, S)) S QS ↔ QS .bk S := Iff.rfl
@[simp] theorem wS_ct : wS (fun S => some (.ct, S)) S QS ↔ QS .ct S := Iff.rfl
@[simp] theorem wS_asg {g : GM} : wS (asgM fe g) S QS ↔ wE fe S fun d S => wG g d S fun S => QS .nx S := by
  unfold asgM
  rw [wS_bindS]
  apply iff_of_eq
  congr 1
  funext d S
  simp only [wS, wG]
  cases g d S <;> rfl
@[simp] theorem wS_br {b : Bool} {f g : SM} : wS (brS (.bl b) f g) S QS ↔ if b = true then wS f S QS else wS g S QS := by cases b <;> simp [brS]
@[simp] theorem wS_if {f g : SM} : wS (ifS fc f g) S QS ↔ wE fc S fun d S => wS (brS d f g) S QS := wS_bindS
@[simp] theorem wS_par2 {j : Nat} {fs : List EM} : wS (par2M i j fs) S QS ↔ wS (asgM (tupM fs) (gTupM 2 (gConsM (gSetM i) (gConsM (gSetM j) gNilM)))) S QS := Iff.rfl
@[simp] theorem wS_par3 {j l : Nat} {fs : List EM} : wS (par3M i j l fs) S QS ↔ wS (asgM (tupM fs) (gTupM 3 (gConsM (gSetM i) (gConsM (gSetM j) (gConsM (gSetM l) gNilM))))) S QS := Iff.rfl
@[simp] theorem wG_set {d : D} : wG (gSetM i) d S QG ↔ i < S.length ∧ QG (S.set i d) := by
  simp only [wG, gSetM]
  by_cases h : i < S.length <;> simp [h, oG]
@[simp] theorem wG_tup {n : Nat} {gs : GMs} {ds : List D} : wG (gTupM n gs) (.tup ds) S QG ↔ ds.length = n ∧ wGs gs ds S QG := by
  simp only [wG, gTupM, wGs]
  by_cases h : ds.length = n <;> simp [h, oG]
@[simp] theorem wG_lst {n : Nat} {gs : GMs} {ds : List D} {o : Bool} : wG (gTupM n gs) (.lst o ds) S QG ↔ ds.length = n ∧ wGs gs ds S QG := by
  simp only [wG, gTupM, wGs]
  by_cases h : ds.length = n <;> simp [h, oG]
@[simp] theorem wGs_nil : wGs gNilM [] S QG ↔ QG S := Iff.rfl
@[simp] theorem wGs_cons {g : GM} {gs : GMs} {d : D} {ds : List D} : wGs (gConsM g gs) (d :: ds) S QG ↔ wG g d S fun S => wGs gs ds S QG := by
  simp only [wG, wGs, gConsM]
  cases g d S <;> rfl
theorem wG_sub' {fk : EM} {d : D} : wG (gSubM i fk) d S QG ↔ (∃ o xs, S[i]? = some (.lst o xs)) ∧ wE fk S fun k S => ∃ n, k = .int n ∧ ∃ xs, S[i]? = some (.lst true xs) ∧ ∃ m, ixN xs.length n = some m ∧ QG (S.set i (.lst true (xs.set m d))) := by
  simp only [wG, gSubM, wE]
  cases h : S[i]? with
  | none => simp [oG]
  | some x =>
    cases x with
    | lst o xs =>
      simp only [Option.some.injEq, D.lst.injEq, exists_and_left, exists_eq', and_true, true_and]
      match fk S with
      | none => simp [oG, oE]
      | some (.ex _, _) => simp [oG, oE]
      | some (.ok k, S1) =>
        simp only [oE]
        cases k with
        | int n =>
          simp only [D.int.injEq, exists_eq_left']
          cases h1 : S1[i]? with
          | none => simp [oG]
          | some y =>
            cases y with
            | lst o ys =>
              cases o with
              | false => simp [oG]
              | true => cases h2 : ixN ys.length n <;> simp [h2, oG]
            | _ => simp [oG]
        | _ => simp [oG]
    | _ => simp [oG]
theorem wF_def {mask : List Bool} {N : Nat} {body : SM} {ds : List D} {QF : D → List D → Prop} : wF (defM mask N body) ds QF ↔ wS body (ds ++ List.replicate (N - mask.length) .un) fun fl S => match fl with
    | .rt d => QF d (maskM mask S)
    | .nx => QF .non (maskM mask S)
    | _ => False := by
  simp only [wF, defM, wS]
  generalize body (ds ++ List.replicate (N - mask.length) .un) = o
  match o with
  | none => exact Iff.rfl
  | some (.nx, _) => exact Iff.rfl
  | some (.rt _, _) => exact Iff.rfl
  | some (.bk, _) => exact Iff.rfl
  | some (.ct, _) => exact Iff.rfl
  | some (.ex _, _) => exact Iff.rfl
theorem wF_pick {ix inv : List Nat} {dd : List D} {m : Fn} {ds : List D} {QF : D → List D → Prop} : wF (pickF ix inv dd m) ds QF ↔ wF m (pick .un ix (ds ++ dd)) fun r as => as.length = ix.length ∧ QF r ((pick .un inv as).take ds.length) := by
  simp only [wF, pickF]
  match m (pick .un ix (ds ++ dd)) with
  | none => exact Iff.rfl
  | some (.ok r, as) => by_cases h : as.length = ix.length <;> simp [h, oE]
  | some (.ex r, as) => by_cases h : as.length = ix.length <;> simp [h, oE]
@[simp] theorem wS_for {fi : IM} {g : GM} {body : SM} : wS (WF.forM fi g body) S QS ↔ wI fi S fun ds l S => l = [] ∧ wS (loopM g body ds) S QS := by
  simp only [wS, WF.forM, wI]
  match fi S with
  | none => exact Iff.rfl
  | some (.ok ds [], S) => simp [oI]
  | some (.ok ds (_ :: _), S) => simp [oI, oS]
  | some (.ex _, S) => simp [oI, oS]
theorem wS_loop0 {g : GM} {body : SM} : wS (loopM g body []) S QS ↔ QS .nx S := Iff.rfl
theorem wS_loop1 {g : GM} {body : SM} {d : D} {ds : List D} : wS (loopM g body (d :: ds)) S QS ↔ wG g d S fun S => wS body S fun fl S => match fl with
    | .nx => wS (loopM g body ds) S QS
    | .ct => wS (loopM g body ds) S QS
    | .bk => QS .nx S
    | fl => QS fl S := by
  have e : loopM g body (d :: ds) S = match g d S with
    | none => none
    | some S1 => match body S1 with
      | some (.nx, S2) => loopM g body ds S2
      | some (.ct, S2) => loopM g body ds S2
      | some (.bk, S2) => some (.nx, S2)
      | o => o := rfl
  simp only [wS, wG, e]
  cases g d S with
  | none => exact Iff.rfl
  | some S1 =>
    simp only [oG]
    match body S1 with
    | none => exact Iff.rfl
    | some (.nx, _) => exact Iff.rfl
    | some (.rt _, _) => exact Iff.rfl
    | some (.bk, _) => exact Iff.rfl
    | some (.ct, _) => exact Iff.rfl
    | some (.ex _, _) => exact Iff.rfl
theorem wI_seq' : wI (seqI fe) S QI ↔ wE fe S fun d S => ∃ ds, itemsD d = some ds ∧ QI ds [] S := by
  simp only [wI, seqI, wE, bindI]
  match fe S with
  | none => exact Iff.rfl
  | some (.ex _, _) => exact Iff.rfl
  | some (.ok d, S) => cases h : itemsD d <;> simp [optI, oI, oE, h]
theorem wI_rng1' : wI (rng1M fa) S QI ↔ wE fa S fun d S => ∃ n, d = .int n ∧ -(2 ^ 62) ≤ n ∧ n < 2 ^ 62 ∧ QI (rngD 0 n.toNat) [] S := by
  simp only [wI, rng1M, wE, bindI]
  match fa S with
  | none => exact Iff.rfl
  | some (.ex _, _) => exact Iff.rfl
  | some (.ok d, S) =>
    cases d with
    | int n =>
      simp only [oE]
      by_cases h : -(2 ^ 62) ≤ n ∧ n < 2 ^ 62
      · rw [if_pos h]
        exact ⟨fun q => ⟨n, rfl, h.1, h.2, q⟩, fun ⟨_, e, _, _, q⟩ => by cases e; exact q⟩
      · rw [if_neg h]
        exact ⟨fun q => q.elim, fun ⟨_, e, a, b, q⟩ => by cases e; exact h ⟨a, b⟩⟩
    | _ => simp [oI, oE]
theorem wI_rng2' : wI (rng2M fa fb) S QI ↔ wE fa S fun d S => wE fb S fun e S => ∃ a b, d = .int a ∧ e = .int b ∧ (-(2 ^ 62) ≤ a ∧ a < 2 ^ 62 ∧ -(2 ^ 62) ≤ b ∧ b < 2 ^ 62) ∧ QI (rngD a (b - a).toNat) [] S := by
  simp only [wI, rng2M, wE, bindI]
  match fa S with
  | none => exact Iff.rfl
  | some (.ex _, _) => exact Iff.rfl
  | some (.ok d, S) =>
    simp only [oE]
    match fb S with
    | none => exact Iff.rfl
    | some (.ex _, _) => exact Iff.rfl
    | some (.ok e, S) =>
      cases d with
      | int a =>
        cases e with
        | int b =>
          simp only []
          by_cases h : -(2 ^ 62) ≤ a ∧ a < 2 ^ 62 ∧ -(2 ^ 62) ≤ b ∧ b < 2 ^ 62
          · rw [if_pos h]
            exact ⟨fun q => ⟨a, b, rfl, rfl, h, q⟩, fun ⟨_, _, e, e2, _, q⟩ => by cases e; cases e2; exact q⟩
          · rw [if_neg h]
            exact ⟨fun q => q.elim, fun ⟨_, _, e, e2, h2, q⟩ => by cases e; cases e2; exact h h2⟩
        | _ => simp [oI, oE]
      | _ => simp [oI, oE]
def walkK (comb : List (List D) → Option (List D)) (av : List Av) : IM := fun S => match takeA av S with
  | some (ds, S1) => match seqVs ds with
    | some (xss, ds') => match comb xss with
      | some ys => some (.ok ys (lentA av ds'), S1)
      | none => none
    | none => none
  | none => none
@[simp] theorem wI_walk {comb : List (List D) → Option (List D)} {as : List Ar} : wI (walkM comb as) S QI ↔ wI (argsAI as (walkK comb)) S QI := Iff.rfl
@[simp] theorem wI_args0 {g : List Av → IM} : wI (argsAI [] g) S QI ↔ wI (g []) S QI := Iff.rfl
@[simp] theorem wI_argsv {g : List Av → IM} {r : List Ar} : wI (argsAI (.v f :: r) g) S QI ↔ wE f S fun d S => wI (argsAI r fun ds => g (.inl d :: ds)) S QI := by
  have e : argsAI (.v f :: r) g S = bindI f (fun d => argsAI r fun ds => g (.inl d :: ds)) S := rfl
  simp only [wI, e, wE, bindI]
  match f S with
  | none => exact Iff.rfl
  | some (.ex _, _) => exact Iff.rfl
  | some (.ok d, S) => exact Iff.rfl
@[simp] theorem wI_argss {g : List Av → IM} {r : List Ar} : wI (argsAI (.s i :: r) g) S QI ↔ rd S[i]? fun d => isUn d = false ∧ wI (argsAI r fun ds => g (.inr i :: ds)) S QI := by
  have e : argsAI (.s i :: r) g S = match S[i]? with
    | some d => if isUn d then none else argsAI r (fun ds => g (.inr i :: ds)) S
    | none => none := rfl
  simp only [wI, e]
  cases h : S[i]? with
  | none => simp [oI]
  | some d => cases hu : isUn d <;> simp [hu, oI]
theorem wI_walkK' {comb : List (List D) → Option (List D)} {av : List Av} : wI (walkK comb av) S QI ↔ ∃ ds S1, takeA av S = some (ds, S1) ∧ ∃ xss ds', seqVs ds = some (xss, ds') ∧ ∃ ys, comb xss = some ys ∧ QI ys (lentA av ds') S1 := by
  constructor
  · intro q
    simp only [wI, walkK] at q
    cases h : takeA av S with
    | none => rw [h] at q; exact q.elim
    | some o =>
      obtain ⟨ds, S1⟩ := o
      rw [h] at q
      simp only at q
      cases h1 : seqVs ds with
      | none => rw [h1] at q; exact q.elim
      | some o =>
        obtain ⟨xss, ds'⟩ := o
        rw [h1] at q
        simp only at q
        cases h2 : comb xss with
        | none => rw [h2] at q; exact q.elim
        | some ys => rw [h2] at q; exact ⟨_, _, rfl, _, _, h1, _, h2, q⟩
  · rintro ⟨ds, S1, h, xss, ds', h1, ys, h2, q⟩
    simp only [wI, walkK, h, h1, h2]
    exact q
@[simp] theorem wE_comp {own : List Nat} {fi : IM} {g : GM} {ft : Option EM} : wE (compM own fi g ft fe) S Q ↔ wI fi S fun ds l S1 => own.all (fun k => decide (k < S1.length)) = true ∧ wC own g ft fe ds (wipeS S1 own) [] fun acc S2 => Q (.lst true acc) (restS l (backS S1 S2 own)) := by
  simp only [wE, compM, wI, wC]
  match fi S with
  | none => exact Iff.rfl
  | some (.ex _, _) => exact Iff.rfl
  | some (.ok ds l, S1) =>
    simp only [oI]
    by_cases h : own.all (fun k => decide (k < S1.length)) = true
    · simp only [h, if_true, true_and]
      match compL own g ft fe ds (wipeS S1 own) [] with
      | none => exact Iff.rfl
      | some (acc, S2) => exact Iff.rfl
    · simp [h, oE]
theorem wC_nil {own : List Nat} {g : GM} {ft : Option EM} {acc : List D} {QC : List D → S0 → Prop} : wC own g ft fe [] S acc QC ↔ QC acc S := Iff.rfl
theorem wC_cons0 {own : List Nat} {g : GM} {d : D} {ds acc : List D} {QC : List D → S0 → Prop} : wC own g none fe (d :: ds) S acc QC ↔ wG g d S fun S => wE fe S fun y S => acc.length < 1000000 ∧ wC own g none fe ds (wipeS S own) (acc ++ [y]) QC := by
  have e : compL own g none fe (d :: ds) S acc = match g d S with
    | none => none
    | some S1 => match fe S1 with
        | some (.ok y, S3) => if acc.length < 1000000 then compL own g none fe ds (wipeS S3 own) (acc ++ [y]) else none
        | _ => none := by
    rw [compL]
    cases g d S <;> rfl
  simp only [wC, wG, e, wE]
  cases g d S with
  | none => exact Iff.rfl
  | some S1 =>
    simp only [oG]
    match fe S1 with
    | none => exact Iff.rfl
    | some (.ex _, _) => exact Iff.rfl
    | some (.ok y, S3) => by_cases h : acc.length < 1000000 <;> simp [h, oE, oC]
theorem wC_cons1' {own : List Nat} {g : GM} {d : D} {ds acc : List D} {QC : List D → S0 → Prop} : wC own g (some f) fe (d :: ds) S acc QC ↔ wG g d S fun S => wE f S fun b S => ∃ t, b = .bl t ∧ if t = true then (wE fe S fun y S => acc.length < 1000000 ∧ wC own g (some f) fe ds (wipeS S own) (acc ++ [y]) QC) else wC own g (some f) fe ds (wipeS S own) acc QC := by
  simp only [wC, wG, wE]
  rw [compL]
  cases g d S with
  | none => exact Iff.rfl
  | some S1 =>
    simp only [oG, tstM]
    match f S1 with
    | none => exact Iff.rfl
    | some (.ex _, _) => exact Iff.rfl
    | some (.ok b, S2) =>
      cases b with
      | bl t =>
        cases t with
        | false => simp [oE]
        | true =>
          simp only [oE, D.bl.injEq, exists_eq_left', if_true]
          match fe S2 with
          | none => exact Iff.rfl
          | some (.ex _, _) => exact Iff.rfl
          | some (.ok y, S3) => by_cases h : acc.length < 1000000 <;> simp [h, oC]
      | _ => simp [oE, oC]
def asI : D → Option Int
  | .int n => some n
  | _ => none
def asB : D → Option Bool
  | .bl n => some n
  | _ => none
def asL : D → Option (List D)
  | .lst _ n => some n
  | _ => none
def asO : D → Option (List D)
  | .lst true n => some n
  | _ => none
@[simp] theorem asI_int {n : Int} : asI (.int n) = some n := rfl
@[simp] theorem asB_bl {n : Bool} : asB (.bl n) = some n := rfl
@[simp] theorem asL_lst {o : Bool} {n : List D} : asL (.lst o n) = some n := rfl
@[simp] theorem asO_lst {n : List D} : asO (.lst true n) = some n := rfl
theorem asI_is {d : D} {n : Int} : asI d = some n ↔ d = .int n := by cases d <;> simp [asI]
theorem asB_is {d : D} {n : Bool} : asB d = some n ↔ d = .bl n := by cases d <;> simp [asB]
theorem asL_is {d : D} {n : List D} : asL d = some n ↔ ∃ o, d = .lst o n := by cases d <;> simp [asL]
theorem asO_is {d : D} {n : List D} : asO d = some n ↔ d = .lst true n := by
  cases d with
  | lst o n => cases o <;> simp [asO]
  | _ => simp [asO]
@[simp] theorem wE_tail {q : IP} {b : Int} : wE (tailM q b fc) S Q ↔ wE fc S fun z S => rd (asI z) fun c => Q (.bl (q b c)) S := by
  rw [wE_tail']; simp only [rd, asI_is]
@[simp] theorem wE_chain2 {p q : IP} : wE (chain2M p q fa fb fc) S Q ↔ wE fa S fun x S => wE fb S fun y S => rd (asI x) fun a => rd (asI y) fun b => if p a b = true then wE (tailM q b fc) S Q else Q (.bl false) S := by
  rw [wE_chain2']; simp only [rd, asI_is, exists_and_left]
@[simp] theorem wE_chain3 {p q r : IP} : wE (chain3M p q r fa fb fc fd) S Q ↔ wE fa S fun x S => wE fb S fun y S => rd (asI x) fun a => rd (asI y) fun b => if p a b = true then (wE fc S fun z S => rd (asI z) fun d => if q b d = true then wE (tailM r d fd) S Q else Q (.bl false) S) else Q (.bl false) S := by
  rw [wE_chain3']; simp only [rd, asI_is, exists_and_left]
@[simp] theorem wE_optE1 {g : Option Int → EM} : wE (optE (some f) g) S Q ↔ wE f S fun d S => rd (asI d) fun n => wE (g (some n)) S Q := by
  rw [wE_optE1']; simp only [rd, asI_is]
@[simp] theorem wE_app : wE (appM i fe) S Q ↔ rd (S[i]?.bind asL) fun _ => wE fe S fun d S => rd (S[i]?.bind asO) fun xs => xs.length < 1000000 ∧ Q .non (S.set i (.lst true (xs ++ [d]))) := by
  rw [wE_app']
  simp only [rd, Option.bind_eq_some_iff, asL_is, asO_is]
  constructor
  · rintro ⟨o, xs, h, q⟩
    refine ⟨xs, ⟨_, h, o, rfl⟩, q.mono fun d S ⟨xs, h, q⟩ => ⟨xs, ⟨_, h, rfl⟩, q⟩⟩
  · rintro ⟨xs, ⟨_, h, o, rfl⟩, q⟩
    exact ⟨o, xs, h, q.mono fun d S ⟨xs, ⟨_, h, e⟩, q⟩ => ⟨xs, by rw [h, e], q⟩⟩
@[simp] theorem wG_sub {fk : EM} {d : D} : wG (gSubM i fk) d S QG ↔ rd (S[i]?.bind asL) fun _ => wE fk S fun k S => rd (asI k) fun n => rd (S[i]?.bind asO) fun xs => rd (ixN xs.length n) fun m => QG (S.set i (.lst true (xs.set m d))) := by
  rw [wG_sub']
  simp only [rd, Option.bind_eq_some_iff, asL_is, asO_is, asI_is]
  constructor
  · rintro ⟨⟨o, xs, h⟩, q⟩
    refine ⟨xs, ⟨_, h, o, rfl⟩, q.mono fun k S ⟨n, e, xs, h, m, h2, q⟩ => ⟨n, e, xs, ⟨_, h, rfl⟩, m, h2, q⟩⟩
  · rintro ⟨xs, ⟨_, h, o, rfl⟩, q⟩
    exact ⟨⟨o, xs, h⟩, q.mono fun k S ⟨n, e, xs, ⟨_, h, e2⟩, m, h2, q⟩ => ⟨n, e, xs, by rw [h, e2], m, h2, q⟩⟩
@[simp] theorem wI_seq : wI (seqI fe) S QI ↔ wE fe S fun d S => rd (itemsD d) fun ds => QI ds [] S := wI_seq'
@[simp] theorem wI_rng1 : wI (rng1M fa) S QI ↔ wE fa S fun d S => rd (asI d) fun n => (-(2 ^ 62) ≤ n ∧ n < 2 ^ 62) ∧ QI (rngD 0 n.toNat) [] S := by
  rw [wI_rng1']; simp only [rd, asI_is, and_assoc]
@[simp] theorem wI_rng2 : wI (rng2M fa fb) S QI ↔ wE fa S fun d S => wE fb S fun e S => rd (asI d) fun a => rd (asI e) fun b => (-(2 ^ 62) ≤ a ∧ a < 2 ^ 62 ∧ -(2 ^ 62) ≤ b ∧ b < 2 ^ 62) ∧ QI (rngD a (b - a).toNat) [] S := by
  rw [wI_rng2']; simp only [rd, asI_is, exists_and_left]
@[simp] theorem wI_walkK {comb : List (List D) → Option (List D)} {av : List Av} : wI (walkK comb av) S QI ↔ rd (takeA av S) fun p => rd (seqVs p.1) fun q => rd (comb q.1) fun ys => QI ys (lentA av q.2) p.2 := by
  rw [wI_walkK']
  exact ⟨fun ⟨ds, S1, h, xss, ds', h1, ys, h2, q⟩ => ⟨_, h, _, h1, _, h2, q⟩, fun ⟨p, h, q, h1, ys, h2, z⟩ => ⟨p.1, p.2, h, q.1, q.2, h1, ys, h2, z⟩⟩
theorem wC_cons1 {own : List Nat} {g : GM} {d : D} {ds acc : List D} {QC : List D → S0 → Prop} : wC own g (some f) fe (d :: ds) S acc QC ↔ wG g d S fun S => wE f S fun b S => rd (asB b) fun t => if t = true then (wE fe S fun y S => acc.length < 1000000 ∧ wC own g (some f) fe ds (wipeS S own) (acc ++ [y]) QC) else wC own g (some f) fe ds (wipeS S own) acc QC := by
  rw [wC_cons1']; simp only [rd, asB_is]
end
end WF0
namespace WF
open PySem L2
structure Tg {α : Sort u} (q : α) : Type
@[irreducible] def wE (f : EM) (S : S0) (Q : D → S0 → Prop) (t : Tg Q := ⟨⟩) : Prop := WF0.wE f S Q
@[irreducible] def wS (f : SM) (S : S0) (Q : Fl → S0 → Prop) (t : Tg Q := ⟨⟩) : Prop := WF0.wS f S Q
@[irreducible] def wI (f : IM) (S : S0) (Q : List D → List (Nat × D) → S0 → Prop) (t : Tg Q := ⟨⟩) : Prop := WF0.wI f S Q
@[irreducible] def wG (g : GM) (d : D) (S : S0) (Q : S0 → Prop) (t : Tg Q := ⟨⟩) : Prop := WF0.wG g d S Q
@[irreducible] def wGs (g : GMs) (d : List D) (S : S0) (Q : S0 → Prop) (t : Tg Q := ⟨⟩) : Prop := WF0.wGs g d S Q
@[irreducible] def wF (m : Fn) (ds : List D) (Q : D → List D → Prop) (t : Tg Q := ⟨⟩) : Prop := WF0.wF m ds Q
@[irreducible] def wC (own : List Nat) (g : GM) (ft : Option EM) (fe : EM) (ds : List D) (S : S0) (acc : List D) (Q : List D → S0 → Prop) (t : Tg Q := ⟨⟩) : Prop := WF0.wC own g ft fe ds S acc Q
@[irreducible] def rd {α : Type} (o : Option α) (P : α → Prop) (t : Tg P := ⟨⟩) : Prop := WF0.rd o P
abbrev asI := WF0.asI
abbrev asB := WF0.asB
abbrev asL := WF0.asL
abbrev asO := WF0.asO
abbrev callK := WF0.callK
abbrev roK := WF0.roK
abbrev walkK := WF0.walkK
section
variable {α : Type} {P : α → Prop}
@[simp] theorem rd_some {d : α} : rd (some d) P ↔ P d := by
  (try unfold wE); (try unfold wS); (try unfold wI); (try unfold wG); (try unfold wGs); (try unfold wF); (try unfold wC); (try unfold rd)
  exact WF0.rd_some
@[simp] theorem rd_none : rd none P ↔ False := by
  (try unfold wE); (try unfold wS); (try unfold wI); (try unfold wG); (try unfold wGs); (try unfold wF); (try unfold wC); (try unfold rd)
  exact WF0.rd_none
@[simp] theorem rd_ite {c : Prop} [Decidable c] {o : Option α} : rd (if c then o else none) P ↔ c ∧ rd o P := by
  (try unfold wE); (try unfold wS); (try unfold wI); (try unfold wG); (try unfold wGs); (try unfold wF); (try unfold wC); (try unfold rd)
  exact WF0.rd_ite
@[simp] theorem rd_map {β : Type} {o : Option β} {g : β → α} : rd (o.map g) P ↔ rd o fun b => P (g b) := by
  (try unfold wE); (try unfold wS); (try unfold wI); (try unfold wG); (try unfold wGs); (try unfold wF); (try unfold wC); (try unfold rd)
  exact WF0.rd_map
@[simp] theorem rd_bind {β : Type} {o : Option β} {g : β → Option α} : rd (o.bind g) P ↔ rd o fun b => rd (g b) P := by
  (try unfold wE); (try unfold wS); (try unfold wI); (try unfold wG); (try unfold wGs); (try unfold wF); (try unfold wC); (try unfold rd)
  exact WF0.rd_bind
end
section
variable {S : S0} {Q : D → S0 → Prop} {QS : Fl → S0 → Prop} {QI : List D → List (Nat × D) → S0 → Prop} {QG : S0 → Prop} {f fa fb fc fd fe : EM} {i : Nat}
theorem wE.mono {Q' : D → S0 → Prop} (h : wE f S Q) (q : ∀ d S, Q d S → Q' d S) : wE f S Q' := by
  revert h
  (try unfold wE); (try unfold wS); (try unfold wI); (try unfold wG); (try unfold wGs); (try unfold wF); (try unfold wC); (try unfold rd)
  exact fun h => WF0.wE.mono h q
theorem wF.mono {m : Fn} {ds : List D} {Q Q' : D → List D → Prop} (h : wF m ds Q) (q : ∀ d S, Q d S → Q' d S) : wF m ds Q' := by
  revert h
  (try unfold wE); (try unfold wS); (try unfold wI); (try unfold wG); (try unfold wGs); (try unfold wF); (try unfold wC); (try unfold rd)
  exact fun h => WF0.wF.mono h q
theorem wS.mono {f : SM} {Q' : Fl → S0 → Prop} (h : wS f S QS) (q : ∀ d S, QS d S → Q' d S) : wS f S Q' := by
  revert h
  (try unfold wE); (try unfold wS); (try unfold wI); (try unfold wG); (try unfold wGs); (try unfold wF); (try unfold wC); (try unfold rd)
  exact fun h => WF0.wS.mono h q
@[simp] theorem wE_ret {d : D} : wE (retM d) S Q ↔ Q d S := by
  (try unfold wE); (try unfold wS); (try unfold wI); (try unfold wG); (try unfold wGs); (try unfold wF); (try unfold wC); (try unfold rd)
  exact WF0.wE_ret
@[simp] theorem wE_bind {g : D → EM} : wE (bindM f g) S Q ↔ wE f S fun d S' => wE (g d) S' Q := by
  (try unfold wE); (try unfold wS); (try unfold wI); (try unfold wG); (try unfold wGs); (try unfold wF); (try unfold wC); (try unfold rd)
  exact WF0.wE_bind
@[simp] theorem wE_opt {o : Option D} : wE (optM o) S Q ↔ rd o fun d => Q d S := by
  (try unfold wE); (try unfold wS); (try unfold wI); (try unfold wG); (try unfold wGs); (try unfold wF); (try unfold wC); (try unfold rd)
  exact WF0.wE_opt
@[simp] theorem wE_var : wE (varM i) S Q ↔ rd S[i]? fun d => isUn d = false ∧ Q d.frz (S.set i d.frz) := by
  (try unfold wE); (try unfold wS); (try unfold wI); (try unfold wG); (try unfold wGs); (try unfold wF); (try unfold wC); (try unfold rd)
  exact WF0.wE_var
@[simp] theorem wE_take : wE (takeM i) S Q ↔ rd S[i]? fun d => isUn d = false ∧ Q d (S.set i .un) := by
  (try unfold wE); (try unfold wS); (try unfold wI); (try unfold wG); (try unfold wGs); (try unfold wF); (try unfold wC); (try unfold rd)
  exact WF0.wE_take
@[simp] theorem wE_bin {op : D → D → Option D} : wE (binM op fa fb) S Q ↔ wE fa S fun x S => wE fb S fun y S => rd (op x y) fun d => Q d S := by
  (try unfold wE); (try unfold wS); (try unfold wI); (try unfold wG); (try unfold wGs); (try unfold wF); (try unfold wC); (try unfold rd)
  exact WF0.wE_bin
@[simp] theorem wE_un {op : D → Option D} : wE (unM op fa) S Q ↔ wE fa S fun x S => rd (op x) fun d => Q d S := by
  (try unfold wE); (try unfold wS); (try unfold wI); (try unfold wG); (try unfold wGs); (try unfold wF); (try unfold wC); (try unfold rd)
  exact WF0.wE_un
@[simp] theorem wE_args0 {g : List D → EM} : wE (argsM [] g) S Q ↔ wE (g []) S Q := by
  (try unfold wE); (try unfold wS); (try unfold wI); (try unfold wG); (try unfold wGs); (try unfold wF); (try unfold wC); (try unfold rd)
  exact WF0.wE_args0
@[simp] theorem wE_args1 {g : List D → EM} {fs : List EM} : wE (argsM (f :: fs) g) S Q ↔ wE f S fun d S => wE (argsM fs fun ds => g (d :: ds)) S Q := by
  (try unfold wE); (try unfold wS); (try unfold wI); (try unfold wG); (try unfold wGs); (try unfold wF); (try unfold wC); (try unfold rd)
  exact WF0.wE_args1
@[simp] theorem wE_tup {fs : List EM} : wE (tupM fs) S Q ↔ wE (argsM fs fun ds => retM (.tup ds)) S Q := by
  (try unfold wE); (try unfold wS); (try unfold wI); (try unfold wG); (try unfold wGs); (try unfold wF); (try unfold wC); (try unfold rd)
  exact WF0.wE_tup
@[simp] theorem wE_lst {fs : List EM} : wE (lstM fs) S Q ↔ wE (argsM fs fun ds => retM (.lst true ds)) S Q := by
  (try unfold wE); (try unfold wS); (try unfold wI); (try unfold wG); (try unfold wGs); (try unfold wF); (try unfold wC); (try unfold rd)
  exact WF0.wE_lst
@[simp] theorem wE_cb {op : List D → Option D} {fs : List EM} : wE (cbM op fs) S Q ↔ wE (argsM fs fun ds => optM (op ds)) S Q := by
  (try unfold wE); (try unfold wS); (try unfold wI); (try unfold wG); (try unfold wGs); (try unfold wF); (try unfold wC); (try unfold rd)
  exact WF0.wE_cb
@[simp] theorem wE_br {b : Bool} : wE (brM (.bl b) fa fb) S Q ↔ if b = true then wE fa S Q else wE fb S Q := by
  (try unfold wE); (try unfold wS); (try unfold wI); (try unfold wG); (try unfold wGs); (try unfold wF); (try unfold wC); (try unfold rd)
  exact WF0.wE_br
@[simp] theorem wE_and : wE (andM fa fb) S Q ↔ wE fa S fun d S => wE (brM d fb (retM (.bl false))) S Q := by
  (try unfold wE); (try unfold wS); (try unfold wI); (try unfold wG); (try unfold wGs); (try unfold wF); (try unfold wC); (try unfold rd)
  exact WF0.wE_and
@[simp] theorem wE_or : wE (orM fa fb) S Q ↔ wE fa S fun d S => wE (brM d (retM (.bl true)) fb) S Q := by
  (try unfold wE); (try unfold wS); (try unfold wI); (try unfold wG); (try unfold wGs); (try unfold wF); (try unfold wC); (try unfold rd)
  exact WF0.wE_or
@[simp] theorem wE_not : wE (notM fa) S Q ↔ wE fa S fun d S => wE (brM d (retM (.bl false)) (retM (.bl true))) S Q := by
  (try unfold wE); (try unfold wS); (try unfold wI); (try unfold wG); (try unfold wGs); (try unfold wF); (try unfold wC); (try unfold rd)
  exact WF0.wE_not
@[simp] theorem wE_if : wE (ifM fc fa fb) S Q ↔ wE fc S fun d S => wE (brM d fa fb) S Q := by
  (try unfold wE); (try unfold wS); (try unfold wI); (try unfold wG); (try unfold wGs); (try unfold wF); (try unfold wC); (try unfold rd)
  exact WF0.wE_if
@[simp] theorem wE_argsA0 {g : List Av → EM} : wE (argsA [] g) S Q ↔ wE (g []) S Q := by
  (try unfold wE); (try unfold wS); (try unfold wI); (try unfold wG); (try unfold wGs); (try unfold wF); (try unfold wC); (try unfold rd)
  exact WF0.wE_argsA0
@[simp] theorem wE_argsAv {g : List Av → EM} {r : List Ar} : wE (argsA (.v f :: r) g) S Q ↔ wE f S fun d S => wE (argsA r fun ds => g (.inl d :: ds)) S Q := by
  (try unfold wE); (try unfold wS); (try unfold wI); (try unfold wG); (try unfold wGs); (try unfold wF); (try unfold wC); (try unfold rd)
  exact WF0.wE_argsAv
@[simp] theorem wE_argsAs {g : List Av → EM} {r : List Ar} : wE (argsA (.s i :: r) g) S Q ↔ rd S[i]? fun d => isUn d = false ∧ wE (argsA r fun ds => g (.inr i :: ds)) S Q := by
  (try unfold wE); (try unfold wS); (try unfold wI); (try unfold wG); (try unfold wGs); (try unfold wF); (try unfold wC); (try unfold rd)
  exact WF0.wE_argsAs
@[simp] theorem wE_call {m : Fn} {as : List Ar} : wE (callM m as) S Q ↔ wE (argsA as (callK m)) S Q := by
  (try unfold wE); (try unfold wS); (try unfold wI); (try unfold wG); (try unfold wGs); (try unfold wF); (try unfold wC); (try unfold rd)
  exact WF0.wE_call
@[simp] theorem wE_callK {m : Fn} {av : List Av} : wE (callK m av) S Q ↔ rd (takeA av S) fun p => wF m p.1 fun r ds' => ds'.length = av.length ∧ Q r (putA av ds' p.2) := by
  (try unfold wE); (try unfold wS); (try unfold wI); (try unfold wG); (try unfold wGs); (try unfold wF); (try unfold wC); (try unfold rd)
  exact WF0.wE_callK
@[simp] theorem wE_ro {op : List D → Option D} {as : List Ar} : wE (roM op as) S Q ↔ wE (argsA as (roK op)) S Q := by
  (try unfold wE); (try unfold wS); (try unfold wI); (try unfold wG); (try unfold wGs); (try unfold wF); (try unfold wC); (try unfold rd)
  exact WF0.wE_ro
@[simp] theorem wE_roK {op : List D → Option D} {av : List Av} : wE (roK op av) S Q ↔ rd (takeA av S) fun p => rd (op p.1) fun d => p.1.length = av.length ∧ Q d (putA av p.1 p.2) := by
  (try unfold wE); (try unfold wS); (try unfold wI); (try unfold wG); (try unfold wGs); (try unfold wF); (try unfold wC); (try unfold rd)
  exact WF0.wE_roK
@[simp] theorem wE_has : wE (hasM i f) S Q ↔ rd S[i]? fun d => isUn d = false ∧ wE f S Q := by
  (try unfold wE); (try unfold wS); (try unfold wI); (try unfold wG); (try unfold wGs); (try unfold wF); (try unfold wC); (try unfold rd)
  exact WF0.wE_has
@[simp] theorem wE_ixS : wE (ixS i fb) S Q ↔ wE fb S fun k S => rd S[i]? fun d => rd (ixO d k) fun p => isUn d = false ∧ Q p.1 (S.set i p.2) := by
  (try unfold wE); (try unfold wS); (try unfold wI); (try unfold wG); (try unfold wGs); (try unfold wF); (try unfold wC); (try unfold rd)
  exact WF0.wE_ixS
@[simp] theorem wE_optE0 {g : Option Int → EM} : wE (optE none g) S Q ↔ wE (g none) S Q := by
  (try unfold wE); (try unfold wS); (try unfold wI); (try unfold wG); (try unfold wGs); (try unfold wF); (try unfold wC); (try unfold rd)
  exact WF0.wE_optE0
@[simp] theorem wE_slice {lo hi : Option EM} : wE (sliceM fe lo hi) S Q ↔ wE fe S fun d S => wE (optE lo fun l => optE hi fun h => optM (sliceD d l h)) S Q := by
  (try unfold wE); (try unfold wS); (try unfold wI); (try unfold wG); (try unfold wGs); (try unfold wF); (try unfold wC); (try unfold rd)
  exact WF0.wE_slice
@[simp] theorem wS_seq {f g : SM} : wS (seqM f g) S QS ↔ wS f S fun fl S' => match fl with
    | .nx => wS g S' QS
    | fl => QS fl S' := by
  (try unfold wE); (try unfold wS); (try unfold wI); (try unfold wG); (try unfold wGs); (try unfold wF); (try unfold wC); (try unfold rd)
  exact WF0.wS_seq
@[simp] theorem wS_skip : wS skipM S QS ↔ QS .nx S := by
  (try unfold wE); (try unfold wS); (try unfold wI); (try unfold wG); (try unfold wGs); (try unfold wF); (try unfold wC); (try unfold rd)
  exact WF0.wS_skip
@[simp] theorem wS_fail : wS failM S QS ↔ False := by
  (try unfold wE); (try unfold wS); (try unfold wI); (try unfold wG); (try unfold wGs); (try unfold wF); (try unfold wC); (try unfold rd)
  exact WF0.wS_fail
@[simp] theorem wS_raise {x g : Str} {fe : EM} : wS (raiseM x g fe) S QS ↔ False := by
  (try unfold wS); exact WF0.wS_raise
@[simp] theorem wS_raise0 {x : Str} : wS (raise0M x) S QS ↔ False := by
  (try unfold wS); exact WF0.wS_raise0
@[simp] theorem wS_bindS {g : D → SM} : wS (bindS f g) S QS ↔ wE f S fun d S => wS (g d) S QS := by
  (try unfold wE); (try unfold wS); (try unfold wI); (try unfold wG); (try unfold wGs); (try unfold wF); (try unfold wC); (try unfold rd)
  exact WF0.wS_bindS
@[simp] theorem wS_ret : wS (retS fe) S QS ↔ wE fe S fun d S => QS (.rt d) S := by
  (try unfold wE); (try unfold wS); (try unfold wI); (try unfold wG); (try unfold wGs); (try unfold wF); (try unfold wC); (try unfold rd)
  exact WF0.wS_ret
@[simp] theorem wS_expr : wS (exprS fe) S QS ↔ wE fe S fun _ S => QS .nx S := by
  (try unfold wE); (try unfold wS); (try unfold wI); (try unfold wG); (try unfold wGs); (try unfold wF); (try unfold wC); (try unfold rd)
  exact WF0.wS_expr
@[simp] theorem wS_bk : wS (fun S => some (.bk, S)) S QS ↔ QS .bk S := by
  (try unfold wE); (try unfold wS); (try unfold wI); (try unfold wG); (try unfold wGs); (try unfold wF); (try unfold wC); (try unfold rd)
  exact WF0.wS_bk
@[simp] theorem wS_ct : wS (fun S => some (.ct, S)) S QS ↔ QS .ct S := by
  (try unfold wE); (try unfold wS); (try unfold wI); (try unfold wG); (try unfold wGs); (try unfold wF); (try unfold wC); (try unfold rd)
  exact WF0.wS_ct
@[simp] theorem wS_asg {g : GM} : wS (asgM fe g) S QS ↔ wE fe S fun d S => wG g d S fun S => QS .nx S := by
  (try unfold wE); (try unfold wS); (try unfold wI); (try unfold wG); (try unfold wGs); (try unfold wF); (try unfold wC); (try unfold rd)
  exact WF0.wS_asg
@[simp] theorem wS_br {b : Bool} {f g : SM} : wS (brS (.bl b) f g) S QS ↔ if b = true then wS f S QS else wS g S QS := by
  (try unfold wE); (try unfold wS); (try unfold wI); (try unfold wG); (try unfold wGs); (try unfold wF); (try unfold wC); (try unfold rd)
  exact WF0.wS_br
@[simp] theorem wS_if {f g : SM} : wS (ifS fc f g) S QS ↔ wE fc S fun d S => wS (brS d f g) S QS := by
  (try unfold wE); (try unfold wS); (try unfold wI); (try unfold wG); (try unfold wGs); (try unfold wF); (try unfold wC); (try unfold rd)
  exact WF0.wS_if
@[simp] theorem wS_par2 {j : Nat} {fs : List EM} : wS (par2M i j fs) S QS ↔ wS (asgM (tupM fs) (gTupM 2 (gConsM (gSetM i) (gConsM (gSetM j) gNilM)))) S QS := by
  (try unfold wE); (try unfold wS); (try unfold wI); (try unfold wG); (try unfold wGs); (try unfold wF); (try unfold wC); (try unfold rd)
  exact WF0.wS_par2
@[simp] theorem wS_par3 {j l : Nat} {fs : List EM} : wS (par3M i j l fs) S QS ↔ wS (asgM (tupM fs) (gTupM 3 (gConsM (gSetM i) (gConsM (gSetM j) (gConsM (gSetM l) gNilM))))) S QS := by
  (try unfold wE); (try unfold wS); (try unfold wI); (try unfold wG); (try unfold wGs); (try unfold wF); (try unfold wC); (try unfold rd)
  exact WF0.wS_par3
@[simp] theorem wG_set {d : D} : wG (gSetM i) d S QG ↔ i < S.length ∧ QG (S.set i d) := by
  (try unfold wE); (try unfold wS); (try unfold wI); (try unfold wG); (try unfold wGs); (try unfold wF); (try unfold wC); (try unfold rd)
  exact WF0.wG_set
@[simp] theorem wG_tup {n : Nat} {gs : GMs} {ds : List D} : wG (gTupM n gs) (.tup ds) S QG ↔ ds.length = n ∧ wGs gs ds S QG := by
  (try unfold wE); (try unfold wS); (try unfold wI); (try unfold wG); (try unfold wGs); (try unfold wF); (try unfold wC); (try unfold rd)
  exact WF0.wG_tup
@[simp] theorem wG_lst {n : Nat} {gs : GMs} {ds : List D} {o : Bool} : wG (gTupM n gs) (.lst o ds) S QG ↔ ds.length = n ∧ wGs gs ds S QG := by
  (try unfold wE); (try unfold wS); (try unfold wI); (try unfold wG); (try unfold wGs); (try unfold wF); (try unfold wC); (try unfold rd)
  exact WF0.wG_lst
@[simp] theorem wGs_nil : wGs gNilM [] S QG ↔ QG S := by
  (try unfold wE); (try unfold wS); (try unfold wI); (try unfold wG); (try unfold wGs); (try unfold wF); (try unfold wC); (try unfold rd)
  exact WF0.wGs_nil
@[simp] theorem wGs_cons {g : GM} {gs : GMs} {d : D} {ds : List D} : wGs (gConsM g gs) (d :: ds) S QG ↔ wG g d S fun S => wGs gs ds S QG := by
  (try unfold wE); (try unfold wS); (try unfold wI); (try unfold wG); (try unfold wGs); (try unfold wF); (try unfold wC); (try unfold rd)
  exact WF0.wGs_cons
theorem wF_def {mask : List Bool} {N : Nat} {body : SM} {ds : List D} {QF : D → List D → Prop} : wF (defM mask N body) ds QF ↔ wS body (ds ++ List.replicate (N - mask.length) .un) fun fl S => match fl with
    | .rt d => QF d (maskM mask S)
    | .nx => QF .non (maskM mask S)
    | _ => False := by
  (try unfold wE); (try unfold wS); (try unfold wI); (try unfold wG); (try unfold wGs); (try unfold wF); (try unfold wC); (try unfold rd)
  exact WF0.wF_def
theorem wF_pick {ix inv : List Nat} {dd : List D} {m : Fn} {ds : List D} {QF : D → List D → Prop} : wF (pickF ix inv dd m) ds QF ↔ wF m (pick .un ix (ds ++ dd)) fun r as => as.length = ix.length ∧ QF r ((pick .un inv as).take ds.length) := by
  (try unfold wE); (try unfold wS); (try unfold wI); (try unfold wG); (try unfold wGs); (try unfold wF); (try unfold wC); (try unfold rd)
  exact WF0.wF_pick
@[simp] theorem wS_for {fi : IM} {g : GM} {body : SM} : wS (WF.forM fi g body) S QS ↔ wI fi S fun ds l S => l = [] ∧ wS (loopM g body ds) S QS := by
  (try unfold wE); (try unfold wS); (try unfold wI); (try unfold wG); (try unfold wGs); (try unfold wF); (try unfold wC); (try unfold rd)
  exact WF0.wS_for
theorem wS_loop0 {g : GM} {body : SM} : wS (loopM g body []) S QS ↔ QS .nx S := by
  (try unfold wE); (try unfold wS); (try unfold wI); (try unfold wG); (try unfold wGs); (try unfold wF); (try unfold wC); (try unfold rd)
  exact WF0.wS_loop0
theorem wS_loop1 {g : GM} {body : SM} {d : D} {ds : List D} : wS (loopM g body (d :: ds)) S QS ↔ wG g d S fun S => wS body S fun fl S => match fl with
    | .nx => wS (loopM g body ds) S QS
    | .ct => wS (loopM g body ds) S QS
    | .bk => QS .nx S
    | fl => QS fl S := by
  (try unfold wE); (try unfold wS); (try unfold wI); (try unfold wG); (try unfold wGs); (try unfold wF); (try unfold wC); (try unfold rd)
  exact WF0.wS_loop1
@[simp] theorem wI_walk {comb : List (List D) → Option (List D)} {as : List Ar} : wI (walkM comb as) S QI ↔ wI (argsAI as (walkK comb)) S QI := by
  (try unfold wE); (try unfold wS); (try unfold wI); (try unfold wG); (try unfold wGs); (try unfold wF); (try unfold wC); (try unfold rd)
  exact WF0.wI_walk
@[simp] theorem wI_args0 {g : List Av → IM} : wI (argsAI [] g) S QI ↔ wI (g []) S QI := by
  (try unfold wE); (try unfold wS); (try unfold wI); (try unfold wG); (try unfold wGs); (try unfold wF); (try unfold wC); (try unfold rd)
  exact WF0.wI_args0
@[simp] theorem wI_argsv {g : List Av → IM} {r : List Ar} : wI (argsAI (.v f :: r) g) S QI ↔ wE f S fun d S => wI (argsAI r fun ds => g (.inl d :: ds)) S QI := by
  (try unfold wE); (try unfold wS); (try unfold wI); (try unfold wG); (try unfold wGs); (try unfold wF); (try unfold wC); (try unfold rd)
  exact WF0.wI_argsv
@[simp] theorem wI_argss {g : List Av → IM} {r : List Ar} : wI (argsAI (.s i :: r) g) S QI ↔ rd S[i]? fun d => isUn d = false ∧ wI (argsAI r fun ds => g (.inr i :: ds)) S QI := by
  (try unfold wE); (try unfold wS); (try unfold wI); (try unfold wG); (try unfold wGs); (try unfold wF); (try unfold wC); (try unfold rd)
  exact WF0.wI_argss
@[simp] theorem wE_comp {own : List Nat} {fi : IM} {g : GM} {ft : Option EM} : wE (compM own fi g ft fe) S Q ↔ wI fi S fun ds l S1 => own.all (fun k => decide (k < S1.length)) = true ∧ wC own g ft fe ds (wipeS S1 own) [] fun acc S2 => Q (.lst true acc) (restS l (backS S1 S2 own)) := by
  (try unfold wE); (try unfold wS); (try unfold wI); (try unfold wG); (try unfold wGs); (try unfold wF); (try unfold wC); (try unfold rd)
  exact WF0.wE_comp
theorem wC_nil {own : List Nat} {g : GM} {ft : Option EM} {acc : List D} {QC : List D → S0 → Prop} : wC own g ft fe [] S acc QC ↔ QC acc S := by
  (try unfold wE); (try unfold wS); (try unfold wI); (try unfold wG); (try unfold wGs); (try unfold wF); (try unfold wC); (try unfold rd)
  exact WF0.wC_nil
theorem wC_cons0 {own : List Nat} {g : GM} {d : D} {ds acc : List D} {QC : List D → S0 → Prop} : wC own g none fe (d :: ds) S acc QC ↔ wG g d S fun S => wE fe S fun y S => acc.length < 1000000 ∧ wC own g none fe ds (wipeS S own) (acc ++ [y]) QC := by
  (try unfold wE); (try unfold wS); (try unfold wI); (try unfold wG); (try unfold wGs); (try unfold wF); (try unfold wC); (try unfold rd)
  exact WF0.wC_cons0
@[simp] theorem asI_int {n : Int} : asI (.int n) = some n := by
  (try unfold wE); (try unfold wS); (try unfold wI); (try unfold wG); (try unfold wGs); (try unfold wF); (try unfold wC); (try unfold rd)
  exact WF0.asI_int
@[simp] theorem asB_bl {n : Bool} : asB (.bl n) = some n := by
  (try unfold wE); (try unfold wS); (try unfold wI); (try unfold wG); (try unfold wGs); (try unfold wF); (try unfold wC); (try unfold rd)
  exact WF0.asB_bl
@[simp] theorem asL_lst {o : Bool} {n : List D} : asL (.lst o n) = some n := by
  (try unfold wE); (try unfold wS); (try unfold wI); (try unfold wG); (try unfold wGs); (try unfold wF); (try unfold wC); (try unfold rd)
  exact WF0.asL_lst
@[simp] theorem asO_lst {n : List D} : asO (.lst true n) = some n := by
  (try unfold wE); (try unfold wS); (try unfold wI); (try unfold wG); (try unfold wGs); (try unfold wF); (try unfold wC); (try unfold rd)
  exact WF0.asO_lst
theorem asI_is {d : D} {n : Int} : asI d = some n ↔ d = .int n := by
  (try unfold wE); (try unfold wS); (try unfold wI); (try unfold wG); (try unfold wGs); (try unfold wF); (try unfold wC); (try unfold rd)
  exact WF0.asI_is
theorem asB_is {d : D} {n : Bool} : asB d = some n ↔ d = .bl n := by
  (try unfold wE); (try unfold wS); (try unfold wI); (try unfold wG); (try unfold wGs); (try unfold wF); (try unfold wC); (try unfold rd)
  exact WF0.asB_is
theorem asL_is {d : D} {n : List D} : asL d = some n ↔ ∃ o, d = .lst o n := by
  (try unfold wE); (try unfold wS); (try unfold wI); (try unfold wG); (try unfold wGs); (try unfold wF); (try unfold wC); (try unfold rd)
  exact WF0.asL_is
theorem asO_is {d : D} {n : List D} : asO d = some n ↔ d = .lst true n := by
  (try unfold wE); (try unfold wS); (try unfold wI); (try unfold wG); (try unfold wGs); (try unfold wF); (try unfold wC); (try unfold rd)
  exact WF0.asO_is
@[simp] theorem wE_tail {q : IP} {b : Int} : wE (tailM q b fc) S Q ↔ wE fc S fun z S => rd (asI z) fun c => Q (.bl (q b c)) S := by
  (try unfold wE); (try unfold wS); (try unfold wI); (try unfold wG); (try unfold wGs); (try unfold wF); (try unfold wC); (try unfold rd)
  exact WF0.wE_tail
@[simp] theorem wE_chain2 {p q : IP} : wE (chain2M p q fa fb fc) S Q ↔ wE fa S fun x S => wE fb S fun y S => rd (asI x) fun a => rd (asI y) fun b => if p a b = true then wE (tailM q b fc) S Q else Q (.bl false) S := by
  (try unfold wE); (try unfold wS); (try unfold wI); (try unfold wG); (try unfold wGs); (try unfold wF); (try unfold wC); (try unfold rd)
  exact WF0.wE_chain2
@[simp] theorem wE_chain3 {p q r : IP} : wE (chain3M p q r fa fb fc fd) S Q ↔ wE fa S fun x S => wE fb S fun y S => rd (asI x) fun a => rd (asI y) fun b => if p a b = true then (wE fc S fun z S => rd (asI z) fun d => if q b d = true then wE (tailM r d fd) S Q else Q (.bl false) S) else Q (.bl false) S := by
  (try unfold wE); (try unfold wS); (try unfold wI); (try unfold wG); (try unfold wGs); (try unfold wF); (try unfold wC); (try unfold rd)
  exact WF0.wE_chain3
@[simp] theorem wE_optE1 {g : Option Int → EM} : wE (optE (some f) g) S Q ↔ wE f S fun d S => rd (asI d) fun n => wE (g (some n)) S Q := by
  (try unfold wE); (try unfold wS); (try unfold wI); (try unfold wG); (try unfold wGs); (try unfold wF); (try unfold wC); (try unfold rd)
  exact WF0.wE_optE1
@[simp] theorem wE_app : wE (appM i fe) S Q ↔ rd (S[i]?.bind asL) fun _ => wE fe S fun d S => rd (S[i]?.bind asO) fun xs => xs.length < 1000000 ∧ Q .non (S.set i (.lst true (xs ++ [d]))) := by
  (try unfold wE); (try unfold wS); (try unfold wI); (try unfold wG); (try unfold wGs); (try unfold wF); (try unfold wC); (try unfold rd)
  exact WF0.wE_app
@[simp] theorem wG_sub {fk : EM} {d : D} : wG (gSubM i fk) d S QG ↔ rd (S[i]?.bind asL) fun _ => wE fk S fun k S => rd (asI k) fun n => rd (S[i]?.bind asO) fun xs => rd (ixN xs.length n) fun m => QG (S.set i (.lst true (xs.set m d))) := by
  (try unfold wE); (try unfold wS); (try unfold wI); (try unfold wG); (try unfold wGs); (try unfold wF); (try unfold wC); (try unfold rd)
  exact WF0.wG_sub
@[simp] theorem wI_seq : wI (seqI fe) S QI ↔ wE fe S fun d S => rd (itemsD d) fun ds => QI ds [] S := by
  (try unfold wE); (try unfold wS); (try unfold wI); (try unfold wG); (try unfold wGs); (try unfold wF); (try unfold wC); (try unfold rd)
  exact WF0.wI_seq
@[simp] theorem wI_rng1 : wI (rng1M fa) S QI ↔ wE fa S fun d S => rd (asI d) fun n => (-(2 ^ 62) ≤ n ∧ n < 2 ^ 62) ∧ QI (rngD 0 n.toNat) [] S := by
  (try unfold wE); (try unfold wS); (try unfold wI); (try unfold wG); (try unfold wGs); (try unfold wF); (try unfold wC); (try unfold rd)
  exact WF0.wI_rng1
@[simp] theorem wI_rng2 : wI (rng2M fa fb) S QI ↔ wE fa S fun d S => wE fb S fun e S => rd (asI d) fun a => rd (asI e) fun b => (-(2 ^ 62) ≤ a ∧ a < 2 ^ 62 ∧ -(2 ^ 62) ≤ b ∧ b < 2 ^ 62) ∧ QI (rngD a (b - a).toNat) [] S := by
  (try unfold wE); (try unfold wS); (try unfold wI); (try unfold wG); (try unfold wGs); (try unfold wF); (try unfold wC); (try unfold rd)
  exact WF0.wI_rng2
@[simp] theorem wI_walkK {comb : List (List D) → Option (List D)} {av : List Av} : wI (walkK comb av) S QI ↔ rd (takeA av S) fun p => rd (seqVs p.1) fun q => rd (comb q.1) fun ys => QI ys (lentA av q.2) p.2 := by
  (try unfold wE); (try unfold wS); (try unfold wI); (try unfold wG); (try unfold wGs); (try unfold wF); (try unfold wC); (try unfold rd)
  exact WF0.wI_walkK
theorem wC_cons1 {own : List Nat} {g : GM} {d : D} {ds acc : List D} {QC : List D → S0 → Prop} : wC own g (some f) fe (d :: ds) S acc QC ↔ wG g d S fun S => wE f S fun b S => rd (asB b) fun t => if t = true then (wE fe S fun y S => acc.length < 1000000 ∧ wC own g (some f) fe ds (wipeS S own) (acc ++ [y]) QC) else wC own g (some f) fe ds (wipeS S own) acc QC := by
  (try unfold wE); (try unfold wS); (try unfold wI); (try unfold wG); (try unfold wGs); (try unfold wF); (try unfold wC); (try unfold rd)
  exact WF0.wC_cons1
end
end WF
namespace WF
open PySem L2
section
variable {S : S0} {i : Nat} {d : D} {xs ys : List D} {a b : Int} {n : D} {o : Bool} {r : List Av} {ds : List D}
@[simp] theorem takeA_nil : takeA [] S = some ([], S) := rfl
@[simp] theorem takeA_v : takeA (.inl d :: r) S = (takeA r S).map fun x => (d :: x.1, x.2) := rfl
@[simp] theorem takeA_s : takeA (.inr i :: r) S = S[i]?.bind fun d => if isUn d = false then (takeA r (S.set i .un)).map fun x => (d :: x.1, x.2) else none := by
  rw [takeA]
  cases S[i]? with
  | none => rfl
  | some d => cases h : isUn d <;> simp [h]
@[simp] theorem putA_nil : putA [] ds S = S := by cases ds <;> rfl
@[simp] theorem putA_v : putA (.inl d :: r) (n :: ds) S = putA r ds S := rfl
@[simp] theorem putA_s : putA (.inr i :: r) (d :: ds) S = (putA r ds S).set i d := rfl
@[simp] theorem isUn_un : isUn .un = true := rfl
@[simp] theorem isUn_non : isUn .non = false := rfl
@[simp] theorem isUn_bl {b : Bool} : isUn (.bl b) = false := rfl
@[simp] theorem isUn_int : isUn (.int a) = false := rfl
@[simp] theorem isUn_str {x : Str} : isUn (.str x) = false := rfl
@[simp] theorem isUn_vl {x : V} : isUn (.vl x) = false := rfl
@[simp] theorem isUn_tup : isUn (.tup xs) = false := rfl
@[simp] theorem isUn_lst : isUn (.lst o xs) = false := rfl
@[simp] theorem isUn_scr {ns : List Int} : isUn (.scr ns) = false := rfl
@[simp] theorem frz_un : D.frz .un = .un := rfl
@[simp] theorem frz_non : D.frz .non = .non := rfl
@[simp] theorem frz_bl {b : Bool} : D.frz (.bl b) = .bl b := rfl
@[simp] theorem frz_int : D.frz (.int a) = .int a := rfl
@[simp] theorem frz_str {x : Str} : D.frz (.str x) = .str x := rfl
@[simp] theorem frz_vl {x : V} : D.frz (.vl x) = .vl x := rfl
@[simp] theorem frz_tup : D.frz (.tup xs) = .tup (D.frzs xs) := rfl
@[simp] theorem frz_lst : D.frz (.lst o xs) = .lst false (D.frzs xs) := rfl
@[simp] theorem frz_scr {ns : List Int} : D.frz (.scr ns) = .scr ns := rfl
@[simp] theorem frzs_nil : D.frzs [] = [] := rfl
@[simp] theorem frzs_cons : D.frzs (d :: xs) = d.frz :: D.frzs xs := rfl
@[simp] theorem frzs_app : D.frzs (xs ++ ys) = D.frzs xs ++ D.frzs ys := by simp [D.frzs_map]
@[simp] theorem frzs_len : (D.frzs xs).length = xs.length := by simp [D.frzs_map]
theorem frzs_id {α : Type} {l : List α} {f : α → D} (h : ∀ x, (f x).frz = f x) : D.frzs (l.map f) = l.map f := by
  rw [D.frzs_map, List.map_map]; exact List.map_congr_left fun x _ => h x
@[simp] theorem frzs_ints {l : List Int} : D.frzs (l.map D.int) = l.map D.int := frzs_id fun _ => rfl
@[simp] theorem frzs_prs {l : List (Int × Int)} : D.frzs (l.map prD) = l.map prD := frzs_id fun _ => rfl
@[simp] theorem frz_prD {p : Int × Int} : D.frz (prD p) = prD p := rfl
@[simp] theorem isUn_prD {p : Int × Int} : isUn (prD p) = false := rfl
@[simp] theorem imm_int : D.imm (.int a) = true := rfl
@[simp] theorem imm_bl {b : Bool} : D.imm (.bl b) = true := rfl
@[simp] theorem imm_non : D.imm .non = true := rfl
@[simp] theorem imm_str {x : Str} : D.imm (.str x) = true := rfl
@[simp] theorem imm_tup : D.imm (.tup xs) = D.imms xs := rfl
@[simp] theorem imms_nil : D.imms [] = true := rfl
@[simp] theorem imms_cons : D.imms (d :: xs) = (d.imm && D.imms xs) := rfl
@[simp] theorem imm_lst : D.imm (.lst o xs) = false := rfl
@[simp] theorem op2_two {op : D → D → Option D} {x y : D} : op2 op [x, y] = op x y := rfl
@[simp] theorem intD_int {C : Int → Int → Bool} {g : Int → Int → D} : intD C g (.int a) (.int b) = if C a b = true then some (g a b) else none := rfl
@[simp] theorem addD_int : addD (.int a) (.int b) = some (.int (a + b)) := rfl
@[simp] theorem addD_lst {o' : Bool} : addD (.lst o xs) (.lst o' ys) = if xs.length + ys.length ≤ 1000000 then some (.lst true (xs ++ ys)) else none := rfl
@[simp] theorem addD_tup : addD (.tup xs) (.tup ys) = if xs.length + ys.length ≤ 1000000 then some (.tup (xs ++ ys)) else none := rfl
@[simp] theorem mulD2_int : mulD2 (.int a) (.int b) = if a.natAbs < 2 ^ 64 ∨ b.natAbs < 2 ^ 64 then some (.int (a * b)) else none := by simp [mulD2, mulD]
@[simp] theorem negD_int : negD (.int a) = some (.int (-a)) := rfl
@[simp] theorem ltD_int : ltD (.int a) (.int b) = some (.bl (decide (a < b))) := rfl
@[simp] theorem lenD_lst : lenD [.lst o xs] = some (.int xs.length) := rfl
@[simp] theorem lenD_tup : lenD [.tup xs] = some (.int xs.length) := rfl
@[simp] theorem lenD_scr {ns : List Int} : lenD [.scr ns] = some (.int ns.length) := rfl
@[simp] theorem absD_int : absD [.int a] = some (.int (if a < 0 then -a else a)) := rfl
@[simp] theorem intD1_int : intD1 [.int a] = some (.int a) := rfl
@[simp] theorem intD1_bl {b : Bool} : intD1 [.bl b] = some (.int (if b = true then 1 else 0)) := rfl
@[simp] theorem maxD2_int : maxD2 [.int a, .int b] = some (.int (if b > a then b else a)) := rfl
@[simp] theorem minD2_int : minD2 [.int a, .int b] = some (.int (if b < a then b else a)) := rfl
@[simp] theorem divmodD_int : divmodD [.int a, .int b] = if 0 < b ∧ b < 2 ^ 64 then some (.tup [.int (a / b), .int (a % b)]) else none := rfl
@[simp] theorem tupleD_lst : tupleD [.lst o xs] = some (.tup xs) := rfl
@[simp] theorem tupleD_tup : tupleD [.tup xs] = some (.tup xs) := rfl
@[simp] theorem listD_lst : listD [.lst o xs] = some (.lst true xs) := rfl
@[simp] theorem listD_tup : listD [.tup xs] = some (.lst true xs) := rfl
@[simp] theorem itemsD_lst : itemsD (.lst o xs) = some (D.frzs xs) := rfl
@[simp] theorem itemsD_tup : itemsD (.tup xs) = some (D.frzs xs) := rfl
@[simp] theorem intsD_map' {l : List Int} : intsD (l.map D.int) = some l := by
  induction l with
  | nil => rfl
  | cons a l ih => simp [intsD, ih]
@[simp] theorem intsD_cons : intsD (.int a :: xs) = (intsD xs).map (a :: ·) := rfl
@[simp] theorem intsD_nil : intsD [] = some [] := rfl
@[simp] theorem boolsD_map' {l : List Bool} : boolsD (l.map D.bl) = some l := by
  induction l with
  | nil => rfl
  | cons a l ih => simp [boolsD, ih]
@[simp] theorem sumD_lst : sumD [.lst o xs] = (intsD xs).map fun ns => .int ns.sum := rfl
@[simp] theorem allD_lst : allD [.lst o xs] = (boolsD xs).map fun ns => .bl (ns.all id) := rfl
@[simp] theorem anyD_lst : anyD [.lst o xs] = (boolsD xs).map fun ns => .bl (ns.any id) := rfl
@[simp] theorem ixD_lst : ixD (.lst o xs) (.int a) = atI (D.frzs xs) a := rfl
@[simp] theorem ixD_tup : ixD (.tup xs) (.int a) = atI (D.frzs xs) a := rfl
@[simp] theorem ixO_tup : ixO (.tup xs) (.int a) = (atI (D.frzs xs) a).map fun x => (x, .tup (D.frzs xs)) := rfl
@[simp] theorem ixO_lf : ixO (.lst false xs) (.int a) = (atI xs a).map fun x => (x, .lst false xs) := rfl
@[simp] theorem ixO_lo : ixO (.lst true xs) (.int a) = (atI xs a).bind fun x => if x.imm = true then some (x, .lst true xs) else (atI (D.frzs xs) a).map fun y => (y, .lst false (D.frzs xs)) := by
  have e : ixO (.lst true xs) (.int a) = match atI xs a with
    | some x => if x.imm = true then some (x, .lst true xs) else (atI (D.frzs xs) a).map fun y => (y, .lst false (D.frzs xs))
    | none => none := rfl
  rw [e]
  cases atI xs a <;> rfl
@[simp] theorem ixO_scr {ns : List Int} : ixO (.scr ns) (.int a) = (atI ns a).map fun x => (.int x, .scr ns) := rfl
theorem atI_nat {α : Type} {xs : List α} {k : Nat} : atI xs (k : Int) = xs[k]? := by
  unfold atI ixN
  by_cases h : k < xs.length
  · simp [h]
  · simp [h]
@[simp] theorem atI_0 {α : Type} {x : α} {xs : List α} : atI (x :: xs) 0 = some x := by
  have := atI_nat (xs := x :: xs) (k := 0); simpa using this
@[simp] theorem atI_1 {α : Type} {x y : α} {xs : List α} : atI (x :: y :: xs) 1 = some y := by
  have := atI_nat (xs := x :: y :: xs) (k := 1); simpa using this
@[simp] theorem atI_2 {α : Type} {x y z : α} {xs : List α} : atI (x :: y :: z :: xs) 2 = some z := by
  have := atI_nat (xs := x :: y :: z :: xs) (k := 2); simpa using this
@[simp] theorem ixN_32 : ixN 3 2 = some 2 := rfl
@[simp] theorem ixN_31 : ixN 3 1 = some 1 := rfl
@[simp] theorem ixN_30 : ixN 3 0 = some 0 := rfl
@[simp] theorem ixN_0 {n : Nat} : ixN (n + 1) 0 = some 0 := by simp [ixN]
@[simp] theorem seqVs_nil : seqVs [] = some ([], []) := rfl
@[simp] theorem seqVs_cons : seqVs (d :: ds) = (seqV d).bind fun p => (seqVs ds).map fun q => (p.1 :: q.1, p.2 :: q.2) := by
  rw [seqVs]
  cases seqV d <;> cases seqVs ds <;> rfl
@[simp] theorem seqV_tup : seqV (.tup xs) = some (D.frzs xs, .tup (D.frzs xs)) := rfl
@[simp] theorem seqV_lst : seqV (.lst o xs) = some (D.frzs xs, .lst o (D.frzs xs)) := rfl
@[simp] theorem lentA_nil : lentA [] ds = [] := by cases ds <;> rfl
@[simp] theorem lentA_v : lentA (.inl d :: r) (n :: ds) = lentA r ds := rfl
@[simp] theorem lentA_s : lentA (.inr i :: r) (d :: ds) = (i, d) :: lentA r ds := rfl
@[simp] theorem comb1_one : comb1 [xs] = some xs := rfl
@[simp] theorem zip2D_two {s : Bool} : zip2D s [xs, ys] = if (s && xs.length != ys.length) = false then some (List.zipWith (fun x y => .tup [x, y]) xs ys) else none := by
  unfold zip2D
  cases h : (s && xs.length != ys.length) <;> simp_all
@[simp] theorem wipeS_nil : wipeS S [] = S := rfl
@[simp] theorem wipeS_cons {v : Nat} {vs : List Nat} : wipeS S (v :: vs) = (wipeS S vs).set v .un := rfl
@[simp] theorem backS_nil {A : S0} : backS A S [] = S := rfl
@[simp] theorem backS_cons {A : S0} {v : Nat} {vs : List Nat} : backS A S (v :: vs) = backS A (S.set v (A.getD v .un)) vs := rfl
@[simp] theorem restS_nil : restS [] S = S := rfl
@[simp] theorem restS_cons {l : List (Nat × D)} {x : Nat × D} : restS (x :: l) S = restS l (S.set x.1 x.2) := rfl
@[simp] theorem maskM_nil : maskM [] S = [] := by cases S <;> rfl
@[simp] theorem maskM_cons {b : Bool} {bs : List Bool} : maskM (b :: bs) (d :: S) = (if b = true then d else .un) :: maskM bs S := rfl
@[simp] theorem sliceD_lst {lo hi : Option Int} : sliceD (.lst o xs) lo hi = some (.lst true (cutD xs lo hi)) := rfl
@[simp] theorem sliceD_tup {lo hi : Option Int} : sliceD (.tup xs) lo hi = some (.tup (cutD xs lo hi)) := rfl
@[simp] theorem sliceD_scr {ns : List Int} {lo hi : Option Int} : sliceD (.scr ns) lo hi = some (.lst true (cutD (ns.map .int) lo hi)) := rfl
@[simp] theorem pick_nil' {α : Type} {x : α} {zs : List α} : pick x [] zs = [] := rfl
@[simp] theorem pick_cons' {α : Type} {x : α} {zs : List α} {k : Nat} {ks : List Nat} : pick x (k :: ks) zs = zs.getD k x :: pick x ks zs := rfl
end
end WF
namespace WF
open PySem L2
@[simp] theorem gx0 {α : Type} {x : α} {xs : List α} : (x :: xs)[0]? = some x := rfl
@[simp] theorem gx1 {α : Type} {x : α} {xs : List α} {n : Nat} : (x :: xs)[n + 1]? = xs[n]? := rfl
theorem rd_ex {α : Type} {o : Option α} {P : α → Prop} : rd o P ↔ ∃ d, o = some d ∧ P d := by unfold rd; exact Iff.rfl
theorem wG.mono {g : GM} {d : D} {S : S0} {Q Q' : S0 → Prop} (h : wG g d S Q) (q : ∀ S, Q S → Q' S) : wG g d S Q' := by
  unfold wG at h ⊢
  have h : WF0.oG (g d S) Q := h
  show WF0.oG (g d S) Q'
  cases e : g d S with
  | none => rw [e] at h; exact h
  | some S' => rw [e] at h; exact q S' h
theorem loop_ind {g : GM} {body : SM} {Q : Fl → S0 → Prop} (I : List D → S0 → Prop)
    (step : ∀ d ds S, I (d :: ds) S → wG g d S fun S => wS body S fun fl S => match fl with
      | .nx => I ds S
      | .ct => I ds S
      | .bk => Q .nx S
      | fl => Q fl S) (fin : ∀ S, I [] S → Q .nx S) : ∀ {ds : List D} {S : S0}, I ds S → wS (loopM g body ds) S Q
  | [], S, h => wS_loop0.mpr (fin S h)
  | d :: ds, S, h => by
    rw [wS_loop1]
    refine wG.mono (step d ds S h) fun S q => wS.mono q fun fl S q => ?_
    cases fl with
    | nx => exact loop_ind I step fin q
    | ct => exact loop_ind I step fin q
    | bk => exact q
    | rt d => exact q
    | ex x => exact q
theorem comp_ind0 {own : List Nat} {g : GM} {fe : EM} {Q : List D → S0 → Prop} (I : List D → List D → S0 → Prop)
    (step : ∀ d ds acc S, I (d :: ds) acc S → wG g d S fun S => wE fe S fun y S => acc.length < 1000000 ∧ I ds (acc ++ [y]) (wipeS S own)) (fin : ∀ acc S, I [] acc S → Q acc S) : ∀ {ds acc : List D} {S : S0}, I ds acc S → wC own g none fe ds S acc Q
  | [], acc, S, h => wC_nil.mpr (fin acc S h)
  | d :: ds, acc, S, h => by
    rw [wC_cons0]
    exact wG.mono (step d ds acc S h) fun S q => wE.mono q fun y S ⟨q1, q2⟩ => ⟨q1, comp_ind0 I step fin q2⟩
theorem comp_ind1 {own : List Nat} {g : GM} {f fe : EM} {Q : List D → S0 → Prop} (I : List D → List D → S0 → Prop)
    (step : ∀ d ds acc S, I (d :: ds) acc S → wG g d S fun S => wE f S fun b S => rd (asB b) fun t => if t = true then (wE fe S fun y S => acc.length < 1000000 ∧ I ds (acc ++ [y]) (wipeS S own)) else I ds acc (wipeS S own)) (fin : ∀ acc S, I [] acc S → Q acc S) : ∀ {ds acc : List D} {S : S0}, I ds acc S → wC own g (some f) fe ds S acc Q
  | [], acc, S, h => wC_nil.mpr (fin acc S h)
  | d :: ds, acc, S, h => by
    rw [wC_cons1]
    refine wG.mono (step d ds acc S h) fun S q => wE.mono q fun b S q => ?_
    obtain ⟨t, e, q⟩ := rd_ex.mp q
    refine rd_ex.mpr ⟨t, e, ?_⟩
    cases t with
    | true => exact wE.mono q fun y S ⟨q1, q2⟩ => ⟨q1, comp_ind1 I step fin q2⟩
    | false => exact comp_ind1 I step fin q
end WF
namespace WF
open PySem PySem.Spec PyProof.Rows L2
section
variable {prog : Program} {w : World} {A : Around} {E : Value → Shared → Prop} {s : Shared} {i : Nat} {z TI TO : Addr} {qs : List Sr} {old : Array Value} {strict f1 : Bool} {f0 : Value}
end
end WF
namespace WF
open PySem PySem.Spec PyProof.Rows L2
section
variable {prog : Program} {w : World} {A : Around} {E : Value → Shared → Prop} {s : Shared} {i : Nat} {e z TI TO : Addr} {qs : List Sr} {ol : Array Value} {strict f1 : Bool} {f0 old : Value}
end
end WF
namespace WF
open PySem PySem.Spec PyProof.Rows L2
section
variable {prog : Program} {w : World} {A : Around} {E : Value → Shared → Prop} {s : Shared}
end
end WF
namespace WF
open PySem PySem.Spec PyProof.Rows L2
section
variable {X : Cx} {pins : List (Addr × Obj)} {σ : L2.St} {H : Hp} {s : Shared}
variable {e : Expr} {es : List Expr} {p pos p2 pos2 tpos kpos cpos : Pos} {elts : List Expr} {kk j : Nat} {ta : TA}
end
end WF
namespace WF
open PySem PySem.Spec PyProof.Rows L2
def numD (R : List D) : List D := R.zipIdx.map fun p => .tup [.int (p.2 : Nat), p.1]
def enumZD (xss : List (List D)) : Option (List D) := (zip2D true xss).map numD
section
variable {K : PySem.W.Frag} {H : Hp} {ds : List D} {xss : List (List D)} {vs : List V} {Rr : List D}
end
section
variable {c : Cfg} {X : Cx} {p pos p2 pos2 tpos kpos cpos : Pos} {elts : List Expr} {kk j : Nat} {e1 e2 : Expr} {y1 y2 : Ar}
end
end WF
namespace WF
open PySem PySem.Spec PyProof.Rows L2
def frzM (fe : EM) : EM := bindM fe fun d => retM d.frz
theorem w_frz {c : Cfg} {X : Cx} {e : Expr} {fe : EM} (h : PE X e (T c fe)) : PE X e (T c (frzM fe)) := by
  refine pe_mono h fun σ H Q h => ?_
  obtain ⟨S, tm, j, p⟩ := h
  refine (post_bind j p).mono fun v H1 ⟨d, S1, j1, p1⟩ => ?_
  exact p1 v H1 (j1.put j1.take.freeze.drop)
@[simp] theorem wE_frz {fe : EM} {S : S0} {Q : D → S0 → Prop} : wE (frzM fe) S Q ↔ wE fe S fun d S => Q d.frz S := by
  rw [frzM, wE_bind]
  exact ⟨fun h => h.mono fun d S q => wE_ret.mp q, fun h => h.mono fun d S q => wE_ret.mpr q⟩
end WF
namespace WF
open PySem PySem.Spec PyProof.Rows L2
section
variable {K : PySem.W.Frag} {H H' : Hp} {L L' R : List Pr} {p : Addr} {ds ds' : List D} {vs vs' : List V}
theorem JX.close0 (hl : vs'.length = ds'.length) (hp : H p = some (.lst vs')) (j : JX K H p (vs'.zip ds' ++ R)) : Joint K H ((.ref p, .lst true ds') :: R) := by
  obtain ⟨G, fp, g, r, n, z, gp, np⟩ := j
  obtain ⟨f1, f2, rfl, r1, r2⟩ := r.unappend
  exact ⟨G, p :: (f1 ++ f2), g, .lo hp (zip_fst hl) (zip_snd hl) r1 r2, List.nodup_cons.mpr ⟨np, n⟩, fun a m => by
    rcases List.mem_cons.mp m with rfl | m
    · exact gp
    · exact z a m⟩
theorem JX.app2 {v0 v : V} {d : D} {ys : List D} (j : JX K H p ((v0, .lst true ys) :: (v, d) :: R)) : ∃ u us, v0 = .ref u ∧ H u = some (.lst us) ∧ us.length = ys.length ∧ u ≠ p ∧ JX K (L2.upd H u (.lst (us ++ [v]))) p ((.ref u, .lst true (ys ++ [d])) :: R) := by
  obtain ⟨G, fp, g, r, n, z, gp, np⟩ := j
  cases r with
  | @lo u C us ys f L fp2 a b e r1 r2 =>
    subst b e
    obtain ⟨f3, f4, rfl, r3, r4⟩ := r2.uncons
    obtain ⟨n1, n2⟩ := List.nodup_cons.mp n
    have gu : G u = none := z u List.mem_cons_self
    have hne : u ≠ p := fun q => np (by rw [← q]; exact List.mem_cons_self)
    have g' : GSub G (L2.upd H u (.lst (C.map Prod.fst ++ [v]))) := fun a o e => by
      rw [upd_ne (ne_of_none e gu)]
      exact g a o e
    have mv : ∀ {L : List Pr} {f : List Addr}, Reps K G H L f → u ∉ f → Reps K G (L2.upd H u (.lst (C.map Prod.fst ++ [v]))) L f := fun r h => r.mono .refl fun a o m e => by
      rw [upd_ne (fun q => h (by rw [← q]; exact m))]
      exact e
    have m1 : u ∉ f := fun q => n1 (List.mem_append_left _ q)
    have m3 : u ∉ f3 := fun q => n1 (List.mem_append_right _ (List.mem_append_left _ q))
    have m4 : u ∉ f4 := fun q => n1 (List.mem_append_right _ (List.mem_append_right _ q))
    have r13 : Reps K G (L2.upd H u (.lst (C.map Prod.fst ++ [v]))) (C ++ [(v, d)]) (f ++ f3) := (mv r1 m1).append (mv r3 m3)
    refine ⟨u, _, rfl, a, by simp, hne, G, u :: ((f ++ f3) ++ f4), g', .lo upd_same (by simp) (by simp) r13 (mv r4 m4), ?_, ?_, gp, ?_⟩
    · rw [List.append_assoc]; exact n
    · rw [List.append_assoc]; exact z
    · rw [List.append_assoc]; exact np
theorem zip_at : ∀ {vs : List V} {ds : List D} {m : Nat} {v : V} {d : D}, vs[m]? = some v → ds[m]? = some d → vs.length = ds.length → ∃ Z, (vs.zip ds).Perm ((v, d) :: Z) ∧ ∀ d', (vs.zip (ds.set m d')).Perm ((v, d') :: Z)
  | u :: vs, x :: ds, 0, v, d, h1, h2, _ => by
    cases h1; cases h2
    exact ⟨vs.zip ds, .refl _, fun _ => .refl _⟩
  | u :: vs, x :: ds, m + 1, v, d, h1, h2, h => by
    obtain ⟨Z, p1, p2⟩ := zip_at (vs := vs) (ds := ds) (m := m) (by simpa using h1) (by simpa using h2) (by simpa using h)
    exact ⟨(u, x) :: Z, (List.Perm.cons _ p1).trans (List.Perm.swap _ _ _), fun d' => (List.Perm.cons _ (p2 d')).trans (List.Perm.swap _ _ _)⟩
  | [], _, _, _, _, h, _, _ => by simp at h
  | _ :: _, [], _, _, _, _, h, _ => by simp at h
end
def prM (f : S0 → Option (D × S0)) : EM := fun S => (f S).map fun p => (.ok p.1, p.2)
@[simp] theorem wE_pr {f : S0 → Option (D × S0)} {S : S0} {Q : D → S0 → Prop} : wE (prM f) S Q ↔ rd (f S) fun p => Q p.1 p.2 := by
  unfold wE rd
  show WF0.oE (prM f S) Q ↔ _
  unfold prM
  cases h : f S with
  | none => simp [WF0.oE, WF0.rd]
  | some p => simp [WF0.oE, WF0.rd]
theorem post_pr {c : Cfg} {f : S0 → Option (D × S0)} {S : S0} {tm : List Pr} {σ : L2.St} {Q : VK} (p : post c (prM f S) tm σ Q) : ∃ r, f S = some r ∧ ∀ v H, SJ c r.2 ((v, r.1) :: tm) σ H → Q v H := by
  unfold prM at p
  cases h : f S with
  | none => rw [h] at p; exact p.elim
  | some r => rw [h] at p; exact ⟨r, rfl, p⟩
def app2K (i j : Nat) (kd : D) : EM := prM fun S => (asI kd).bind fun k => (S[i]?.bind asO).bind fun xs => S[j]?.bind fun d => (ixN xs.length k).bind fun m => (xs[m]?.bind asO).bind fun ys =>
  if i ≠ j ∧ isUn d = false ∧ ys.length < 1000000 then some (.non, (S.set j d.frz).set i (.lst true (xs.set m (.lst true (ys ++ [d.frz]))))) else none
def app2M (i : Nat) (fb : EM) (j : Nat) : EM := lstS i (bindM fb (app2K i j))
section
variable {c : Cfg} {X : Cx} {S : S0} {tm tm0 : List Pr} {σ : L2.St} {H : Hp} {i j : Nat} {a b e o : Expr} {fa fb fe : EM} {pos apos : Pos}
theorem t_app2 (hK : c.K = X.K) {Q : VK} (h : T c (app2M i fb j) σ H Q) : tBM X.K "list" rAppend (tOp (rIx X.K) (tVar i) (T c fb)) (tCons (tVar j) tNil) σ H Q := by
  obtain ⟨S, tm, jj, p⟩ := h
  obtain ⟨q, vs0, ev, hp0, p⟩ := lst_get jj p
  refine ⟨_, ev, (post_bind jj p).mono fun kv H1 ⟨kd, S1, j1, p1⟩ => ?_⟩
  obtain ⟨r, hr, p1⟩ := post_pr p1
  simp only [Option.bind_eq_some_iff] at hr
  obtain ⟨k, hk, xs, ⟨x, hdi, hx⟩, d, hdj, m, hm, ys, ⟨y, hys, hy⟩, hr⟩ := hr
  rw [WF0.asI_is] at hk
  rw [WF0.asO_is] at hx hy
  subst hk hx hy
  split at hr
  case isFalse => cases hr
  rename_i hc
  cases hr
  obtain ⟨hij, hud, hlt⟩ := hc
  have ek := j1.take.is_int
  obtain ⟨w, ew, Z0, k0, put0⟩ := (j1.drop).get hdj hud
  have j2 : SJ c (S1.set j d.frz) ((w, d.frz) :: tm) σ H1 := put0 d.frz [(w, d.frz)] H1 k0.freeze
  have hdi2 : (S1.set j d.frz)[i]? = some (.lst true xs) := by rw [List.getElem?_set_ne (fun e => hij e.symm)]; exact hdi
  obtain ⟨v', ev', Z, k2, put⟩ := j2.get2 hdi2 rfl
  have e0 : v' = .ref q := by rw [ev] at ev'; exact (Option.some.inj (Option.some.inj ev')).symm
  subst e0
  obtain ⟨vs, hq, hl, kx⟩ := k2.sw.openL
  have hml : m < xs.length := (List.getElem?_eq_some_iff.mp hys).1
  have hvm : vs[m]? = some vs[m] := List.getElem?_eq_getElem (by omega)
  obtain ⟨Z', z1, z2⟩ := zip_at hvm hys hl
  have kx1 := kx.perm (List.Perm.append_right _ z1)
  have kx2 : JX c.K H1 q ((vs[m], .lst true ys) :: (w, d.frz) :: (Z' ++ Z)) := kx1.perm (List.Perm.cons _ perm_take)
  obtain ⟨u, us, eu, hu, hul, hne, kx3⟩ := kx2.app2
  have hat : atI vs k = some (.ref u) := by
    unfold atI
    rw [hl, hm]
    show vs[m]? = _
    rw [hvm, eu]
  refine .inl ⟨q, vs, k, .ref u, rfl, ek, .inl (.inl hq), hat, .inl ⟨rfl, us, .inl (.inl hu)⟩, w, ew, u, us, w, rfl, rfl, hu, Nat.lt_trans (by omega : us.length < 1000000) (by decide), p1 .non _ ?_⟩
  have hq' : (upd H1 u (.lst (us ++ [w]))) q = some (.lst vs) := by rw [upd_ne (fun e => hne e.symm)]; exact hq
  have zz := (z2 (.lst true (ys ++ [d.frz])))
  rw [eu] at zz
  have k4 : Joint c.K (upd H1 u (.lst (us ++ [w]))) ((.ref q, .lst true (xs.set m (.lst true (ys ++ [d.frz])))) :: Z) :=
    JX.close0 (by simp [hl]) hq' (kx3.perm (List.Perm.append_right Z zz.symm))
  exact put _ [(.non, .non)] _ (ju_non k4).sw
@[simp] theorem wE_app2 {Q : D → S0 → Prop} : wE (app2M i fb j) S Q ↔ rd (S[i]?.bind asL) fun _ => wE fb S fun kd S => wE (app2K i j kd) S Q := by
  have e : wE (app2M i fb j) S Q ↔ rd (S[i]?.bind asL) fun _ => wE (bindM fb (app2K i j)) S Q := by
    unfold wE rd
    show WF0.oE (app2M i fb j S) Q ↔ WF0.rd _ (fun _ => WF0.oE (bindM fb (app2K i j) S) Q)
    unfold app2M lstS
    cases h : S[i]? with
    | none => simp [WF0.oE, WF0.rd]
    | some d => cases d <;> simp [WF0.oE, WF0.rd, asL, WF0.asL]
  rw [e]
  refine ⟨fun h => ?_, fun h => ?_⟩
  · obtain ⟨x, h1, h2⟩ := rd_ex.mp h
    exact rd_ex.mpr ⟨x, h1, wE_bind.mp h2⟩
  · obtain ⟨x, h1, h2⟩ := rd_ex.mp h
    exact rd_ex.mpr ⟨x, h1, wE_bind.mpr h2⟩
@[simp] theorem app2K_def {kd : D} {Q : D → S0 → Prop} : wE (app2K i j kd) S Q ↔ rd ((asI kd).bind fun k => (S[i]?.bind asO).bind fun xs => S[j]?.bind fun d => (ixN xs.length k).bind fun m => (xs[m]?.bind asO).bind fun ys =>
  if i ≠ j ∧ isUn d = false ∧ ys.length < 1000000 then some (.non, (S.set j d.frz).set i (.lst true (xs.set m (.lst true (ys ++ [d.frz]))))) else none) fun p => Q p.1 p.2 := wE_pr
theorem w_app2 (hK : c.K = X.K) (h : PE X e (tBM X.K "list" rAppend (tOp (rIx X.K) (tVar i) (T c fb)) (tCons (tVar j) tNil))) : PE X e (T c (app2M i fb j)) := pe_mono h fun _ _ _ h => t_app2 hK h
end
end WF
namespace WF
open PySem PySem.Spec PyProof.Rows L2 RT
section
variable {K : PySem.W.Frag} {H : Hp} {R L : List Pr} {p : Addr} {vs : List V} {ds : List D}
end
section
variable {c : Cfg} {X : Cx} {S : S0} {tm tm0 : List Pr} {σ : L2.St} {H : Hp} {fe : EM} {e tg : Expr} {p pos : Pos}
def revI (fe : EM) : IM := bindI fe fun d => optI ((itemsD d).map List.reverse)
@[simp] theorem wI_rev {QI : List D → List (Nat × D) → S0 → Prop} : wI (revI fe) S QI ↔ wE fe S fun d S => rd (itemsD d) fun ds => QI ds.reverse [] S := by
  unfold wI wE rd
  show WF0.oI (revI fe S) QI ↔ WF0.oE (fe S) (fun d S => WF0.rd (itemsD d) fun ds => QI ds.reverse [] S)
  unfold revI bindI
  match fe S with
  | none => simp [WF0.oI, WF0.oE]
  | some (.ex _, _) => simp [WF0.oI, WF0.oE]
  | some (.ok d, S1) =>
    simp only [WF0.oE, optI]
    cases h : itemsD d with
    | none => simp [WF0.oI, WF0.rd]
    | some ds => simp [WF0.oI, WF0.rd]
@[simp] theorem enumZD_two {xs ys : List D} : enumZD [xs, ys] = if xs.length = ys.length then some (numD (List.zipWith (fun x y => .tup [x, y]) xs ys)) else none := by
  unfold enumZD
  by_cases h : xs.length = ys.length <;> simp [h]
end
@[simp] theorem wS_aug {i : Nat} {op : D → D → Option D} {fe : EM} {S : S0} {QS : Fl → S0 → Prop} : wS (augM i op fe) S QS ↔ rd (S[i]?.bind asI) fun n => wE fe S fun d S1 => rd (op (.int n) d) fun r => i < S1.length ∧ QS .nx (S1.set i r) := by
  unfold wS wE rd
  show WF0.oS (augM i op fe S) QS ↔ WF0.rd (S[i]?.bind asI) (fun n => WF0.oE (fe S) fun d S1 => WF0.rd (op (.int n) d) fun r => i < S1.length ∧ QS .nx (S1.set i r))
  unfold augM
  cases h : S[i]? with
  | none => simp [WF0.oS, WF0.rd]
  | some d =>
    cases d with
    | int n =>
      simp only [WF0.rd, Option.bind_some, asI, WF0.asI_int, Option.some.injEq, exists_eq_left']
      unfold bindS
      match fe S with
      | none => simp [WF0.oS, WF0.oE]
      | some (.ex _, _) => simp [WF0.oS, WF0.oE]
      | some (.ok d, S1) =>
        simp only [WF0.oE]
        cases h2 : op (.int n) d with
        | none => simp [WF0.oS]
        | some r =>
          by_cases h3 : i < S1.length
          · simp [h3, WF0.oS]
          · simp [h3, WF0.oS]
    | _ => simp [WF0.oS, WF0.rd, asI, WF0.asI]
def isBD (neg : Bool) (a b : D) : Option D := match a, b with
  | .bl a, .bl b => some (.bl (neg != decide (a = b)))
  | _, _ => none
@[simp] theorem isBD_bl {n a b : Bool} : isBD n (.bl a) (.bl b) = some (.bl (n != decide (a = b))) := rfl
end WF
namespace WF
open PySem PySem.Spec PyProof.Rows L2
def loopB (k : SM) : Option (Fl × S0) → Option (Fl × S0)
  | some (.nx, S2) => k S2
  | some (.ct, S2) => k S2
  | some (.bk, S2) => some (.nx, S2)
  | o => o
def loopW (fc : EM) (body : SM) : Nat → SM
  | 0 => fun _ => none
  | n + 1 => bindS fc fun d => brS d (fun S => loopB (loopW fc body n) (body S)) skipM
theorem loopB_mono {k k' : SM} (h : ∀ S r, k S = some r → k' S = some r) : ∀ {o : Option (Fl × S0)} {r : Fl × S0}, loopB k o = some r → loopB k' o = some r
  | none, r, e => by cases e
  | some (.nx, S2), r, e => h S2 r e
  | some (.ct, S2), r, e => h S2 r e
  | some (.bk, S2), r, e => e
  | some (.rt d, S2), r, e => e
  | some (.ex x, S2), r, e => e
theorem loopW_succ {fc : EM} {body : SM} : ∀ {n : Nat} {S : S0} {r : Fl × S0}, loopW fc body n S = some r → loopW fc body (n + 1) S = some r
  | 0, S, r, h => by cases h
  | n + 1, S, r, h => by
    have ih := fun S r => loopW_succ (fc := fc) (body := body) (n := n) (S := S) (r := r)
    have e1 : loopW fc body (n + 1) S = bindS fc (fun d => brS d (fun S => loopB (loopW fc body n) (body S)) skipM) S := rfl
    have e2 : loopW fc body (n + 1 + 1) S = bindS fc (fun d => brS d (fun S => loopB (loopW fc body (n + 1)) (body S)) skipM) S := rfl
    rw [e1] at h
    rw [e2]
    unfold bindS at h ⊢
    match hf : fc S, h with
    | some (.ex x, S1), h => exact h
    | some (.ok d, S1), h =>
      simp only at h ⊢
      unfold brS at h ⊢
      split at h
      · exact loopB_mono ih h
      · exact h
      · cases h
theorem loopW_le {fc : EM} {body : SM} {n : Nat} {S : S0} {r : Fl × S0} (h : loopW fc body n S = some r) : ∀ k, loopW fc body (n + k) S = some r
  | 0 => h
  | k + 1 => loopW_succ (loopW_le h k)
open Classical in
noncomputable def whileM (fc : EM) (body : SM) : SM := fun S => if h : ∃ n, (loopW fc body n S).isSome = true then loopW fc body h.choose S else none
theorem whileM_eq {fc : EM} {body : SM} {n : Nat} {S : S0} {r : Fl × S0} (h : loopW fc body n S = some r) : whileM fc body S = some r := by
  have hx : ∃ n, (loopW fc body n S).isSome = true := ⟨n, by rw [h]; rfl⟩
  unfold whileM
  rw [dif_pos hx]
  obtain ⟨r', e⟩ := Option.isSome_iff_exists.mp hx.choose_spec
  have e1 := loopW_le e n
  have e2 := loopW_le h hx.choose
  rw [Nat.add_comm] at e2
  rw [e1] at e2
  cases e2
  exact e
theorem whileM_some {fc : EM} {body : SM} {S : S0} {r : Fl × S0} (h : whileM fc body S = some r) : ∃ n, loopW fc body n S = some r := by
  unfold whileM at h
  split at h
  · exact ⟨_, h⟩
  · cases h
section
variable {c : Cfg} {X : Cx} {S : S0} {σ : L2.St} {H : Hp} {fc : EM} {f : SM} {sts : List Stmt} {ce : Expr} {pos : Pos}
theorem w_while (hp : PassesOwn (model X.prog X.w) X.A X.env X.xe) (hc : PT X ce (Tt c fc)) (hb : PSs X sts (U c f)) : PS X (.While ce sts [] pos) (U c (whileM fc f)) := ps_mono (ps_while hp hc hb) fun E σ H h => by
  obtain ⟨S, tm, j, p⟩ := h
  cases hw : whileM fc f S with
  | none => rw [hw] at p; exact p.elim
  | some r =>
    obtain ⟨n, hn⟩ := whileM_some hw
    rw [hw, ← hn] at p
    refine ⟨fun m σ H => ∃ S, SJ c S tm σ H ∧ postS c (loopW fc f m S) tm E, ⟨n, S, j, p⟩, ?_⟩
    rintro m σ2 H2 ⟨S2, j2, p2⟩
    cases m with
    | zero => exact p2.elim
    | succ m =>
      refine (post_bindS j2 p2).mono fun v H1 ⟨d, S3, j3, p3⟩ => ?_
      rcases br_postS j3 p3 with ⟨rfl, p4⟩ | ⟨rfl, p4⟩
      · refine ⟨true, rfl, ?_⟩
        simp only [if_true]
        refine ⟨fun σ' H' => ∃ S, SJ c S tm σ' H' ∧ postS c (loopW fc f m S) tm E, fun σ' H' hN => ⟨m, Nat.lt_succ_self m, hN⟩, S3, tm, j3.drop, ?_⟩
        cases hb : f S3 with
        | none => rw [hb] at p4; exact p4.elim
        | some o =>
          obtain ⟨fl, S5⟩ := o
          rw [hb] at p4
          cases fl with
          | nx => exact fun σ5 H5 j5 => ⟨S5, j5, p4⟩
          | ct => exact fun σ5 H5 j5 => ⟨S5, j5, p4⟩
          | bk => exact p4
          | rt d => exact p4
          | ex x => exact p4
      · refine ⟨false, rfl, ?_⟩
        simp only [Bool.false_eq_true, if_false]
        exact p4 _ _ j3.drop
end
theorem wS_some {f : SM} {S : S0} {Q : Fl → S0 → Prop} (h : wS f S Q) : ∃ r, f S = some r ∧ (∀ x, r.1 ≠ .ex x) ∧ Q r.1 r.2 := by
  unfold wS at h
  have h : WF0.oS (f S) Q := h
  unfold WF0.oS at h
  split at h
  · exact h.elim
  · rename_i d S' hne e
    exact ⟨(d, S'), e, fun x hx => by
      have hx : d = .ex x := hx
      subst hx
      exact hne x rfl, h⟩
  · exact h.elim
theorem wS_of {f : SM} {S : S0} {Q : Fl → S0 → Prop} {fl : Fl} {S' : S0} (e : f S = some (fl, S')) (hx : ∀ x, fl ≠ .ex x) (q : Q fl S') : wS f S Q := by
  unfold wS
  show WF0.oS (f S) Q
  rw [e]
  cases fl with
  | ex x => exact absurd rfl (hx x)
  | _ => exact q
theorem wS_loopW {fc : EM} {body : SM} {S : S0} {Q : Fl → S0 → Prop} {n : Nat} : wS (loopW fc body (n + 1)) S Q ↔ wE fc S fun d S1 => wS (brS d (fun S => loopB (loopW fc body n) (body S)) skipM) S1 Q := by
  rw [loopW, wS_bindS]
theorem wS_loopB {k body : SM} {S : S0} {Q : Fl → S0 → Prop} (h : wS body S fun fl S2 => match fl with
    | .nx => wS k S2 Q
    | .ct => wS k S2 Q
    | .bk => Q .nx S2
    | fl => Q fl S2) : wS (fun S => loopB k (body S)) S Q := by
  obtain ⟨⟨fl, S2⟩, e, hx, q⟩ := wS_some h
  cases fl with
  | nx => obtain ⟨⟨fl3, S3⟩, e3, h3, q3⟩ := wS_some q
          exact wS_of (by show loopB k (body S) = _; rw [e]; exact e3) h3 q3
  | ct => obtain ⟨⟨fl3, S3⟩, e3, h3, q3⟩ := wS_some q
          exact wS_of (by show loopB k (body S) = _; rw [e]; exact e3) h3 q3
  | bk => exact wS_of (fl := .nx) (by show loopB k (body S) = _; rw [e]; rfl) (fun x h => nomatch h) q
  | rt d => exact wS_of (fl := .rt d) (by show loopB k (body S) = _; rw [e]; rfl) (fun x h => nomatch h) q
  | ex x => exact absurd rfl (hx x)
theorem wS_loopW_le {fc : EM} {body : SM} {S : S0} {Q : Fl → S0 → Prop} {n k : Nat} (h : wS (loopW fc body n) S Q) : wS (loopW fc body (n + k)) S Q := by
  obtain ⟨⟨fl, S2⟩, e, hx, q⟩ := wS_some h
  exact wS_of (loopW_le e k) hx q
theorem while_ind {fc : EM} {body : SM} {Q : Fl → S0 → Prop} (I : Nat → S0 → Prop) (step : ∀ m S, I m S → wE fc S fun d S1 => rd (asB d) fun b => if b = true then (wS body S1 fun fl S2 => match fl with
      | .nx => ∃ m', m' < m ∧ I m' S2
      | .ct => ∃ m', m' < m ∧ I m' S2
      | .bk => Q .nx S2
      | fl => Q fl S2) else Q .nx S1) {m : Nat} {S : S0} (h0 : I m S) : wS (whileM fc body) S Q := by
  have key : ∀ m S, I m S → wS (loopW fc body (m + 1)) S Q := by
    intro m
    induction m using Nat.strongRecOn with
    | ind m ih =>
      intro S hS
      rw [wS_loopW]
      refine (step m S hS).mono fun d S1 h1 => ?_
      obtain ⟨b, hb, h2⟩ := rd_ex.mp h1
      have : d = .bl b := WF0.asB_is.mp hb
      subst this
      rw [wS_br]
      cases b with
      | true =>
        rw [if_pos rfl] at h2 ⊢
        refine wS_loopB (h2.mono fun fl S2 h3 => ?_)
        cases fl with
        | nx => obtain ⟨m', hm, hI⟩ := h3
                have := wS_loopW_le (k := m - (m' + 1)) (ih m' hm S2 hI)
                rwa [show m' + 1 + (m - (m' + 1)) = m by omega] at this
        | ct => obtain ⟨m', hm, hI⟩ := h3
                have := wS_loopW_le (k := m - (m' + 1)) (ih m' hm S2 hI)
                rwa [show m' + 1 + (m - (m' + 1)) = m by omega] at this
        | bk => exact h3
        | rt d => exact h3
        | ex x => exact h3
      | false =>
        rw [if_neg Bool.false_ne_true] at h2 ⊢
        rw [wS_skip]
        exact h2
  obtain ⟨⟨fl, S2⟩, e, hx, q⟩ := wS_some (key m S h0)
  exact wS_of (whileM_eq e) hx q
end WF
namespace WF
open PySem PySem.Spec PyProof.Rows L2 RT
section
variable {P : Program} {w : World} {A : Around} {E : Value → Shared → Prop} {s : Shared}
end
section
variable {X : Cx}
end
section
variable {c : Cfg} {X : Cx} {e : Expr} {fe : EM} {p p2 q pos : Pos}
def revlD : D → Option D
  | .lst _ xs => some (.lst true xs.reverse)
  | _ => none
def revlM (fe : EM) : EM := bindM fe fun d => optM (revlD d)
end
@[simp] theorem wE_revl {fe : EM} {S : S0} {Q : D → S0 → Prop} : wE (revlM fe) S Q ↔ wE fe S fun d S => wE (optM (revlD d)) S Q := by
  rw [revlM, wE_bind]
@[simp] theorem revlD_lst {o : Bool} {xs : List D} : revlD (.lst o xs) = some (.lst true xs.reverse) := rfl
end WF
namespace WF
open PySem PySem.Spec PyProof.Rows L2 RT
def callVM (i : Nat) (tbl : List (Addr × Fn)) (as : List Ar) : EM := fun S => match S[i]? with
  | some (.vl (.ref a)) => (match tbl.lookup a with
    | some m => callM m as S
    | none => none)
  | _ => none
section
variable {c : Cfg} {X : Cx} {n i : Nat} {tbl : List (Addr × Fn)} {x : Str} {p pos : Pos} {e : Expr} {es : List Expr} {as : List Ar}
structure DefAt (X : Cx) (c : Cfg) (n : Nat) (a : Addr) (m : Fn) : Prop where
  ex : ∃ (k : Nat) (fd : FuncData) (ps : List Str), FnOk X.prog X.w X.K X.mg X.base (L2.CX X.prog X.w) k a fd ps (spOf c.K n m) ∧ Room k X.A ∧ PySem.W.keepIn X.K (.ref a) = true ∧ Binds X.K fd ps []
end
@[simp] theorem wE_callV {i : Nat} {tbl : List (Addr × Fn)} {as : List Ar} {S : S0} {Q : D → S0 → Prop} : wE (callVM i tbl as) S Q ↔ (match S[i]? with
    | some (.vl (.ref a)) => (match tbl.lookup a with
      | some m => wE (callM m as) S Q
      | none => False)
    | _ => False) := by
  unfold wE
  show WF0.oE (callVM i tbl as S) Q ↔ _
  unfold callVM
  split
  · split
    · exact Iff.rfl
    · exact Iff.rfl
  · exact Iff.rfl
end WF
namespace WF
open PySem PySem.Spec PyProof.Rows L2
def ltL : List Int → List Int → Bool
  | [], [] => false
  | [], _ :: _ => true
  | _ :: _, [] => false
  | a :: as, b :: bs => if a = b then ltL as bs else decide (a < b)
theorem ltL_asym : ∀ x y : List Int, ltL x y = true → ltL y x = false
  | [], [], h => by simp [ltL] at h
  | [], _ :: _, _ => rfl
  | _ :: _, [], h => by simp [ltL] at h
  | a :: as, b :: bs, h => by
    unfold ltL at h ⊢
    by_cases e : a = b
    · rw [if_pos e] at h; rw [if_pos e.symm]; exact ltL_asym as bs h
    · rw [if_neg e] at h; rw [if_neg (Ne.symm e)]; simp at h ⊢; omega
theorem ltL_tr : ∀ x y z : List Int, ltL y x = false → ltL z y = false → ltL z x = false
  | [], [], z, _, h => h
  | [], _ :: _, [], _, h => by simp [ltL] at h
  | [], _ :: _, _ :: _, _, _ => rfl
  | _ :: _, [], _, h, _ => by simp [ltL] at h
  | _ :: _, _ :: _, [], _, h => by simp [ltL] at h
  | a :: as, b :: bs, c :: cs, h, h' => by
    unfold ltL at h h' ⊢
    by_cases e1 : b = a
    · subst e1
      rw [if_pos rfl] at h
      by_cases e2 : c = b
      · rw [if_pos e2] at h' ⊢; exact ltL_tr as bs cs h h'
      · rw [if_neg e2] at h' ⊢; exact h'
    · rw [if_neg e1] at h
      by_cases e2 : c = b
      · subst e2
        rw [if_neg e1]; exact h
      · rw [if_neg e2] at h'
        simp at h h'
        rw [if_neg (by omega)]
        simp; omega
theorem ltL_anti : ∀ x y : List Int, ltL x y = false → ltL y x = false → x = y
  | [], [], _, _ => rfl
  | [], _ :: _, h, _ => by simp [ltL] at h
  | _ :: _, [], _, h => by simp [ltL] at h
  | a :: as, b :: bs, h, h' => by
    unfold ltL at h h'
    by_cases e : a = b
    · rw [if_pos e] at h; rw [if_pos e.symm] at h'; rw [e, ltL_anti as bs h h']
    · rw [if_neg e] at h; rw [if_neg (Ne.symm e)] at h'; simp at h h'; omega
section
variable {prog : Program} {w : World} {A : Around} {E : Value → Shared → Prop} {s : Shared} {Q : Bool → Shared → Prop}
end
def tpsD : List D → Option (List (List Int))
  | [] => some []
  | .tup xs :: r => match intsD xs, tpsD r with
    | some (n :: ns), some l => some ((n :: ns) :: l)
    | _, _ => none
  | _ => none
def leL (a b : List Int) : Bool := !ltL b a
def sortT (ps : List (List Int)) : List (List Int) := ps.mergeSort leL
def sortTD : List D → Option D
  | [.lst _ xs] => (tpsD xs).map fun ps => .lst true ((sortT ps).map fun ns => .tup (ns.map .int))
  | _ => none
theorem leL_tot (a b : List Int) : (leL a b || leL b a) = true := by
  unfold leL
  cases h : ltL b a with
  | false => rfl
  | true => rw [ltL_asym _ _ h]; rfl
theorem sortT_is {ns ms : List (List Int)} (p : ms.Perm ns) (h : ms.Pairwise (fun a b => leL a b = true)) : ms = sortT ns := by
  have h2 : (sortT ns).Pairwise (fun a b => leL a b = true) := List.pairwise_mergeSort (fun a b c h h' => by
    simp only [leL, Bool.not_eq_true'] at *
    exact ltL_tr _ _ _ h h') leL_tot ns
  exact List.Perm.eq_of_pairwise (fun a b _ _ h h' => by
    simp only [leL, Bool.not_eq_true'] at h h'
    exact ltL_anti _ _ h' h) h h2 (p.trans (List.mergeSort_perm ns _).symm)
def tpD (ns : List Int) : D := .tup (ns.map .int)
section
variable {K : PySem.W.Frag} {H : Hp} {R : List Pr}
theorem ints_vals : ∀ {vs : List V} {ns : List Int} {R : List Pr}, vs.length = ns.length → Joint K H (vs.zip (ns.map D.int) ++ R) → vs = ns.map .int
  | [], [], _, _, _ => rfl
  | v :: vs, n :: ns, R, hl, j => by
    have j1 : Joint K H ((v, .int n) :: (vs.zip (ns.map D.int) ++ R)) := j
    rw [j1.is_int, ints_vals (by simpa using hl) j1.drop]
    rfl
  | [], _ :: _, _, h, _ => by simp at h
  | _ :: _, [], _, h, _ => by simp at h
end
theorem ext0 {i : Nat} {fe : EM} {S : S0} {Q : D → S0 → Prop} : WF0.wE (extM i fe) S Q ↔ WF0.rd (S[i]?.bind asL) fun _ => WF0.wE fe S fun d S => WF0.rd (asL d) fun ys => WF0.rd (S[i]?.bind asO) fun xs => xs.length + ys.length < 1000000 ∧ Q .non (S.set i (.lst true (xs ++ ys))) := by
  simp only [WF0.wE, extM, lstS]
  cases h : S[i]? with
  | none => simp [WF0.oE, WF0.rd]
  | some d =>
    cases d with
    | lst o xs =>
      simp [WF0.asL, bindM]
      cases hf : fe S with
      | none => simp [WF0.oE]
      | some r =>
        obtain ⟨r, S'⟩ := r
        cases r with
        | ex x => simp [WF0.oE]
        | ok d =>
          simp only [WF0.oE, modS]
          cases h2 : S'[i]? with
          | none => cases d <;> simp [WF0.rd]
          | some y =>
            cases y with
            | lst o2 zs =>
              cases o2
              · cases d <;> simp [WF0.rd, WF0.asO]
              · cases d with
                | lst o3 ys =>
                  by_cases hl : zs.length + ys.length < 1000000
                  · simp [WF0.rd, WF0.asO, WF0.asL, hl]
                  · simp [WF0.rd, WF0.asO, WF0.asL, hl]
                | _ => simp [WF0.rd, WF0.asL]
            | _ => cases d <;> simp [WF0.rd, WF0.asO]
    | _ => simp [WF0.oE, WF0.rd, WF0.asL]
@[simp] theorem wE_ext {i : Nat} {fe : EM} {S : S0} {Q : D → S0 → Prop} : wE (extM i fe) S Q ↔ rd (S[i]?.bind asL) fun _ => wE fe S fun d S => rd (asL d) fun ys => rd (S[i]?.bind asO) fun xs => xs.length + ys.length < 1000000 ∧ Q .non (S.set i (.lst true (xs ++ ys))) := by
  (try unfold wE); (try unfold rd)
  exact ext0
end WF
namespace WF
open PySem PySem.Spec PyProof.Rows L2
section
variable {prog : Program} {w : World} {A : Around} {E : Value → Shared → Prop} {s : Shared} {l : Addr} {its : List Value} {ns : List Int} {Q : Value → Shared → Prop}
end
def sumTD : List D → Option D
  | [.tup xs] => (intsD xs).map fun ns => .int ns.sum
  | _ => none
@[simp] theorem sumTD_tup {xs : List D} : sumTD [.tup xs] = (intsD xs).map fun ns => .int ns.sum := rfl
end WF
namespace WF
open PySem PySem.Spec PyProof.Rows L2
def keyK : D → Option Key
  | .int i => some (.inl i)
  | .str x => some (.inr x)
  | _ => none
def keysD : List D → Option (List Key)
  | [] => some []
  | d :: ds => (keyK d).bind fun k => (keysD ds).map (k :: ·)
def keyT : D → Option (List Key)
  | .tup ds => keysD ds
  | _ => none
section
variable {K : PySem.W.Frag} {H H' : Hp} {R : List Pr} {p : Addr}
theorem Joint.keyK {v : V} {d : D} {k : Key} (j : Joint K H ((v, d) :: R)) (h : keyK d = some k) : v = kV k := by
  cases d with
  | int i => simp [WF.keyK] at h; subst h; exact j.is_int
  | str i => simp [WF.keyK] at h; subst h; exact j.is_str
  | _ => simp [WF.keyK] at h
theorem Joint.keysD : ∀ {vs : List V} {ds : List D} {ks : List Key}, vs.length = ds.length → Joint K H (vs.zip ds ++ R) → keysD ds = some ks → vs = ks.map kV
  | [], [], ks, _, _, h => by simp [WF.keysD] at h; subst h; rfl
  | v :: vs, d :: ds, ks, hl, j, h => by
    simp [WF.keysD, Option.bind_eq_some_iff] at h
    obtain ⟨k, h1, ks', h2, rfl⟩ := h
    have j0 : Joint K H ((v, d) :: (vs.zip ds ++ R)) := j
    rw [j0.keyK h1, Joint.keysD (by simpa using hl) j0.drop h2]
    rfl
  | [], _ :: _, _, h, _, _ => by simp at h
  | _ :: _, [], _, h, _, _ => by simp at h
theorem Joint.keyT {v : V} {d : D} {ks : List Key} (j : Joint K H ((v, d) :: R)) (h : keyT d = some ks) : ∃ b, v = .ref b ∧ H b = some (.tup (ks.map kV)) := by
  cases d with
  | tup ds =>
    obtain ⟨b, rfl⟩ := j.is_tup
    obtain ⟨vs, e, hl, k⟩ := j.untup
    refine ⟨b, rfl, ?_⟩
    rw [e, Joint.keysD hl k h]
  | _ => simp [WF.keyT] at h
end
section
variable {κ α β : Type} [DecidableEq κ]
def lk : List κ → List α → κ → Option α
  | k :: ks, x :: xs, q => if k = q then some x else lk ks xs q
  | _, _, _ => none
def rp : List κ → List α → κ → α → List α
  | k :: ks, x :: xs, q, v => (if k = q then v else x) :: rp ks xs q v
  | _, xs, _, _ => xs
def pkK (ks : List κ) (q : κ) : List κ := if q ∈ ks then ks else ks ++ [q]
def pkV (ks : List κ) (xs : List α) (q : κ) (v : α) : List α := if q ∈ ks then rp ks xs q v else xs ++ [v]
theorem lk_valV : ∀ {ks : List κ} {vs : List V} {q : κ}, valV (ks.zip vs) q = lk ks vs q
  | [], _, _ => rfl
  | _ :: _, [], _ => rfl
  | k :: ks, v :: vs, q => by
    rw [List.zip_cons_cons, lk]
    by_cases e : k = q
    · rw [if_pos e, valV_pos (show (k, v).1 = q from e)]
    · rw [if_neg e, valV_neg (show ¬ (k, v).1 = q from e), lk_valV]
theorem rp_len : ∀ {ks : List κ} {xs : List α} {q : κ} {v : α}, (rp ks xs q v).length = xs.length
  | [], xs, _, _ => by cases xs <;> rfl
  | _ :: _, [], _, _ => rfl
  | k :: ks, x :: xs, q, v => by rw [rp, List.length_cons, List.length_cons, rp_len]
theorem pk_len {ks : List κ} {xs : List α} {q : κ} {v : α} (h : ks.length = xs.length) : (pkK ks q).length = (pkV ks xs q v).length := by
  unfold pkK pkV
  split
  · rw [rp_len, h]
  · simp [h]
theorem rp_zip : ∀ {ks : List κ} {vs : List V} {q : κ} {v : V}, ks.length = vs.length → (ks.zip vs).map (fun kv => if kv.1 = q then (kv.1, v) else kv) = ks.zip (rp ks vs q v)
  | [], vs, _, _, _ => by simp
  | _ :: _, [], _, _, h => by simp at h
  | k :: ks, x :: vs, q, v, h => by
    rw [List.zip_cons_cons, List.map_cons, rp, List.zip_cons_cons, rp_zip (by simpa using h)]
    by_cases e : k = q
    · rw [if_pos (show (k, x).1 = q from e), if_pos e]
    · rw [if_neg (show ¬ (k, x).1 = q from e), if_neg e]
theorem putK_zip {ks : List κ} {vs : List V} {q : κ} {v : V} (h : ks.length = vs.length) : putK (ks.zip vs) q v = (pkK ks q).zip (pkV ks vs q v) := by
  have e : ((ks.zip vs).any fun kv => decide (kv.1 = q)) = true ↔ q ∈ ks := by
    rw [List.any_eq_true]
    constructor
    · rintro ⟨⟨a, b⟩, hm, he⟩
      have he : a = q := by simpa using he
      subst he
      exact (List.of_mem_zip hm).1
    · intro hm
      obtain ⟨n, hn, e⟩ := List.getElem_of_mem hm
      refine ⟨(ks[n], vs[n]'(by omega)), ?_, by simpa using e⟩
      rw [← List.getElem_zip (h := by simp; omega)]
      exact List.getElem_mem _
  unfold putK pkK pkV
  by_cases c : q ∈ ks
  · rw [if_pos (e.mpr c), if_pos c, if_pos c, rp_zip h]
  · rw [if_neg (fun z => c (e.mp z)), if_neg c, if_neg c, List.zip_append h]
    rfl
theorem rp_mem : ∀ {ks : List κ} {xs : List α} {ys : List β} {q : κ} {v : α} {w : β} {z : α × β}, z ∈ (rp ks xs q v).zip (rp ks ys q w) → z = (v, w) ∨ z ∈ xs.zip ys
  | [], xs, ys, q, v, w, _, h => by
    have e1 : rp ([] : List κ) xs q v = xs := by cases xs <;> rfl
    have e2 : rp ([] : List κ) ys q w = ys := by cases ys <;> rfl
    rw [e1, e2] at h
    exact .inr h
  | _ :: _, [], _, _, _, _, _, h => by simp [rp] at h
  | _ :: _, _ :: _, [], _, _, _, _, h => by simp [rp] at h
  | k :: ks, x :: xs, y :: ys, q, v, w, z, h => by
    rw [rp, rp, List.zip_cons_cons, List.mem_cons] at h
    rw [List.zip_cons_cons, List.mem_cons]
    rcases h with h | h
    · by_cases e : k = q
      · rw [if_pos e, if_pos e] at h; exact .inl h
      · rw [if_neg e, if_neg e] at h; exact .inr (.inl h)
    · rcases rp_mem h with h | h
      · exact .inl h
      · exact .inr (.inr h)
theorem pk_mem {ks : List κ} {xs : List α} {ys : List β} {q : κ} {v : α} {w : β} {z : α × β} (hl : xs.length = ys.length) (h : z ∈ (pkV ks xs q v).zip (pkV ks ys q w)) : z ∈ (v, w) :: xs.zip ys := by
  unfold pkV at h
  split at h
  · rcases rp_mem h with h | h
    · exact List.mem_cons.mpr (.inl h)
    · exact List.mem_cons.mpr (.inr h)
  · rw [List.zip_append hl, List.mem_append] at h
    rcases h with h | h
    · exact List.mem_cons.mpr (.inr h)
    · exact List.mem_cons.mpr (.inl (by simpa using h))
theorem lk_get : ∀ {ks : List κ} {xs : List α} {q : κ} {x : α}, lk ks xs q = some x → ∀ {ys : List β}, xs.length = ys.length → ∃ (n : Nat) (y : β), xs[n]? = some x ∧ ys[n]? = some y ∧ lk ks ys q = some y
  | [], _, _, _, h, _, _ => by simp [lk] at h
  | _ :: _, [], _, _, h, _, _ => by simp [lk] at h
  | k :: ks, x0 :: xs, q, x, h, ys, hl => by
    cases ys with
    | nil => simp at hl
    | cons y0 ys =>
      rw [lk] at h ⊢
      by_cases e : k = q
      · rw [if_pos e] at h
        cases h
        exact ⟨0, y0, rfl, rfl, by rw [if_pos e]⟩
      · rw [if_neg e] at h
        obtain ⟨n, y, h1, h2, h3⟩ := lk_get h (ys := ys) (by simpa using hl)
        exact ⟨n + 1, y, h1, h2, by rw [if_neg e]; exact h3⟩
theorem lk_none : ∀ {ks : List κ} {xs : List α} {q : κ} {ys : List β}, lk ks xs q = none → xs.length = ys.length → lk ks ys q = none
  | [], _, _, _, _, _ => rfl
  | _ :: _, [], _, ys, _, hl => by
    cases ys with
    | nil => rfl
    | cons y ys => simp at hl
  | k :: ks, x0 :: xs, q, ys, h, hl => by
    cases ys with
    | nil => rfl
    | cons y0 ys =>
      rw [lk] at h ⊢
      by_cases e : k = q
      · rw [if_pos e] at h; cases h
      · rw [if_neg e] at h ⊢
        exact lk_none h (by simpa using hl)
theorem zip_fs {kvs : List (κ × V)} : (kvs.map Prod.fst).zip (kvs.map Prod.snd) = kvs := by
  induction kvs with
  | nil => rfl
  | cons x l ih => rw [List.map_cons, List.map_cons, List.zip_cons_cons, ih]
end
theorem zip_len_fst {κ : Type} {ks : List κ} {vs : List V} (h : ks.length = vs.length) : (ks.zip vs).map Prod.fst = ks ∧ (ks.zip vs).map Prod.snd = vs := by
  induction ks generalizing vs with
  | nil => cases vs with
    | nil => exact ⟨rfl, rfl⟩
    | cons v vs => simp at h
  | cons k ks ih => cases vs with
    | nil => simp at h
    | cons v vs =>
      obtain ⟨a, b⟩ := ih (vs := vs) (by simpa using h)
      simp [a, b]
section
variable {K : PySem.W.Frag} {H H' : Hp} {R : List Pr} {p : Addr} {ds ds' : List D} {vs vs' : List V}
theorem Reps.some {G : Hp} {C C' : List Pr} (r : Reps K G H C []) (h : ∀ x ∈ C', x ∈ C) : Reps K G H C' [] := by
  induction C' with
  | nil => exact .nil
  | cons x C' ih =>
    obtain ⟨n, hn, e⟩ := List.getElem_of_mem (h x List.mem_cons_self)
    have q := reps_get r (List.getElem?_eq_some_iff.mpr ⟨hn, e⟩)
    exact Reps.append (L := [x]) (fp := []) q (ih fun y hy => h y (List.mem_cons_of_mem _ hy))
theorem JX.pick {C C' : List Pr} (j : JX K H p (C ++ R)) (hf : ∀ x ∈ C, x.2.frz = x.2) (hs : ∀ x ∈ C', x ∈ C) : JX K H p (C' ++ R) := by
  obtain ⟨G, fp, g, r, n, z, gp, np⟩ := j
  obtain ⟨f1, f2, rfl, r1, r2⟩ := r.unappend
  have e := r1.pure hf
  subst e
  exact ⟨G, f2, g, Reps.append (fp := []) (r1.some hs) r2, n, z, gp, np⟩
theorem imms_mem : ∀ {ds : List D}, D.imms ds = true → ∀ d ∈ ds, d.imm = true
  | [], _, d, m => by cases m
  | x :: ds, h, d, m => by
    simp only [D.imms, Bool.and_eq_true] at h
    rcases List.mem_cons.mp m with rfl | m
    · exact h.1
    · exact imms_mem h.2 d m
mutual
def D.pur : D → Bool
  | .non => true
  | .bl _ => true
  | .int _ => true
  | .str _ => true
  | .tup xs => D.purs xs
  | .lst false xs => D.purs xs
  | .dic false _ xs => D.purs xs
  | .dtk false _ xs => D.purs xs
  | _ => false
def D.purs : List D → Bool
  | [] => true
  | x :: xs => x.pur && D.purs xs
end
mutual
theorem D.pur_frz : ∀ d : D, d.pur = true → d.frz = d
  | .non, _ => rfl
  | .bl _, _ => rfl
  | .int _, _ => rfl
  | .str _, _ => rfl
  | .tup xs, h => by simp only [D.pur] at h; simp only [D.frz, D.purs_frz xs h]
  | .lst false xs, h => by simp only [D.pur] at h; simp only [D.frz, D.purs_frz xs h]
  | .dic false _ xs, h => by simp only [D.pur] at h; simp only [D.frz, D.purs_frz xs h]
  | .dtk false _ xs, h => by simp only [D.pur] at h; simp only [D.frz, D.purs_frz xs h]
  | .lst true _, h => by cases h
  | .dic true _ _, h => by cases h
  | .dtk true _ _, h => by cases h
  | .un, h => by cases h
  | .vl _, h => by cases h
  | .scr _, h => by cases h
  | .hld _, h => by cases h
  | .con _, h => by cases h
  | .exn _ _ _, h => by cases h
  | .tab _, h => by cases h
  | .obj _ _ _ _, h => by cases h
theorem D.purs_frz : ∀ ds : List D, D.purs ds = true → D.frzs ds = ds
  | [], _ => rfl
  | d :: ds, h => by
    simp only [D.purs, Bool.and_eq_true] at h
    simp only [D.frzs, D.pur_frz d h.1, D.purs_frz ds h.2]
end
theorem purs_mem : ∀ {ds : List D}, D.purs ds = true → ∀ d ∈ ds, d.pur = true
  | [], _, d, m => by cases m
  | x :: ds, h, d, m => by
    simp only [D.purs, Bool.and_eq_true] at h
    rcases List.mem_cons.mp m with rfl | m
    · exact h.1
    · exact purs_mem h.2 d m
theorem purs_of : ∀ {ds : List D}, (∀ d ∈ ds, d.pur = true) → D.purs ds = true
  | [], _ => rfl
  | x :: ds, h => by
    simp only [D.purs, Bool.and_eq_true]
    exact ⟨h x List.mem_cons_self, purs_of fun d m => h d (List.mem_cons_of_mem _ m)⟩
abbrev D.Pal (ds : List D) : Prop := D.imms ds = true ∨ D.purs ds = true
abbrev D.Pa (d : D) : Prop := d.imm = true ∨ d.pur = true
theorem D.Pa.frz {d : D} (h : d.Pa) : d.frz = d := h.elim (D.imm_frz d) (D.pur_frz d)
theorem pal_mem (h : D.Pal ds) : ∀ d ∈ ds, d.Pa := fun d m => h.imp (fun h => imms_mem h d m) fun h => purs_mem h d m
theorem imms_zip (h : D.Pal ds) : ∀ x ∈ vs.zip ds, x.2.frz = x.2 := fun x m => (pal_mem h _ (List.of_mem_zip m).2).frz
theorem Joint.openT {ks : List (List Key)} (j : Joint K H ((.ref p, .dtk true ks ds) :: R)) : ∃ vs, H p = some (.dT (ks.zip vs)) ∧ vs.length = ds.length ∧ ks.length = vs.length ∧ JX K H p (vs.zip ds ++ R) := by
  obtain ⟨G, fp, g, r, n, z⟩ := j
  cases r with
  | @to p C ks ds kvs f L fp a e b c r1 r2 =>
    subst e c
    obtain ⟨n1, n2⟩ := List.nodup_cons.mp n
    have hl : (kvs.map Prod.snd).length = (C.map Prod.snd).length := by rw [← b]; simp
    refine ⟨kvs.map Prod.snd, by rw [zip_fs]; exact a, hl, by simp, G, _, g, ?_, n2, fun a m => z a (List.mem_cons_of_mem _ m), z p List.mem_cons_self, n1⟩
    rw [← b, zip_map]
    exact r1.append r2
theorem JX.closeT {ks' : List (List Key)} (hl : vs'.length = ds'.length) (hk : ks'.length = vs'.length) (j : JX K H p (vs'.zip ds' ++ R)) : Joint K (L2.upd H p (.dT (ks'.zip vs'))) ((.ref p, .dtk true ks' ds') :: R) := by
  obtain ⟨G, fp, g, r, n, z, gp, np⟩ := JX.upd (o := .dT (ks'.zip vs')) j
  obtain ⟨f1, f2, rfl, r1, r2⟩ := r.unappend
  obtain ⟨z1, z2⟩ := zip_len_fst hk
  exact ⟨G, p :: (f1 ++ f2), g, .to upd_same z1 (by rw [zip_fst hl, z2]) (zip_snd hl) r1 r2, List.nodup_cons.mpr ⟨np, n⟩, fun a m => by
    rcases List.mem_cons.mp m with rfl | m
    · exact gp
    · exact z a m⟩
theorem Joint.seeT {o : Bool} {ks : List (List Key)} (j : Joint K H ((.ref p, .dtk o ks ds) :: R)) (hi : D.Pal ds) : ∃ vs, H p = some (.dT (ks.zip vs)) ∧ vs.length = ds.length ∧ ks.length = vs.length ∧ ∀ (n : Nat) v d, vs[n]? = some v → ds[n]? = some d → Joint K H ((v, d) :: (.ref p, .dtk o ks ds) :: R) := by
  obtain ⟨G, fp, g, r, n, z⟩ := j
  have r0 := r
  have key : ∀ {C : List Pr} {f : List Addr}, Reps K G H C f → C.map Prod.snd = ds → ∀ (i : Nat) v d, (C.map Prod.fst)[i]? = some v → ds[i]? = some d → Reps K G H [(v, d)] [] := fun {C f} r1 e i v d h1 h2 => by
    subst e
    have e : f = [] := r1.pure fun x m => (pal_mem hi _ (List.mem_map.mpr ⟨x, m, rfl⟩)).frz
    subst e
    refine reps_get (i := i) r1 ?_
    rw [List.getElem?_map] at h1 h2
    cases q : C[i]? with
    | none => rw [q] at h1; cases h1
    | some y => rw [q] at h1 h2; cases h1; cases h2; rfl
  cases r with
  | @tf p C ks ds kvs L fp a e b c r1 r2 =>
    subst e
    refine ⟨kvs.map Prod.snd, by rw [zip_fs]; exact g _ _ a, by rw [← b, ← c]; simp, by simp, fun i v d h1 h2 => ⟨G, _, g, ?_, n, z⟩⟩
    rw [← b] at h1
    exact Reps.append (L := [(v, d)]) (fp := []) (key r1 c i v d h1 h2) r0
  | @to p C ks ds kvs f L fp a e b c r1 r2 =>
    subst e
    refine ⟨kvs.map Prod.snd, by rw [zip_fs]; exact a, by rw [← b, ← c]; simp, by simp, fun i v d h1 h2 => ⟨G, _, g, ?_, n, z⟩⟩
    rw [← b] at h1
    exact Reps.append (L := [(v, d)]) (fp := []) (key r1 c i v d h1 h2) r0
theorem Joint.newT (j : Joint K H R) (h : H p = none) : Joint K (L2.upd H p (.dT [])) ((.ref p, .dtk true [] []) :: R) := by
  obtain ⟨G, fp, g, r, n, z⟩ := j
  have hp : G p = none := by
    cases q : G p with
    | none => rfl
    | some o => rw [g p o q] at h; cases h
  have hh : ∀ a o, H a = some o → L2.upd H p (.dT []) a = some o := fun a o e => by rw [upd_ne (ne_of_none e h)]; exact e
  refine ⟨G, p :: fp, fun a o e => hh a o (g a o e), Reps.to (C := []) (kvs := []) (f := []) upd_same rfl rfl rfl .nil (r.mono .refl fun a o _ => hh a o), List.nodup_cons.mpr ⟨fun m => ?_, n⟩, fun a m => ?_⟩
  · obtain ⟨o, ho⟩ := r.has p m
    rw [h] at ho; cases ho
  · rcases List.mem_cons.mp m with rfl | m
    · exact hp
    · exact z a m
theorem Joint.putT {ks : List (List Key)} {q : (List Key)} {v : V} {d : D} (j : Joint K H ((.ref p, .dtk true ks ds) :: (v, d) :: R)) (hi : D.Pal ds) (hd : d.Pa) : ∃ vs, H p = some (.dT (ks.zip vs)) ∧ ks.length = vs.length ∧ vs.length = ds.length ∧ Joint K (L2.upd H p (.dT (putK (ks.zip vs) q v))) ((.ref p, .dtk true (pkK ks q) (pkV ks ds q d)) :: R) := by
  obtain ⟨vs, h, hl, hk, k⟩ := j.openT
  refine ⟨vs, h, hk, hl, ?_⟩
  rw [putK_zip hk]
  have k1 : JX K H p (((v, d) :: vs.zip ds) ++ R) := k.perm perm_take
  have k2 := k1.pick (C' := (pkV ks vs q v).zip (pkV ks ds q d)) (fun x m => by
    rcases List.mem_cons.mp m with rfl | m
    · exact hd.frz
    · exact imms_zip hi x m) fun x m => pk_mem hl m
  exact k2.closeT (by rw [← pk_len hk, pk_len (hk.trans hl)]) (pk_len hk)
theorem Joint.openK {ks : List Key} (j : Joint K H ((.ref p, .dic true ks ds) :: R)) : ∃ vs, H p = some (.dK (ks.zip vs)) ∧ vs.length = ds.length ∧ ks.length = vs.length ∧ JX K H p (vs.zip ds ++ R) := by
  obtain ⟨G, fp, g, r, n, z⟩ := j
  cases r with
  | @ko p C ks ds kvs f L fp a e b c r1 r2 =>
    subst e c
    obtain ⟨n1, n2⟩ := List.nodup_cons.mp n
    have hl : (kvs.map Prod.snd).length = (C.map Prod.snd).length := by rw [← b]; simp
    refine ⟨kvs.map Prod.snd, by rw [zip_fs]; exact a, hl, by simp, G, _, g, ?_, n2, fun a m => z a (List.mem_cons_of_mem _ m), z p List.mem_cons_self, n1⟩
    rw [← b, zip_map]
    exact r1.append r2
theorem JX.closeK {ks' : List Key} (hl : vs'.length = ds'.length) (hk : ks'.length = vs'.length) (j : JX K H p (vs'.zip ds' ++ R)) : Joint K (L2.upd H p (.dK (ks'.zip vs'))) ((.ref p, .dic true ks' ds') :: R) := by
  obtain ⟨G, fp, g, r, n, z, gp, np⟩ := JX.upd (o := .dK (ks'.zip vs')) j
  obtain ⟨f1, f2, rfl, r1, r2⟩ := r.unappend
  obtain ⟨z1, z2⟩ := zip_len_fst hk
  exact ⟨G, p :: (f1 ++ f2), g, .ko upd_same z1 (by rw [zip_fst hl, z2]) (zip_snd hl) r1 r2, List.nodup_cons.mpr ⟨np, n⟩, fun a m => by
    rcases List.mem_cons.mp m with rfl | m
    · exact gp
    · exact z a m⟩
theorem Joint.seeK {o : Bool} {ks : List Key} (j : Joint K H ((.ref p, .dic o ks ds) :: R)) (hi : D.Pal ds) : ∃ vs, H p = some (.dK (ks.zip vs)) ∧ vs.length = ds.length ∧ ks.length = vs.length ∧ ∀ (n : Nat) v d, vs[n]? = some v → ds[n]? = some d → Joint K H ((v, d) :: (.ref p, .dic o ks ds) :: R) := by
  obtain ⟨G, fp, g, r, n, z⟩ := j
  have r0 := r
  have key : ∀ {C : List Pr} {f : List Addr}, Reps K G H C f → C.map Prod.snd = ds → ∀ (i : Nat) v d, (C.map Prod.fst)[i]? = some v → ds[i]? = some d → Reps K G H [(v, d)] [] := fun {C f} r1 e i v d h1 h2 => by
    subst e
    have e : f = [] := r1.pure fun x m => (pal_mem hi _ (List.mem_map.mpr ⟨x, m, rfl⟩)).frz
    subst e
    refine reps_get (i := i) r1 ?_
    rw [List.getElem?_map] at h1 h2
    cases q : C[i]? with
    | none => rw [q] at h1; cases h1
    | some y => rw [q] at h1 h2; cases h1; cases h2; rfl
  cases r with
  | @kf p C ks ds kvs L fp a e b c r1 r2 =>
    subst e
    refine ⟨kvs.map Prod.snd, by rw [zip_fs]; exact g _ _ a, by rw [← b, ← c]; simp, by simp, fun i v d h1 h2 => ⟨G, _, g, ?_, n, z⟩⟩
    rw [← b] at h1
    exact Reps.append (L := [(v, d)]) (fp := []) (key r1 c i v d h1 h2) r0
  | @ko p C ks ds kvs f L fp a e b c r1 r2 =>
    subst e
    refine ⟨kvs.map Prod.snd, by rw [zip_fs]; exact a, by rw [← b, ← c]; simp, by simp, fun i v d h1 h2 => ⟨G, _, g, ?_, n, z⟩⟩
    rw [← b] at h1
    exact Reps.append (L := [(v, d)]) (fp := []) (key r1 c i v d h1 h2) r0
theorem Joint.putK {ks : List Key} {q : Key} {v : V} {d : D} (j : Joint K H ((.ref p, .dic true ks ds) :: (v, d) :: R)) (hi : D.Pal ds) (hd : d.Pa) : ∃ vs, H p = some (.dK (ks.zip vs)) ∧ ks.length = vs.length ∧ vs.length = ds.length ∧ Joint K (L2.upd H p (.dK (putK (ks.zip vs) q v))) ((.ref p, .dic true (pkK ks q) (pkV ks ds q d)) :: R) := by
  obtain ⟨vs, h, hl, hk, k⟩ := j.openK
  refine ⟨vs, h, hk, hl, ?_⟩
  rw [putK_zip hk]
  have k1 : JX K H p (((v, d) :: vs.zip ds) ++ R) := k.perm perm_take
  have k2 := k1.pick (C' := (pkV ks vs q v).zip (pkV ks ds q d)) (fun x m => by
    rcases List.mem_cons.mp m with rfl | m
    · exact hd.frz
    · exact imms_zip hi x m) fun x m => pk_mem hl m
  exact k2.closeK (by rw [← pk_len hk, pk_len (hk.trans hl)]) (pk_len hk)
end
end WF
namespace WF
open PySem PySem.Spec PyProof.Rows L2
def dGetD : D → D → Option (Option D)
  | .dtk _ ks xs, k => if D.Pal xs then (keyT k).map fun q => lk ks xs q else none
  | .dic _ ks xs, k => if D.Pal xs then (keyK k).map fun q => lk ks xs q else none
  | _, _ => none
def dPutD : D → D → D → Option D
  | .dtk true ks xs, k, v => if D.Pal xs ∧ v.Pa ∧ ks.length < 1000000 then (keyT k).map fun q => .dtk true (pkK ks q) (pkV ks xs q v) else none
  | .dic true ks xs, k, v => if D.Pal xs ∧ v.Pa ∧ ks.length < 1000000 then (keyK k).map fun q => .dic true (pkK ks q) (pkV ks xs q v) else none
  | _, _, _ => none
def isDic : D → Bool
  | .dtk _ _ _ => true
  | .dic _ _ _ => true
  | _ => false
section
variable {K : PySem.W.Frag} {H H' : Hp} {R : List Pr} {v kv : V} {d k : D}
theorem Joint.is_dtk {o : Bool} {ks : List (List Key)} {xs : List D} (j : Joint K H ((v, .dtk o ks xs) :: R)) : ∃ a kvs, v = .ref a ∧ H a = some (.dT kvs) := by
  obtain ⟨G, fp, g, r, n, z⟩ := j
  cases r with
  | tf a e b c r1 r2 => exact ⟨_, _, rfl, g _ _ a⟩
  | to a e b c r1 r2 => exact ⟨_, _, rfl, a⟩
theorem Joint.is_dic {o : Bool} {ks : List Key} {xs : List D} (j : Joint K H ((v, .dic o ks xs) :: R)) : ∃ a kvs, v = .ref a ∧ H a = some (.dK kvs) := by
  obtain ⟨G, fp, g, r, n, z⟩ := j
  cases r with
  | kf a e b c r1 r2 => exact ⟨_, _, rfl, g _ _ a⟩
  | ko a e b c r1 r2 => exact ⟨_, _, rfl, a⟩
theorem Joint.isD (j : Joint K H ((v, d) :: R)) (h : isDic d = true) : ∃ a, v = .ref a ∧ IsD H a := by
  cases d with
  | dtk o ks xs =>
    obtain ⟨a, kvs, e, h⟩ := j.is_dtk
    exact ⟨a, e, .inr ⟨kvs, .inl h⟩⟩
  | dic o ks xs =>
    obtain ⟨a, kvs, e, h⟩ := j.is_dic
    exact ⟨a, e, .inl ⟨kvs, .inl h⟩⟩
  | _ => cases h
theorem s_dget {r : Option D} (e : dGetD d k = some r) (j : Joint K H ((kv, k) :: (v, d) :: R)) : ∃ a o, v = .ref a ∧ DGet H a kv o ∧ match (generalizing := false) r with
    | none => o = none
    | some x => x.Pa ∧ ∃ u, o = some u ∧ Joint K H ((u, x) :: (kv, k) :: (v, d) :: R) := by
  cases d with
  | dtk o ks xs =>
    replace e : (if D.Pal xs then (keyT k).map fun q => lk ks xs q else none) = some r := e
    split at e
    · rename_i hi
      rw [Option.map_eq_some_iff] at e
      obtain ⟨q, hq, e⟩ := e
      obtain ⟨b, rfl, hb⟩ := j.keyT hq
      obtain ⟨a, kvs, rfl, _⟩ := j.drop.is_dtk
      obtain ⟨vs, h1, h2, h3, it⟩ := j.sw.seeT hi
      refine ⟨a, _, rfl, DGet.t h1 hb, ?_⟩
      rw [lk_valV]
      cases r with
      | none => exact lk_none e h2.symm
      | some x =>
        obtain ⟨n, y, a1, a2, a3⟩ := lk_get e (ys := vs) h2.symm
        exact ⟨pal_mem hi _ (List.mem_of_getElem? a1), y, a3, (it n y x a2 a1).perm (List.Perm.cons _ (List.Perm.swap _ _ _))⟩
    · cases e
  | dic o ks xs =>
    replace e : (if D.Pal xs then (keyK k).map fun q => lk ks xs q else none) = some r := e
    split at e
    · rename_i hi
      rw [Option.map_eq_some_iff] at e
      obtain ⟨q, hq, e⟩ := e
      obtain rfl := j.keyK hq
      obtain ⟨a, kvs, rfl, _⟩ := j.drop.is_dic
      obtain ⟨vs, h1, h2, h3, it⟩ := j.sw.seeK hi
      refine ⟨a, _, rfl, DGet.k h1, ?_⟩
      rw [lk_valV]
      cases r with
      | none => exact lk_none e h2.symm
      | some x =>
        obtain ⟨n, y, a1, a2, a3⟩ := lk_get e (ys := vs) h2.symm
        exact ⟨pal_mem hi _ (List.mem_of_getElem? a1), y, a3, (it n y x a2 a1).perm (List.Perm.cons _ (List.Perm.swap _ _ _))⟩
    · cases e
  | _ => cases e
theorem s_dput {x d' : D} {u : V} (e : dPutD d k x = some d') (j : Joint K H ((kv, k) :: (u, x) :: (v, d) :: R)) : ∃ a H', v = .ref a ∧ DPut H a kv u H' ∧ Joint K H' ((v, d') :: R) := by
  have pj : Joint K H ((v, d) :: (u, x) :: (kv, k) :: R) := j.perm (by
    refine (List.Perm.swap _ _ _).trans ?_
    refine (List.Perm.cons _ (List.Perm.swap _ _ _)).trans ?_
    exact (List.Perm.swap _ _ _))
  cases d with
  | dtk o ks xs =>
    cases o with
    | false => cases e
    | true =>
      replace e : (if D.Pal xs ∧ x.Pa ∧ ks.length < 1000000 then (keyT k).map fun q => D.dtk true (pkK ks q) (pkV ks xs q x) else none) = some d' := e
      split at e
      · rename_i hi
        rw [Option.map_eq_some_iff] at e
        obtain ⟨q, hq, rfl⟩ := e
        obtain ⟨b, rfl, hb⟩ := j.keyT hq
        obtain ⟨a, kvs, rfl, _⟩ := pj.is_dtk
        obtain ⟨vs, h1, h2, h3, k2⟩ := pj.putT (q := q) hi.1 hi.2.1
        refine ⟨a, _, rfl, DPut.t h1 hb ?_, ?_⟩
        · rw [List.length_zip, sizeLine_eq]; omega
        · exact ((k2.perm (List.Perm.swap _ _ _)).drop)
      · cases e
  | dic o ks xs =>
    cases o with
    | false => cases e
    | true =>
      replace e : (if D.Pal xs ∧ x.Pa ∧ ks.length < 1000000 then (keyK k).map fun q => D.dic true (pkK ks q) (pkV ks xs q x) else none) = some d' := e
      split at e
      · rename_i hi
        rw [Option.map_eq_some_iff] at e
        obtain ⟨q, hq, rfl⟩ := e
        obtain rfl := j.keyK hq
        obtain ⟨a, kvs, rfl, _⟩ := pj.is_dic
        obtain ⟨vs, h1, h2, h3, k2⟩ := pj.putK (q := q) hi.1 hi.2.1
        refine ⟨a, _, rfl, DPut.k h1 ?_, ?_⟩
        · rw [List.length_zip, sizeLine_eq]; omega
        · exact ((k2.perm (List.Perm.swap _ _ _)).drop)
      · cases e
  | _ => cases e
end
def dicS (i : Nat) (f : EM) : EM := fun S => match S[i]? with
  | some d => if isDic d = true then f S else none
  | none => none
def dicSS (i : Nat) (f : SM) : SM := fun S => match S[i]? with
  | some d => if isDic d = true then f S else none
  | none => none
def prS (f : S0 → Option S0) : SM := fun S => (f S).map fun S' => (.nx, S')
def dgetK (i : Nat) (k : D) : EM := prM fun S => S[i]?.bind fun d => (dGetD d k).bind fun o => o.map fun x => (x, S)
def dgetM (i : Nat) (fk : EM) : EM := dicS i (bindM fk (dgetK i))
def dinK (neg : Bool) (i : Nat) (k : D) : EM := prM fun S => S[i]?.bind fun d => (dGetD d k).map fun o => (.bl (if neg = true then !o.isSome else o.isSome), S)
def dinM (neg : Bool) (i : Nat) (fk : EM) : EM := bindM fk fun k => dicS i (dinK neg i k)
def dget2K (i : Nat) (k x : D) : EM := prM fun S => S[i]?.bind fun d => (dGetD d k).map fun o => (o.getD x, S)
def dget2M (i : Nat) (fk fx : EM) : EM := dicS i (bindM fk fun k => bindM fx fun x => dget2K i k x)
def dputK (i : Nat) (v k : D) : SM := prS fun S => (S[i]?.bind fun d => dPutD d k v).map fun d' => S.set i d'
def dputM (i : Nat) (fk fv : EM) : SM := bindS fv fun v => dicSS i (bindS fk (dputK i v))
def daugM (i : Nat) (fk : EM) (op : D → D → Option D) (fv : EM) : SM := dicSS i (bindS fk fun k => bindS (dgetK i k) fun x => bindS fv fun y => bindS (optM (op x y)) fun z => dputK i z k)
section
variable {c : Cfg} {X : Cx} {S : S0} {tm tm0 : List Pr} {σ : L2.St} {H : Hp} {a b e g : Expr} {fa fb fe fk fx fv : EM} {pos pos' apos cpos : Pos} {i : Nat} {E : Ends}
theorem dic_un {d : D} (h : isDic d = true) : isUn d = false := by cases d <;> first | rfl | cases h
theorem post_dicS {f : EM} {Q : VK} (j : SJ c S tm σ H) (p : post c (dicS i f S) tm0 σ Q) : ∃ v p0, σ[i]? = some (some v) ∧ v = .ref p0 ∧ IsD H p0 ∧ post c (f S) tm0 σ Q := by
  unfold dicS at p
  split at p
  · rename_i d hd
    split at p
    · rename_i hi
      obtain ⟨v, ev, Z, k, _⟩ := j.get hd (dic_un hi)
      obtain ⟨p0, e, h⟩ := k.isD hi
      exact ⟨v, p0, ev, e, h, p⟩
    · exact p.elim
  · exact p.elim
theorem post_dicSS {f : SM} (j : SJ c S tm σ H) (p : postS c (dicSS i f S) tm0 E) : ∃ v p0, σ[i]? = some (some v) ∧ v = .ref p0 ∧ IsD H p0 ∧ postS c (f S) tm0 E := by
  unfold dicSS at p
  split at p
  · rename_i d hd
    split at p
    · rename_i hi
      obtain ⟨v, ev, Z, k, _⟩ := j.get hd (dic_un hi)
      obtain ⟨p0, e, h⟩ := k.isD hi
      exact ⟨v, p0, ev, e, h, p⟩
    · exact p.elim
  · exact p.elim
theorem getD_un {d k : D} {r : Option D} (h : dGetD d k = some r) : isUn d = false := by cases d <;> first | rfl | cases h
theorem putD_un {d k x d' : D} (h : dPutD d k x = some d') : isUn d = false := by cases d <;> first | rfl | cases h
theorem SJ.dget {kv : V} {k d : D} {r : Option D} {v : V} (j : SJ c S ((kv, k) :: tm) σ H) (hd : S[i]? = some d) (hr : dGetD d k = some r) (ev : σ[i]? = some (some v)) : ∃ p o, v = .ref p ∧ DGet H p kv o ∧ match (generalizing := false) r with
    | none => o = none
    | some x => x.Pa ∧ ∃ u, o = some u ∧ SJ c S ((u, x) :: (kv, k) :: tm) σ H := by
  obtain ⟨v', ev', Z, k2, put⟩ := j.get2 hd (getD_un hr)
  have : v' = v := by rw [ev] at ev'; exact (Option.some.inj (Option.some.inj ev')).symm
  subst this
  obtain ⟨p, o, e1, e2, e3⟩ := s_dget hr k2
  refine ⟨p, o, e1, e2, ?_⟩
  cases r with
  | none => exact e3
  | some x =>
    obtain ⟨hx, u, e4, k3⟩ := e3
    have hs : S.set i d = S := by
      obtain ⟨h1, h2⟩ := List.getElem?_eq_some_iff.mp hd
      rw [← h2]
      exact List.set_getElem_self h1
    have q := put d [(u, x), (kv, k)] H (k3.perm (by
      refine (List.Perm.cons _ (List.Perm.swap _ _ _)).trans ?_
      exact List.Perm.swap _ _ _))
    rw [hs] at q
    exact ⟨hx, u, e4, q⟩
theorem SJ.dput {kv u : V} {k x d d' : D} {v : V} (j : SJ c S ((kv, k) :: (u, x) :: tm) σ H) (hd : S[i]? = some d) (hr : dPutD d k x = some d') (ev : σ[i]? = some (some v)) : ∃ p H', v = .ref p ∧ DPut H p kv u H' ∧ SJ c (S.set i d') tm σ H' := by
  obtain ⟨v', ev', Z, k2, put⟩ := j.get2 hd (putD_un hr)
  have : v' = v := by rw [ev] at ev'; exact (Option.some.inj (Option.some.inj ev')).symm
  subst this
  obtain ⟨Z2, q1, q2, _⟩ := slot_get ev hd j.len
  have jj := j.jt.perm (List.Perm.append_right _ q1)
  have j3 : Joint c.K H ((kv, k) :: (u, x) :: (v', d) :: (Z2 ++ (tm ++ c.rs))) := jj.perm (by
    have p0 : ((v', d) :: Z2 ++ (((kv, k) :: (u, x) :: tm) ++ c.rs)).Perm ((v', d) :: ((kv, k) :: (u, x) :: (Z2 ++ (tm ++ c.rs)))) := by
      refine List.Perm.cons _ ?_
      exact (perm_take (A := Z2) (x := (kv, k)) (B := (u, x) :: (tm ++ c.rs))).trans (List.Perm.cons _ perm_take)
    refine p0.trans ?_
    refine (List.Perm.swap _ _ _).trans ?_
    exact List.Perm.cons _ (List.Perm.swap _ _ _))
  obtain ⟨p, H', e1, e2, k3⟩ := s_dput hr j3
  refine ⟨p, H', e1, e2, ⟨?_, fun n w h' hn => ?_, j.pv, j.lp, ?_⟩⟩
  · rw [List.length_set]; exact j.len
  · by_cases hi : n = i
    · exact ⟨v', by rw [hi]; exact ev⟩
    · rw [List.getElem?_set_ne (Ne.symm hi)] at h'
      exact j.set n w h' hn
  · exact k3.perm (List.Perm.append_right _ (q2 d').symm)
theorem w_dget (hu : X.A.units + 1 < cLine) (ha : PE X a (tVar i)) (hb : PE X b (T c fk)) (hs : NoSl b := by exact fun _ _ => rfl) : PE X (.Subscript a b pos) (T c (dgetM i fk)) :=
  pe_mono (pe_dget hu ha hb hs) fun σ H Q h => by
    obtain ⟨S, tm, j, p⟩ := h
    obtain ⟨v, p0, ev, e0, _, p1⟩ := post_dicS j p
    refine ⟨v, ev, (post_bind j p1).mono fun kv H1 ⟨k, S1, j1, p2⟩ => ?_⟩
    obtain ⟨r, hr, q⟩ := post_pr p2
    rw [Option.bind_eq_some_iff] at hr
    obtain ⟨d, hd, hr⟩ := hr
    rw [Option.bind_eq_some_iff] at hr
    obtain ⟨o, ho, hr⟩ := hr
    rw [Option.map_eq_some_iff] at hr
    obtain ⟨x, rfl, rfl⟩ := hr
    obtain ⟨p, o, e1, e2, hx, u, rfl, k3⟩ := j1.dget hd ho ev
    exact ⟨p, u, e1, e2, q u H1 (k3.perm (List.Perm.swap _ _ _)).drop⟩
theorem t_din {neg : Bool} {Q : VK} (h : T c (dinM neg i fk) σ H Q) : T c fk σ H fun y H1 => tVar i σ H1 fun x H2 => ∃ p o, x = .ref p ∧ DGet H2 p y o ∧ Q (.bl (if neg = true then !o.isSome else o.isSome)) H2 := by
  obtain ⟨S, tm, j, p⟩ := h
  refine (post_bind j p).mono fun kv H1 ⟨k, S1, j1, p2⟩ => ?_
  obtain ⟨v, p0, ev, e0, _, p1⟩ := post_dicS j1 p2
  refine ⟨v, ev, ?_⟩
  obtain ⟨r, hr, q⟩ := post_pr p1
  rw [Option.bind_eq_some_iff] at hr
  obtain ⟨d, hd, hr⟩ := hr
  rw [Option.map_eq_some_iff] at hr
  obtain ⟨o, ho, rfl⟩ := hr
  obtain ⟨p, o', e1, e2, e3⟩ := j1.dget hd ho ev
  have e4 : o'.isSome = o.isSome := by
    cases o with
    | none => rw [e3]; rfl
    | some x => obtain ⟨_, u, rfl, _⟩ := e3; rfl
  refine ⟨p, o', e1, e2, ?_⟩
  rw [e4]
  exact q _ H1 (j1.drop.put (j_bl H1 _ j1.drop.jt))
theorem wt_dnotin (hu : X.A.units + 1 < cLine) (ha : PE X a (tVar i)) (hb : PE X b (T c fk)) (hm : behindInMarks .NotIn a = false := by rfl) : PT X (.Compare b [.NotIn] [a] pos) (Tt c (dinM true i fk)) := pt_mono (pt_cmp (pc_dnotin hu hb ha) hm) fun σ H Q h => t_din h
theorem post_prS {f : S0 → Option S0} (p : postS c (prS f S) tm E) : ∃ S', f S = some S' ∧ ∀ σ H, SJ c S' tm σ H → E.nx σ H := by
  unfold prS at p
  cases h : f S with
  | none => rw [h] at p; exact p.elim
  | some r => rw [h] at p; exact ⟨r, rfl, p⟩
theorem w_dput (hu : X.A.units + 1 < cLine) (ha : PE X a (tVar i)) (hb : PE X b (T c fk)) (hv : PE X e (T c fv)) (hs : swapsWith e (some (.Subscript a b pos')) pos.line X.env = pure false := by rfl) : PS X (.Assign [.Subscript a b pos'] e pos) (U c (dputM i fk fv)) :=
  ps_mono (ps_dput hu ha hb hv hs) fun E σ H h => by
    obtain ⟨S, tm, j, p⟩ := h
    refine (post_bindS j p).mono fun uv H1 ⟨x, S1, j1, p1⟩ => ?_
    obtain ⟨v, p0, ev, rfl, hD, p2⟩ := post_dicSS j1 p1
    refine ⟨_, ev, (post_bindS j1 p2).mono fun kv H2 ⟨k, S2, j2, p3⟩ => ?_⟩
    obtain ⟨S', hr, q⟩ := post_prS p3
    rw [Option.map_eq_some_iff] at hr
    obtain ⟨d', hr, rfl⟩ := hr
    rw [Option.bind_eq_some_iff] at hr
    obtain ⟨d, hd, hr⟩ := hr
    obtain ⟨p, H', e1, e2, j3⟩ := j2.dput hd hr ev
    exact ⟨p, H', e1, e2, q _ _ j3⟩
end
end WF
namespace WF
open PySem PySem.Spec PyProof.Rows L2
def asDic (d : D) : Option D := if isDic d = true then some d else none
section
variable {S : S0} {Q : D → S0 → Prop} {QS : Fl → S0 → Prop} {f fk fx fv : EM} {i : Nat} {k x d v : D} {o : Bool} {xs : List D}
@[simp] theorem asDic_dtk {ks : List (List Key)} : asDic (.dtk o ks xs) = some (.dtk o ks xs) := rfl
@[simp] theorem asDic_dic {ks : List Key} : asDic (.dic o ks xs) = some (.dic o ks xs) := rfl
@[simp] theorem isUn_dtk {ks : List (List Key)} : isUn (.dtk o ks xs) = false := rfl
@[simp] theorem isUn_dic {ks : List Key} : isUn (.dic o ks xs) = false := rfl
@[simp] theorem frz_dtk {ks : List (List Key)} : D.frz (.dtk o ks xs) = .dtk false ks (D.frzs xs) := rfl
@[simp] theorem frz_dic {ks : List Key} : D.frz (.dic o ks xs) = .dic false ks (D.frzs xs) := rfl
@[simp] theorem wE_dicS : wE (dicS i f) S Q ↔ rd (S[i]?.bind asDic) fun _ => wE f S Q := by
  unfold wE rd
  show WF0.oE (dicS i f S) Q ↔ _
  unfold dicS asDic
  cases h : S[i]? with
  | none => simp [WF0.oE, WF0.rd]
  | some d => cases hd : isDic d <;> simp [hd, WF0.oE, WF0.rd, WF0.wE]
@[simp] theorem wS_dicSS {f : SM} : wS (dicSS i f) S QS ↔ rd (S[i]?.bind asDic) fun _ => wS f S QS := by
  unfold wS rd
  show WF0.oS (dicSS i f S) QS ↔ _
  unfold dicSS asDic
  cases h : S[i]? with
  | none => simp [WF0.oS, WF0.rd]
  | some d => cases hd : isDic d <;> simp [hd, WF0.oS, WF0.rd, WF0.wS]
@[simp] theorem wS_prS {f : S0 → Option S0} : wS (prS f) S QS ↔ rd (f S) fun S => QS .nx S := by
  unfold wS rd
  show WF0.oS (prS f S) QS ↔ _
  unfold prS
  cases h : f S with
  | none => simp [WF0.oS, WF0.rd]
  | some d => simp [WF0.oS, WF0.rd]
@[simp] theorem wE_dgetK : wE (dgetK i k) S Q ↔ rd (S[i]?.bind fun d => (dGetD d k).bind fun o => o.map fun x => (x, S)) fun p => Q p.1 p.2 := wE_pr
@[simp] theorem wE_dget : wE (dgetM i fk) S Q ↔ wE (dicS i (bindM fk (dgetK i))) S Q := Iff.rfl
@[simp] theorem wE_dinK {neg : Bool} : wE (dinK neg i k) S Q ↔ rd (S[i]?.bind fun d => (dGetD d k).map fun o => (D.bl (if neg = true then !o.isSome else o.isSome), S)) fun p => Q p.1 p.2 := wE_pr
@[simp] theorem wE_din {neg : Bool} : wE (dinM neg i fk) S Q ↔ wE (bindM fk fun k => dicS i (dinK neg i k)) S Q := Iff.rfl
@[simp] theorem wE_dget2K : wE (dget2K i k x) S Q ↔ rd (S[i]?.bind fun d => (dGetD d k).map fun o => (o.getD x, S)) fun p => Q p.1 p.2 := wE_pr
@[simp] theorem wE_dget2 : wE (dget2M i fk fx) S Q ↔ wE (dicS i (bindM fk fun k => bindM fx fun x => dget2K i k x)) S Q := Iff.rfl
@[simp] theorem wS_dputK : wS (dputK i v k) S QS ↔ rd ((S[i]?.bind fun d => dPutD d k v).map fun d' => S.set i d') fun S => QS .nx S := wS_prS
@[simp] theorem wS_dput : wS (dputM i fk fv) S QS ↔ wS (bindS fv fun v => dicSS i (bindS fk (dputK i v))) S QS := Iff.rfl
@[simp] theorem wS_daug {op : D → D → Option D} : wS (daugM i fk op fv) S QS ↔ wS (dicSS i (bindS fk fun k => bindS (dgetK i k) fun x => bindS fv fun y => bindS (optM (op x y)) fun z => dputK i z k)) S QS := Iff.rfl
@[simp] theorem dGetD_dtk {ks : List (List Key)} : dGetD (.dtk o ks xs) k = if D.imms xs = true ∨ D.purs xs = true then (keyT k).map fun q => lk ks xs q else none := rfl
@[simp] theorem dGetD_dic {ks : List Key} : dGetD (.dic o ks xs) k = if D.imms xs = true ∨ D.purs xs = true then (keyK k).map fun q => lk ks xs q else none := rfl
@[simp] theorem dPutD_dtk {ks : List (List Key)} : dPutD (.dtk true ks xs) k v = if (D.imms xs = true ∨ D.purs xs = true) ∧ (v.imm = true ∨ v.pur = true) ∧ ks.length < 1000000 then (keyT k).map fun q => .dtk true (pkK ks q) (pkV ks xs q v) else none := rfl
@[simp] theorem dPutD_dic {ks : List Key} : dPutD (.dic true ks xs) k v = if (D.imms xs = true ∨ D.purs xs = true) ∧ (v.imm = true ∨ v.pur = true) ∧ ks.length < 1000000 then (keyK k).map fun q => .dic true (pkK ks q) (pkV ks xs q v) else none := rfl
@[simp] theorem keyK_int {a : Int} : keyK (.int a) = some (.inl a) := rfl
@[simp] theorem keyT_tup : keyT (.tup xs) = keysD xs := rfl
@[simp] theorem keysD_nil : keysD [] = some [] := rfl
@[simp] theorem keysD_cons : keysD (x :: xs) = (keyK x).bind fun k => (keysD xs).map (k :: ·) := rfl
end
section
variable {c : Cfg} {X : Cx} {pos : Pos} {a b : Expr} {fa fb : EM}
def dispM (k v : EM) : EM := bindM k fun x => bindM v fun y => optM ((keyK x).bind fun q => if y.imm = true ∨ y.pur = true then some (.dic true [q] [y]) else none)
@[simp] theorem wE_disp {S : S0} {Q : D → S0 → Prop} : wE (dispM fa fb) S Q ↔ wE (bindM fa fun x => bindM fb fun y => optM ((keyK x).bind fun q => if y.imm = true ∨ y.pur = true then some (.dic true [q] [y]) else none)) S Q := Iff.rfl
end
end WF
namespace WF
open PySem PySem.Spec PyProof.Rows L2
def lgetK (i : Nat) (k : D) : EM := prM fun S => (asI k).bind fun n => (S[i]?.bind asO).bind fun xs => if 0 ≤ n then (atI xs n).bind fun x => if x.imm = true then some (x, S) else none else none
def lputK (i : Nat) (k z : D) : SM := prS fun S => (asI k).bind fun n => (S[i]?.bind asO).bind fun xs => (ixN xs.length n).map fun m => S.set i (.lst true (xs.set m z))
def lstSS (i : Nat) (f : SM) : SM := fun S => match S[i]? with
  | some (.lst true _) => f S
  | _ => none
def laugM (i : Nat) (fk : EM) (op : D → D → Option D) (fv : EM) : SM := lstSS i (bindS fk fun k => bindS (lgetK i k) fun x => bindS fv fun y => bindS (optM (op x y)) fun z => lputK i k z)
section
variable {c : Cfg} {X : Cx} {S : S0} {tm tm0 : List Pr} {σ : L2.St} {H : Hp} {a b e g : Expr} {fa fb fe fk fx fv : EM} {pos pos' : Pos} {i : Nat} {E : Ends}
@[simp] theorem wS_lstSS {f : SM} {QS : Fl → S0 → Prop} : wS (lstSS i f) S QS ↔ rd (S[i]?.bind asO) fun _ => wS f S QS := by
  unfold wS rd
  show WF0.oS (lstSS i f S) QS ↔ _
  unfold lstSS
  cases h : S[i]? with
  | none => simp [WF0.oS, WF0.rd]
  | some d =>
    cases d with
    | lst o xs => cases o <;> simp [WF0.oS, WF0.rd, WF0.wS, asO, WF0.asO]
    | _ => simp [WF0.oS, WF0.rd, WF0.wS, asO, WF0.asO]
@[simp] theorem wE_lgetK {k : D} {Q : D → S0 → Prop} : wE (lgetK i k) S Q ↔ rd ((asI k).bind fun n => (S[i]?.bind asO).bind fun xs => if 0 ≤ n then (atI xs n).bind fun x => if x.imm = true then some (x, S) else none else none) fun p => Q p.1 p.2 := wE_pr
@[simp] theorem wS_lputK {k z : D} {QS : Fl → S0 → Prop} : wS (lputK i k z) S QS ↔ rd ((asI k).bind fun n => (S[i]?.bind asO).bind fun xs => (ixN xs.length n).map fun m => S.set i (.lst true (xs.set m z))) fun S => QS .nx S := wS_prS
@[simp] theorem wS_laug {op : D → D → Option D} {QS : Fl → S0 → Prop} : wS (laugM i fk op fv) S QS ↔ wS (lstSS i (bindS fk fun k => bindS (lgetK i k) fun x => bindS fv fun y => bindS (optM (op x y)) fun z => lputK i k z)) S QS := Iff.rfl
end
def lenDD : List D → Option D
  | [.dtk _ ks _] => some (.int ks.length)
  | [.dic _ ks _] => some (.int ks.length)
  | _ => none
section
variable {K : PySem.W.Frag} {H : Hp} {R : List Pr} {p : Addr} {ds : List D} {o : Bool}
end
@[simp] theorem lenDD_dtk {o : Bool} {ks : List (List Key)} {xs : List D} : lenDD [.dtk o ks xs] = some (.int ks.length) := rfl
@[simp] theorem lenDD_dic {o : Bool} {ks : List Key} {xs : List D} : lenDD [.dic o ks xs] = some (.int ks.length) := rfl
def intKeys : List Key → Option (List Int)
  | [] => some []
  | .inl i :: ks => (intKeys ks).map (i :: ·)
  | _ => none
def sortKD : List D → Option D
  | [.dic _ ks _] => (intKeys ks).bind fun ns => if ns.length < 64 then some (.lst true ((sortI ns).map .int)) else none
  | _ => none
theorem intKeys_map {ks : List Key} : ∀ {ns : List Int}, intKeys ks = some ns → ks = ns.map Sum.inl := by
  induction ks with
  | nil => intro ns h; cases h; rfl
  | cons k ks ih =>
    intro ns h
    cases k with
    | inl i =>
      have h' : (intKeys ks).map (i :: ·) = some ns := h
      rw [Option.map_eq_some_iff] at h'
      obtain ⟨ms, h2, rfl⟩ := h'
      rw [List.map_cons, ih h2]
    | inr x => cases h
@[simp] theorem intKeys_of {ns : List Int} : intKeys (ns.map Sum.inl) = some ns := by
  induction ns with
  | nil => rfl
  | cons n ns ih => rw [List.map_cons, intKeys, ih]; rfl
@[simp] theorem sortKD_dic {o : Bool} {ks : List Key} {xs : List D} : sortKD [.dic o ks xs] = (intKeys ks).bind fun ns => if ns.length < 64 then some (.lst true ((sortI ns).map .int)) else none := rfl
end WF
namespace WF
open PySem PySem.Spec PyProof.Rows L2
theorem hu1 {k : Nat} {A : Around} (r : Room k A) : A.units + 1 < cLine := by have := r.un; omega
section
variable {K : PySem.W.Frag} {G H H' : Hp} {L R : List Pr} {p b : Addr} {ds : List D}
theorem Reps.own {fp : List Addr} (r : Reps K G H L fp) : ∀ a ∈ fp, ∀ xs, H a ≠ Option.some (HO.tup xs) := by
  induction r with
  | nil => intro a m; cases m
  | un _ ih => exact ih
  | non _ ih => exact ih
  | bl _ ih => exact ih
  | int _ ih => exact ih
  | str _ ih => exact ih
  | vl _ ih => exact ih
  | hld q h _ ih => intro a m xs e; rcases List.mem_cons.mp m with rfl | m; (rw [h] at e; exact q.1 xs (Option.some.inj e)); exact ih a m xs e
  | con _ _ _ ih => exact ih
  | tab h _ ih => intro a m xs e; rcases List.mem_cons.mp m with rfl | m; (obtain ⟨ps, h, _⟩ := h; rw [h] at e; cases e); exact ih a m xs e
  | of _ _ _ _ _ _ _ ih1 ih2 => exact ih2
  | oo h h2 _ _ _ _ _ ih1 ih2 => intro a m xs e; rcases List.mem_cons.mp m with rfl | m; (rw [h] at e; cases e); rcases List.mem_cons.mp m with rfl | m; (rw [h2] at e; cases e); rcases List.mem_append.mp m with m | m; exact ih1 a m xs e; exact ih2 a m xs e
  | scr _ _ ih => exact ih
  | tup _ _ _ _ _ ih1 ih2 => intro a m; rcases List.mem_append.mp m with m | m; exact ih1 a m; exact ih2 a m
  | exn _ _ _ _ _ _ _ ih1 ih2 => exact ih2
  | lf _ _ _ _ _ ih1 ih2 => exact ih2
  | lo h _ _ _ _ ih1 ih2 => intro a m xs e; rcases List.mem_cons.mp m with rfl | m; (rw [h] at e; cases e); rcases List.mem_append.mp m with m | m; exact ih1 a m xs e; exact ih2 a m xs e
  | kf _ _ _ _ _ _ ih1 ih2 => exact ih2
  | ko h _ _ _ _ _ ih1 ih2 => intro a m xs e; rcases List.mem_cons.mp m with rfl | m; (rw [h] at e; cases e); rcases List.mem_append.mp m with m | m; exact ih1 a m xs e; exact ih2 a m xs e
  | tf _ _ _ _ _ _ ih1 ih2 => exact ih2
  | to h _ _ _ _ _ ih1 ih2 => intro a m xs e; rcases List.mem_cons.mp m with rfl | m; (rw [h] at e; cases e); rcases List.mem_append.mp m with m | m; exact ih1 a m xs e; exact ih2 a m xs e
theorem reps_ints {ns : List Int} : Reps K G H ((ns.map V.int).zip (ns.map D.int)) [] := by
  induction ns with
  | nil => exact .nil
  | cons n ns ih => exact .int ih
theorem Joint.seeTup {ns : List Int} (j : Joint K H R) (h : H b = some (.tup (ns.map V.int))) : Joint K H ((.ref b, .tup (ns.map .int)) :: R) := by
  obtain ⟨G, fp, g, r, n, z⟩ := j
  let G' : Hp := fun a => if a = b then H b else G a
  have gg : GSub G G' := fun a o e => by
    show (if a = b then H b else G a) = some o
    split
    · rename_i q; subst q; exact g a o e
    · exact e
  have gH : GSub G' H := fun a o e => by
    have e : (if a = b then H b else G a) = some o := e
    split at e
    · rename_i q; subst q; exact e
    · exact g a o e
  have hb : G' b = some (.tup (ns.map V.int)) := by
    show (if b = b then H b else G b) = _
    rw [if_pos rfl]; exact h
  refine ⟨G', [] ++ fp, gH, .tup (C := (ns.map V.int).zip (ns.map D.int)) hb (zip_fst (by simp)) (zip_snd (by simp)) reps_ints (r.mono gg fun a o _ e => e), n, fun a m => ?_⟩
  have hm : a ∈ fp := by simpa using m
  show (if a = b then H b else G a) = none
  rw [if_neg (fun q => r.own a hm _ (by rw [q]; exact h))]
  exact z a hm
end
section
variable {X : Cx} {c : Cfg} {a b : Expr} {pos : Pos} {tk tv : TE} {fa fb : EM}
def tDisp1T (tk tv : TE) : TE := fun σ H Q => ∀ p, H p = none → tk σ (L2.upd H p (.dT [])) fun kv H1 => tv σ H1 fun xv H2 => ∃ q ks, kv = .ref q ∧ H2 p = some (.dT []) ∧ H2 q = some (.tup (ks.map kV)) ∧ Q (.ref p) (L2.upd H2 p (.dT [(ks, xv)]))
theorem pe_disp1T (hu : X.A.units + 1 < cLine) (ha : PE X a tk) (hb : PE X b tv) : PE X (.Dict [some a] [b] pos) (tDisp1T tk tv) := by
  refine ⟨fun pins s σ H Q I h => ?_⟩
  have fr := I.hok.fresh (Nat.le_refl s.heap.objs.size)
  have I1 := I.laid (a := s.heap.objs.size) (o := .dT []) (h' := s.heap.push { cls := .type "dict", data := .dict #[] }) (t' := s.toks) (fun _ _ q => Heap.get?_push_of_some _ q) (Nat.le_refl _) (dt_empty s.heap I.big)
  let R : List (V × V) → Hp → Prop := fun ps H' => match ps with
    | [(kv, xv)] => ∃ q ks, kv = .ref q ∧ H' s.heap.objs.size = some (.dT []) ∧ H' q = some (.tup (ks.map kV)) ∧ Q (.ref s.heap.objs.size) (L2.upd H' s.heap.objs.size (.dT [(ks, xv)]))
    | _ => False
  have ev := (pps_cons (pos := pos) ha hb pps_nil).run pins _ σ _ R I1 (h _ fr)
  rw [arm_eval_Dict, show (evalEachOpt [some a] X.env).zip ((evalEach [b] X.env).map fun v => do let x ← v; standAt pos; pure x) = (pairTrees [some a] [b] X.env pos).map fun p => (some p.1, p.2) from rfl, dictDisplay_pairs _ (fun z => by cases z) (Nat.le_of_ble_eq_true rfl)]
  refine wpAny_bind (wpAny_standAt (wpAny_bind (wpAny_subDictH (knd := tupleKind (mixKind X.prog X.w)) (s := s) (show X.A.units < cLine by omega) (Nat.le_of_ble_eq_true rfl) ?_)))
  refine wpAny_mono ev (fun vs s1 hh => ?_) fun _ _ e => e
  obtain ⟨ps, H', I2, vv, r⟩ := hh
  match ps, r with
  | [(kv, xv)], r =>
    obtain ⟨q, ks, rfl, e0, hq, q2⟩ := r
    match vs, vv with
    | [(u1, u2)], .cons hr .nil =>
      obtain ⟨r1, r2⟩ := hr
      obtain rfl : u1 = Value.ref q := r1
      obtain ⟨z, hd, xs0, rel, dd⟩ := dt_of I2.hok e0
      cases rel
      refine ⟨[(ks, q, u2)], ⟨rfl, rfl, key_of I2.hok hq, trivial⟩, dd, fun h' tk dd' hs => wpAny_pure ⟨.ref s.heap.objs.size, _, ?_, rfl, q2⟩⟩
      obtain ⟨ob, es, ep, h1, h2, h3, h4, _, h5⟩ := dd'
      refine d_write I2 (by rw [e0]; exact True.intro) hs ⟨ob, h1⟩ ⟨by show 1 ≤ sizeLine; decide, hd, [(ks, q, u2)], .cons ⟨rfl, ?_, r2⟩ .nil, ob, es, ep, h1, h2, h3, h4, h5⟩
      rw [upd_ne (ne_of hq e0 (fun z => nomatch z))]
      exact hq
def dispT (k v : EM) : EM := bindM k fun x => bindM v fun y => optM ((keyT x).bind fun q => if y.imm = true ∨ y.pur = true then some (.dtk true [q] [y]) else none)
theorem w_dispT (hu : X.A.units + 1 < cLine) (ha : PE X a (T c fa)) (hb : PE X b (T c fb)) : PE X (.Dict [some a] [b] pos) (T c (dispT fa fb)) :=
  pe_mono (pe_disp1T hu ha hb) fun σ H Q h => by
    obtain ⟨S, tm, j, p⟩ := h
    intro q hq
    have j0 : SJ c S ((.ref q, .dtk true [] []) :: tm) σ (L2.upd H q (.dT [])) := j.put (j.jt.newT hq)
    refine (post_bind j0 p).mono fun kv H1 ⟨k, S1, j1, p1⟩ => ?_
    refine (post_bind j1 p1).mono fun xv H2 ⟨x, S2, j2, p2⟩ => ?_
    obtain ⟨d, e, q2⟩ := post_opt p2
    rw [Option.bind_eq_some_iff] at e
    obtain ⟨key, hk, e⟩ := e
    split at e
    · rename_i hi
      cases e
      have j3 : Joint c.K H2 ((.ref q, .dtk true [] []) :: (xv, x) :: (kv, k) :: (slotL σ S2 ++ (tm ++ c.rs))) := j2.jt.perm (by
        refine (perm_take (A := slotL σ S2)).trans ?_
        refine (List.Perm.cons _ perm_take).trans ?_
        refine (List.Perm.cons _ (List.Perm.cons _ perm_take)).trans ?_
        refine (List.Perm.cons _ (List.Perm.swap _ _ _)).trans ?_
        exact List.Perm.swap _ _ _)
      obtain ⟨b0, rfl, hb0⟩ := ((j3.perm (List.Perm.cons _ (List.Perm.swap _ _ _))).drop).keyT hk
      obtain ⟨vs, h1, h2, h3, k4⟩ := j3.putT (q := key) (.inl rfl) hi
      have hv : vs = [] := List.length_eq_zero_iff.mp (by rw [← h2]; rfl)
      subst hv
      refine ⟨b0, key, rfl, h1, hb0, q2 _ _ (j2.put ?_)⟩
      have k5 := ((k4.perm (List.Perm.swap _ _ _)).drop)
      exact k5
    · cases e
@[simp] theorem wE_dispT {S : S0} {Q : D → S0 → Prop} : wE (dispT fa fb) S Q ↔ wE (bindM fa fun x => bindM fb fun y => optM ((keyT x).bind fun q => if y.imm = true ∨ y.pur = true then some (.dtk true [q] [y]) else none)) S Q := Iff.rfl
end
end WF
namespace WF
open PySem PySem.Spec PyProof.Rows L2
section
variable {X : Cx} {c : Cfg} {e : Expr} {td : TE} {apos cpos : Pos} {i : Nat}
end
end WF
namespace WF
open PySem PySem.Spec PyProof.Rows L2
def ksI : List (List Key) → Option (List (List Int))
  | [] => some []
  | k :: r => (intKeys k).bind fun ks => (ksI r).map (ks :: ·)
def kvR (p : List Int × Int) : List Key × V := (p.1.map Sum.inl, .int p.2)
def itD (p : List Int × Int) : D := .tup [.tup (p.1.map .int), .int p.2]
theorem ksI_map {kss : List (List Key)} : ∀ {l : List (List Int)}, ksI kss = some l → kss = l.map fun k => k.map Sum.inl := by
  induction kss with
  | nil => intro l h; cases h; rfl
  | cons k r ih =>
    intro l h
    have h' : ((intKeys k).bind fun ks => (ksI r).map (ks :: ·)) = some l := h
    rw [Option.bind_eq_some_iff] at h'
    obtain ⟨ks, h1, h'⟩ := h'
    rw [Option.map_eq_some_iff] at h'
    obtain ⟨l', h2, rfl⟩ := h'
    rw [List.map_cons, ih h2, intKeys_map h1]
@[simp] theorem ksI_of : ∀ {l : List (List Int)}, ksI (l.map fun k => k.map Sum.inl) = some l
  | [] => rfl
  | p :: l => by
    show ((intKeys (p.map Sum.inl)).bind fun ks => (ksI (l.map fun k => k.map Sum.inl)).map (ks :: ·)) = _
    rw [intKeys_of, ksI_of]
    rfl
def itI (i : Nat) : IM := fun S => match S[i]? with
  | some (.dtk true ks xs) => (ksI ks).bind fun kss => (intsD xs).bind fun ns => if kss.length = ns.length then some (.ok ((kss.zip ns).map itD) [(i, .dtk true ks xs)], S.set i .un) else none
  | _ => none
section
variable {K : PySem.W.Frag} {H H' : Hp} {R : List Pr} {p : Addr} {ns : List Int} {u : HO}
theorem JX.closeH (hu : HldOk u) (j : JX K H p R) : Joint K (L2.upd H p u) ((.ref p, .hld u) :: R) := by
  obtain ⟨G, fp, g, r, n, z, gp, np⟩ := JX.upd (o := u) j
  exact ⟨G, p :: fp, g, .hld hu upd_same r, List.nodup_cons.mpr ⟨np, n⟩, fun a m => by
    rcases List.mem_cons.mp m with rfl | m
    · exact gp
    · exact z a m⟩
theorem Joint.openH (j : Joint K H ((.ref p, .hld u) :: R)) : H p = some u ∧ JX K H p R := by
  obtain ⟨G, fp, g, r, n, z⟩ := j
  cases r with
  | hld q a r1 =>
    obtain ⟨n1, n2⟩ := List.nodup_cons.mp n
    exact ⟨a, G, _, g, r1, n2, fun a m => z a (List.mem_cons_of_mem _ m), z p List.mem_cons_self, n1⟩
theorem JX.ints (j : JX K H p R) : JX K H p ((ns.map V.int).zip (ns.map D.int) ++ R) := by
  obtain ⟨G, fp, g, r, n, z, gp, np⟩ := j
  exact ⟨G, fp, g, Reps.append (fp := []) reps_ints r, n, z, gp, np⟩
theorem Joint.is_hld {v : V} (j : Joint K H ((v, .hld u) :: R)) : ∃ p, v = .ref p := by
  obtain ⟨G, fp, g, r, n, z⟩ := j
  cases r; exact ⟨_, rfl⟩
end
section
variable {c : Cfg} {X : Cx} {S : S0} {tm : List Pr} {σ : L2.St} {H : Hp} {e : Expr} {apos cpos : Pos} {i : Nat}
end
def asDT : D → Option (List (List Key) × List D)
  | .dtk true ks xs => some (ks, xs)
  | _ => none
@[simp] theorem asDT_dtk {ks : List (List Key)} {xs : List D} : asDT (.dtk true ks xs) = some (ks, xs) := rfl
@[simp] theorem wI_itI {i : Nat} {S : S0} {Q : List D → List (Nat × D) → S0 → Prop} : wI (itI i) S Q ↔ rd ((S[i]?.bind asDT).bind fun p => (ksI p.1).bind fun kss => (intsD p.2).bind fun ns => if kss.length = ns.length then some ((kss.zip ns).map itD, p) else none) fun r => Q r.1 [(i, .dtk true r.2.1 r.2.2)] (S.set i .un) := by
  unfold wI rd
  show WF0.oI (itI i S) Q ↔ _
  unfold itI
  cases h : S[i]? with
  | none => simp [WF0.oI, WF0.rd]
  | some d =>
    cases d with
    | dtk o ks xs =>
      cases o with
      | false => simp [WF0.oI, WF0.rd, asDT]
      | true =>
        simp only [Option.bind_some, asDT_dtk]
        cases hk : ksI ks with
        | none => simp [WF0.oI, WF0.rd]
        | some kss =>
          simp only [Option.bind_some]
          cases hn : intsD xs with
          | none => simp [WF0.oI, WF0.rd]
          | some ns =>
            simp only [Option.bind_some]
            by_cases hl : kss.length = ns.length
            · simp [hl, WF0.oI, WF0.rd]
            · simp [hl, WF0.oI, WF0.rd]
    | _ => simp [WF0.oI, WF0.rd, asDT]
end WF
namespace WF
open PySem PySem.Spec PyProof.Rows L2
def inTD (neg : Bool) : D → D → Option D
  | .int a, .tup xs => (intsD xs).map fun ns => .bl (if neg = true then !decide (a ∈ ns) else decide (a ∈ ns))
  | _, _ => none
section
variable {K : PySem.W.Frag}
@[simp] theorem inTD_tup {neg : Bool} {a : Int} {xs : List D} : inTD neg (.int a) (.tup xs) = (intsD xs).map fun ns => .bl (if neg = true then !decide (a ∈ ns) else decide (a ∈ ns)) := rfl
end
end WF
namespace WF
open PySem PySem.Spec PyProof.Rows L2
def kyD (p : List Int × Int) : D := .tup (p.1.map .int)
def kyI (i : Nat) : IM := fun S => match S[i]? with
  | some (.dtk true ks xs) => (ksI ks).bind fun kss => (intsD xs).bind fun ns => if kss.length = ns.length then some (.ok ((kss.zip ns).map kyD) [(i, .dtk true ks xs)], S.set i .un) else none
  | _ => none
section
variable {K : PySem.W.Frag} {H H' : Hp} {R : List Pr} {p : Addr} {ns : List Int} {u : HO}
end
section
variable {c : Cfg} {X : Cx} {S : S0} {tm : List Pr} {σ : L2.St} {H : Hp} {e : Expr} {apos cpos : Pos} {i : Nat}
end
@[simp] theorem wI_kyI {i : Nat} {S : S0} {Q : List D → List (Nat × D) → S0 → Prop} : wI (kyI i) S Q ↔ rd ((S[i]?.bind asDT).bind fun p => (ksI p.1).bind fun kss => (intsD p.2).bind fun ns => if kss.length = ns.length then some ((kss.zip ns).map kyD, p) else none) fun r => Q r.1 [(i, .dtk true r.2.1 r.2.2)] (S.set i .un) := by
  unfold wI rd
  show WF0.oI (kyI i S) Q ↔ _
  unfold kyI
  cases h : S[i]? with
  | none => simp [WF0.oI, WF0.rd]
  | some d =>
    cases d with
    | dtk o ks xs =>
      cases o with
      | false => simp [WF0.oI, WF0.rd, asDT]
      | true =>
        simp only [Option.bind_some, asDT_dtk]
        cases hk : ksI ks with
        | none => simp [WF0.oI, WF0.rd]
        | some kss =>
          simp only [Option.bind_some]
          cases hn : intsD xs with
          | none => simp [WF0.oI, WF0.rd]
          | some ns =>
            simp only [Option.bind_some]
            by_cases hl : kss.length = ns.length
            · simp [hl, WF0.oI, WF0.rd]
            · simp [hl, WF0.oI, WF0.rd]
    | _ => simp [WF0.oI, WF0.rd, asDT]
end WF
namespace WF
open PySem PySem.Spec PyProof.Rows L2
section
variable {c : Cfg} {X : Cx}
theorem set_read {i : Nat} {f : EM} {E : Ends} {σ : L2.St} {H : Hp} (hp : c.PV[i]? = some none) (h : U c (asgM f (gSetM i)) E σ H) : T c f σ H fun x H1 => gName i x σ H1 E.nx := by
  obtain ⟨S, tm, j, p⟩ := h
  refine (post_bindS j p).mono fun v H1 ⟨d, S', j', p'⟩ => ?_
  unfold gSetM at p'
  by_cases hl : i < S'.length
  · rw [if_pos hl] at p'
    exact p' _ _ (j'.setSlot hl hp)
  · rw [if_neg hl] at p'; exact p'.elim
end
end WF
namespace WF
open PySem PySem.Spec PyProof.Rows L2
section
variable {c : Cfg} {X : Cx} {σ : L2.St} {H : Hp} {i : Nat} {fi : IM} {v : Int}
end
end WF
namespace WF
open PySem PySem.Spec PyProof.Rows L2 NdefX
def outOk (K : PySem.W.Frag) (o : Option (Out × List D)) (n : Nat) (vs : List V) (rs : List Pr) (Q : VK) (E : XK) : Prop := match o with
  | some (.ok r, ds') => ds'.length = n ∧ ∀ v H', Joint K H' ((v, r) :: (vs.zip ds' ++ rs)) → Q v H'
  | some (.ex x, ds') => ds'.length = n ∧ ∀ cls dd H', XF K x (vs.zip ds' ++ rs) cls dd H' → E cls dd H'
  | none => False
section
variable {K : PySem.W.Frag} {H : Hp} {vs : List V} {ds : List D} {rs rs' : List Pr} {Q : VK} {E : XK} {mask : List Bool} {fb : SM} {kN : Nat}
theorem outOk.perm {o : Option (Out × List D)} {n : Nat} (p : rs.Perm rs') (h : outOk K o n vs rs Q E) : outOk K o n vs rs' Q E := by
  unfold outOk at h ⊢
  split at h
  · exact ⟨h.1, fun v H' k => h.2 v H' (k.perm (List.Perm.cons _ (List.Perm.append_left _ p.symm)))⟩
  · exact ⟨h.1, fun cls dd H' ⟨fv, x1, x2, x3, k⟩ => h.2 cls dd H' ⟨fv, x1, x2, x3, k.perm (List.Perm.append_left _ (List.Perm.append_left _ p.symm))⟩⟩
  · exact h.elim
theorem outOk.more {o : Option (Out × List D)} {n : Nat} {L : List Pr} (h : outOk K o n vs rs Q E) : outOk K o n vs (L ++ rs) Q E := by
  unfold outOk at h ⊢
  split at h
  · refine ⟨h.1, fun v H' k => h.2 v H' ?_⟩
    have k2 : Joint K H' (L ++ ((v, _) :: (vs.zip _ ++ rs))) := k.perm ((List.Perm.cons _ perm_sw).trans perm_take.symm)
    exact k2.dropL
  · refine ⟨h.1, fun cls dd H' ⟨fv, x1, x2, x3, k⟩ => h.2 cls dd H' ⟨fv, x1, x2, x3, ?_⟩⟩
    have k2 : Joint K H' (L ++ (fv ++ (vs.zip _ ++ rs))) := k.perm ((List.Perm.append_left _ perm_sw).trans perm_sw)
    exact k2.dropL
  · exact h.elim
end
def spOfR (K : PySem.W.Frag) (R : List Pr) (n : Nat) (m : Fn) : Sp := fun vs H Q E => vs.length = n ∧ ∃ ds rs, (∃ Z, rs.Perm (R ++ Z)) ∧ ds.length = n ∧ Joint K H (vs.zip ds ++ rs) ∧ outOk K (m ds) n vs rs Q E
theorem spOfR.sub {K : PySem.W.Frag} {R Z : List Pr} {n : Nat} {m : Fn} {vs : List V} {H : Hp} {Q : VK} {E : XK} (h : spOfR K (R ++ Z) n m vs H Q E) : spOfR K R n m vs H Q E := by
  obtain ⟨h1, ds, rs, ⟨Z', p⟩, h2⟩ := h
  exact ⟨h1, ds, rs, ⟨Z ++ Z', by rw [List.append_assoc] at p; exact p⟩, h2⟩
theorem spOfR.sp {K : PySem.W.Frag} {R : List Pr} {n : Nat} {m : Fn} {vs : List V} {H : Hp} {Q : VK} {E : XK} (h : spOfR K R n m vs H Q E) : spOf K n m vs H Q E := by
  obtain ⟨h1, ds, rs, _, h2, h3, h4⟩ := h
  exact ⟨h1, ds, rs, h2, h3, h4⟩
section
variable {P : Program} {w : World} {K : PySem.W.Frag} {mg : Str → Option Value} {base : Heap}
end
section
variable {c : Cfg} {X : Cx} {k : Nat} {f : Addr} {fd : FuncData} {ps : List Str} {n : Nat} {m : Fn} {x : Str} {p pos : Pos} {e : Expr} {es : List Expr} {as : List Ar} {R : List Pr}
end
end WF
namespace WF
open PySem PySem.Spec PyProof.Rows L2 NdefX
section
variable {K : PySem.W.Frag} {G H : Hp} {L R : List Pr} {fp : List Addr}
structure Tbs (K : PySem.W.Frag) (G H : Hp) (L : List Pr) (fp : List Addr) (l : List NTab) : Prop where
  sub : (l.map Prod.fst).Sublist fp
  tab : ∀ p ∈ l, TabG G H p.1 p.2
  mem : ∀ P nm, (V.ref P, D.tab nm) ∈ L → (P, nm) ∈ l
  own : ∀ a ∈ fp, ∃ o, H a = some o ∧ (∀ φ, o ≠ .ext φ) ∧ ((∀ ps, o ≠ .tbl ps) ∨ a ∈ l.map Prod.fst)
  re : ∀ G' H', GSub G G' → (∀ a o, a ∈ fp → H a = some o → (∀ ps, o ≠ .tbl ps) → H' a = some o) → (∀ p ∈ l, TabG G' H' p.1 p.2) → Reps K G' H' L fp
theorem Tbs.step {x : Pr} {l : List NTab} (t : Tbs K G H L fp l) (hx : ∀ P nm, x ≠ (V.ref P, D.tab nm)) (hr : ∀ G' H', GSub G G' → Reps K G' H' L fp → Reps K G' H' (x :: L) fp) : Tbs K G H (x :: L) fp l :=
  ⟨t.sub, t.tab, fun P nm h => by
    rcases List.mem_cons.mp h with e | e
    · exact (hx P nm e.symm).elim
    · exact t.mem P nm e, t.own, fun G' H' g h t' => hr G' H' g (t.re G' H' g h t')⟩
theorem Tbs.two {x : Pr} {C : List Pr} {f : List Addr} {l1 l2 : List NTab} {os : List Addr} (t1 : Tbs K G H C f l1) (t2 : Tbs K G H L fp l2) (hx : ∀ P nm, x ≠ (V.ref P, D.tab nm)) (ho : ∀ a ∈ os, ∃ o, H a = some o ∧ (∀ φ, o ≠ .ext φ) ∧ ∀ ps, o ≠ .tbl ps)
    (hr : ∀ G' H', GSub G G' → (∀ a o, a ∈ os → H a = some o → H' a = some o) → Reps K G' H' C f → Reps K G' H' L fp → Reps K G' H' (x :: L) (os ++ (f ++ fp))) : Tbs K G H (x :: L) (os ++ (f ++ fp)) (l1 ++ l2) :=
  ⟨by rw [List.map_append]; exact (t1.sub.append t2.sub).trans (List.sublist_append_right _ _), fun p hp => (List.mem_append.mp hp).elim (t1.tab p) (t2.tab p), fun P nm h => by
    rcases List.mem_cons.mp h with e | e
    · exact (hx P nm e.symm).elim
    · exact List.mem_append_right _ (t2.mem P nm e), fun a h => by
    rcases List.mem_append.mp h with h | h
    · obtain ⟨o, h1, h2, h3⟩ := ho a h
      exact ⟨o, h1, h2, .inl h3⟩
    · rcases List.mem_append.mp h with h | h
      · obtain ⟨o, h1, h2, h3⟩ := t1.own a h
        exact ⟨o, h1, h2, h3.imp id fun z => by rw [List.map_append]; exact List.mem_append_left _ z⟩
      · obtain ⟨o, h1, h2, h3⟩ := t2.own a h
        exact ⟨o, h1, h2, h3.imp id fun z => by rw [List.map_append]; exact List.mem_append_right _ z⟩, fun G' H' g h t' =>
    hr G' H' g (fun a o m e => by
      obtain ⟨o', h1, _, h3⟩ := ho a m
      rw [e] at h1
      cases h1
      exact h a o (List.mem_append_left _ m) e h3) (t1.re G' H' g (fun a o m => h a o (List.mem_append_right _ (List.mem_append_left _ m))) fun p hp => t' p (List.mem_append_left _ hp))
      (t2.re G' H' g (fun a o m => h a o (List.mem_append_right _ (List.mem_append_right _ m))) fun p hp => t' p (List.mem_append_right _ hp))⟩
theorem Reps.tabs (r : Reps K G H L fp) : ∃ l, Tbs K G H L fp l := by
  induction r with
  | nil => exact ⟨[], List.Sublist.slnil, (fun _ h => nomatch h), (fun _ _ h => nomatch h), (fun _ h => nomatch h), fun _ _ _ _ _ => Reps.nil⟩
  | un _ ih => obtain ⟨l, t⟩ := ih; exact ⟨l, t.step (fun _ _ e => by cases e) fun _ _ _ r => .un r⟩
  | non _ ih => obtain ⟨l, t⟩ := ih; exact ⟨l, t.step (fun _ _ e => by cases e) fun _ _ _ r => .non r⟩
  | bl _ ih => obtain ⟨l, t⟩ := ih; exact ⟨l, t.step (fun _ _ e => by cases e) fun _ _ _ r => .bl r⟩
  | int _ ih => obtain ⟨l, t⟩ := ih; exact ⟨l, t.step (fun _ _ e => by cases e) fun _ _ _ r => .int r⟩
  | str _ ih => obtain ⟨l, t⟩ := ih; exact ⟨l, t.step (fun _ _ e => by cases e) fun _ _ _ r => .str r⟩
  | vl _ ih => obtain ⟨l, t⟩ := ih; exact ⟨l, t.step (fun _ _ e => by cases e) fun _ _ _ r => .vl r⟩
  | con q a _ ih => obtain ⟨l, t⟩ := ih; exact ⟨l, t.step (fun _ _ e => by cases e) fun _ _ g r => .con q (g _ _ a) r⟩
  | scr a _ ih => obtain ⟨l, t⟩ := ih; exact ⟨l, t.step (fun _ _ e => by cases e) fun _ _ g r => .scr (sqL_mono g a) r⟩
  | @hld p u L fp q a _ ih =>
    obtain ⟨l, t⟩ := ih
    refine ⟨l, t.sub.cons _, t.tab, fun P nm h => ?_, fun b h => ?_, fun G' H' g h t' => .hld q (h _ _ List.mem_cons_self a q.2.1) (t.re G' H' g (fun b o m => h b o (List.mem_cons_of_mem _ m)) t')⟩
    · rcases List.mem_cons.mp h with e | e
      · cases e
      · exact t.mem P nm e
    · rcases List.mem_cons.mp h with rfl | h
      · exact ⟨_, a, q.2.2.1, .inl q.2.1⟩
      · exact t.own b h
  | @tab p nm L fp a _ ih =>
    obtain ⟨l, t⟩ := ih
    refine ⟨(p, nm) :: l, t.sub.cons₂ _, fun q hq => ?_, fun P nm' h => ?_, fun b h => ?_, fun G' H' g h t' => .tab (t' _ List.mem_cons_self) (t.re G' H' g (fun b o m => h b o (List.mem_cons_of_mem _ m)) fun q hq => t' q (List.mem_cons_of_mem _ hq))⟩
    · rcases List.mem_cons.mp hq with rfl | hq
      · exact a
      · exact t.tab q hq
    · rcases List.mem_cons.mp h with e | e
      · cases e; exact List.mem_cons_self
      · exact List.mem_cons_of_mem _ (t.mem P nm' e)
    · rcases List.mem_cons.mp h with rfl | h
      · obtain ⟨ps, a, _⟩ := a
        exact ⟨_, a, (fun _ z => by cases z), .inr List.mem_cons_self⟩
      · obtain ⟨o, h1, h2, h3⟩ := t.own b h
        exact ⟨o, h1, h2, h3.imp id fun z => List.mem_cons_of_mem _ z⟩
  | tup a b c _ _ ih1 ih2 =>
    obtain ⟨l1, t1⟩ := ih1; obtain ⟨l2, t2⟩ := ih2
    exact ⟨_, t1.two (os := []) t2 (fun _ _ e => by cases e) (fun _ h => nomatch h) fun _ _ g _ r1 r2 => by have q := Reps.tup (g _ _ a) b c r1 r2; exact q⟩
  | exn a a2 e b c _ _ ih1 ih2 =>
    obtain ⟨l1, t1⟩ := ih1; obtain ⟨l2, t2⟩ := ih2
    exact ⟨_, t1.two (os := []) t2 (fun _ _ e => by cases e) (fun _ h => nomatch h) fun _ _ g _ r1 r2 => by have q := Reps.exn (g _ _ a) (a2.imp id fun ⟨dx, e1, e2⟩ => ⟨dx, e1, g _ _ e2⟩) e b c r1 r2; exact q⟩
  | lf a b c _ _ ih1 ih2 =>
    obtain ⟨l1, t1⟩ := ih1; obtain ⟨l2, t2⟩ := ih2
    exact ⟨_, t1.two (os := []) t2 (fun _ _ e => by cases e) (fun _ h => nomatch h) fun _ _ g _ r1 r2 => by have q := Reps.lf (g _ _ a) b c r1 r2; exact q⟩
  | kf a e b c _ _ ih1 ih2 =>
    obtain ⟨l1, t1⟩ := ih1; obtain ⟨l2, t2⟩ := ih2
    exact ⟨_, t1.two (os := []) t2 (fun _ _ e => by cases e) (fun _ h => nomatch h) fun _ _ g _ r1 r2 => by have q := Reps.kf (g _ _ a) e b c r1 r2; exact q⟩
  | tf a e b c _ _ ih1 ih2 =>
    obtain ⟨l1, t1⟩ := ih1; obtain ⟨l2, t2⟩ := ih2
    exact ⟨_, t1.two (os := []) t2 (fun _ _ e => by cases e) (fun _ h => nomatch h) fun _ _ g _ r1 r2 => by have q := Reps.tf (g _ _ a) e b c r1 r2; exact q⟩
  | of a a2 e b c _ _ ih1 ih2 =>
    obtain ⟨l1, t1⟩ := ih1; obtain ⟨l2, t2⟩ := ih2
    exact ⟨_, t1.two (os := []) t2 (fun _ _ e => by cases e) (fun _ h => nomatch h) fun _ _ g _ r1 r2 => by have q := Reps.of (g _ _ a) (g _ _ a2) e b c r1 r2; exact q⟩
  | lo a b c _ _ ih1 ih2 =>
    obtain ⟨l1, t1⟩ := ih1; obtain ⟨l2, t2⟩ := ih2
    exact ⟨_, t1.two (os := [_]) t2 (fun _ _ e => by cases e) (fun x h => by obtain rfl := List.mem_singleton.mp h; exact ⟨_, a, (fun _ z => by cases z), fun _ z => by cases z⟩) fun _ _ g k r1 r2 => by have q := Reps.lo (k _ _ List.mem_cons_self a) b c r1 r2; exact q⟩
  | ko a e b c _ _ ih1 ih2 =>
    obtain ⟨l1, t1⟩ := ih1; obtain ⟨l2, t2⟩ := ih2
    exact ⟨_, t1.two (os := [_]) t2 (fun _ _ e => by cases e) (fun x h => by obtain rfl := List.mem_singleton.mp h; exact ⟨_, a, (fun _ z => by cases z), fun _ z => by cases z⟩) fun _ _ g k r1 r2 => by have q := Reps.ko (k _ _ List.mem_cons_self a) e b c r1 r2; exact q⟩
  | to a e b c _ _ ih1 ih2 =>
    obtain ⟨l1, t1⟩ := ih1; obtain ⟨l2, t2⟩ := ih2
    exact ⟨_, t1.two (os := [_]) t2 (fun _ _ e => by cases e) (fun x h => by obtain rfl := List.mem_singleton.mp h; exact ⟨_, a, (fun _ z => by cases z), fun _ z => by cases z⟩) fun _ _ g k r1 r2 => by have q := Reps.to (k _ _ List.mem_cons_self a) e b c r1 r2; exact q⟩
  | oo a a2 e b c _ _ ih1 ih2 =>
    obtain ⟨l1, t1⟩ := ih1; obtain ⟨l2, t2⟩ := ih2
    exact ⟨_, t1.two (os := [_, _]) t2 (fun _ _ e => by cases e) (fun x h => by
      rcases List.mem_cons.mp h with rfl | h
      · exact ⟨_, a, (fun _ z => by cases z), fun _ z => by cases z⟩
      · obtain rfl := List.mem_singleton.mp h; exact ⟨_, a2, (fun _ z => by cases z), fun _ z => by cases z⟩) fun _ _ g k r1 r2 => by have q := Reps.oo (k _ _ List.mem_cons_self a) (k _ _ (List.mem_cons_of_mem _ List.mem_cons_self) a2) e b c r1 r2; exact q⟩
theorem Joint.con {p : Addr} {φ : Heap → Prop} (j : Joint K H L) (h : H p = some (.ext φ)) : Joint K H ((.ref p, .con (.ext φ)) :: L) := by
  obtain ⟨G, fp, g, r, n, z⟩ := j
  obtain ⟨l, t⟩ := r.tabs
  have hp : p ∉ fp := fun m => by
    obtain ⟨o, h1, h2, _⟩ := t.own p m
    rw [h] at h1
    exact h2 φ (Option.some.inj h1).symm
  have gg : GSub G (upd G p (.ext φ)) := fun a o e => by
    by_cases ha : a = p
    · subst ha
      rw [upd_same, ← h]
      exact g a o e
    · rw [upd_ne ha]; exact e
  refine ⟨upd G p (.ext φ), fp, fun a o e => ?_, .con (fun _ q => by cases q) upd_same (r.mono gg fun _ _ _ e => e), n, fun a m => ?_⟩
  · by_cases ha : a = p
    · subst ha
      rw [upd_same] at e
      rw [← e]; exact h
    · rw [upd_ne ha] at e; exact g a o e
  · rw [upd_ne (fun q => hp (by rw [← q]; exact m))]
    exact z a m
theorem Joint.dup : ∀ {vs : List V} {ds : List D} {R : List Pr}, D.frzs ds = ds → Joint K H (vs.zip ds ++ R) → Joint K H (vs.zip ds ++ (vs.zip ds ++ R))
  | [], ds, R, _, j => by simpa using j
  | v :: vs, [], R, _, j => by simpa using j
  | v :: vs, d :: ds, R, h, j => by
    simp only [D.frzs, List.cons.injEq] at h
    have j1 : Joint K H ((v, d) :: (vs.zip ds ++ R)) := j
    have j2 := j1.freeze
    rw [h.1] at j2
    have j3 : Joint K H (vs.zip ds ++ ((v, d) :: (v, d) :: R)) := j2.perm ((List.Perm.cons _ perm_take.symm).trans perm_take.symm)
    have j4 := Joint.dup (vs := vs) (ds := ds) h.2 j3
    refine j4.perm ?_
    show (vs.zip ds ++ (vs.zip ds ++ (v, d) :: (v, d) :: R)).Perm ((v, d) :: (vs.zip ds ++ ((v, d) :: (vs.zip ds ++ R))))
    refine (List.Perm.append_left _ perm_take).trans (perm_take.trans (List.Perm.cons _ (List.Perm.append_left _ perm_take)))
end
def spN (K : PySem.W.Frag) (n : Nat) (m : Fn) (ws : List (Option V)) : Sp := fun vs H Q E => vs.length = n ∧ ∃ wv ds dw rs, ws = wv.map some ∧ ds.length = n ∧ dw.length = wv.length ∧ Joint K H ((vs ++ wv).zip (ds ++ dw) ++ rs) ∧ outOk K (m (ds ++ dw)) (n + wv.length) (vs ++ wv) rs Q E
section
variable {P : Program} {w : World} {K : PySem.W.Frag} {mg : Str → Option Value} {base : Heap} {N nps fr : List Str} {F : NF} {f : Addr} {k : Nat} {mask : List Bool} {fb : SM}
end
end WF
namespace WF
open PySem PySem.Spec PyProof.Rows L2 NdefX
def gmF (g : Fn) (dw : List D) : Fn := fun ds => match g (ds ++ dw) with
  | some (o, ds') => if ds'.length = ds.length + dw.length then some (o, ds'.take ds.length) else none
  | none => none
structure Clo (X : Cx) (c : Cfg) (y : Str) (n : Nat) (gm : Fn) : Prop where
  pe : ∀ {p pos : Pos} {e : Expr} {es : List Expr} {as : List Ar}, PA X (e :: es) (tArgsA c as) → as.length = n → starEach (e :: es) X.env = (false, eval e X.env) :: starEach es X.env → (backTo pos (starEach es X.env)).any (·.1) = false →
    PE X (.Call (.Name y p) (e :: es) [] pos) (T c (callM gm as))
section
variable {X : Cx} {c : Cfg} {y : Str} {n : Nat} {gm : Fn}
end
structure GetsOk (P : Program) (w : World) (K : PySem.W.Frag) (mg : Str → Option Value) (base : Heap) (k : Nat) (fsl : Addr) (fd : FuncData) (ps : List Str) (n i : Nat) (m : Fn → Fn) : Prop where
  run : ∀ {A : Around} {outer : List Env} {s : Shared} {H : Hp} {args : Args} {us : List Value} {vs : List V} {Q : VK} {E : XK} {F : NF} {f : Addr} {nps fr : List Str} {wv : List V} {ds dw : List D} {rs : List Pr} {g : Fn} {k1 : Nat},
    Room (k + 1) A → Env0 P w K mg base A outer s H → BindsTo s fd args (ps.zip us) → Vals vs us → vs.length = ps.length → NOk P w K mg base (L2.CX P w) k1 f F nps fr (spN K n g) → k1 ≤ k → CellsAt F.cl fr (wv.map some) s.heap H →
    (∀ y c, F.cl.lookup y = some c → c ∉ frs outer) → vs[i]? = some (.ref f) → H f = some (FnO f F) → H F.c = some (LamX.CodeO F.c F.qual) → ds.length = ps.length → D.frzs dw = dw → dw.length = wv.length → Joint K H (vs.zip ds ++ (wv.zip dw ++ rs)) →
    outOk K (m (gmF g dw) ds) ps.length vs (wv.zip dw ++ rs) Q E → codeAny (model P w) A (.call (.ref fsl) args) (CR (L2.CX P w) outer P w H s Q E) s
section
variable {P : Program} {w : World} {K : PySem.W.Frag} {mg : Str → Option Value} {base : Heap}
end
def capD (S : S0) : List Nat → Option (List D)
  | [] => some []
  | i :: r => match S[i]? with
    | some d => if isUn d then none else (capD S r).map (d.frz :: ·)
    | none => none
def frzAt (S : S0) : List Nat → S0
  | [] => S
  | i :: r => (frzAt S r).set i ((S.getD i .un).frz)
def cloM (m : Fn → Fn) (g : Fn) (cap : List Nat) (fe : EM) : EM := bindM fe fun d S => match capD S cap with
  | some dw => (match m (gmF g dw) [d, .un] with
    | some (o, ds') => if ds'.length = 2 then some (o, frzAt S cap) else none
    | none => none)
  | none => none
def cloS (i : Nat) (m : Fn → Fn) (g : Fn) (cap : List Nat) (fe : EM) : SM := fun S => retS (cloM m g cap fe) (S.set i .un)
section
variable {c : Cfg} {S : S0} {tm : List Pr} {σ : L2.St} {H : Hp}
end
section
variable {X : Cx} {c : Cfg} {i k n : Nat} {x y : Str} {fsl cc Pt : Addr} {fd : FuncData} {ps nps fr : List Str} {m : Fn → Fn} {g : Fn} {cap : List Nat} {nst : Stmt} {fe : EM} {e : Expr} {npos p q pos pos2 : Pos} {nmf : Nat → Nat → Str} {k1 : Nat}
end
end WF
namespace WF
open PySem PySem.Spec PyProof.Rows L2 NdefX
section
variable {P : Program} {w : World} {K : PySem.W.Frag} {mg : Str → Option Value} {base : Heap}
end
section
variable {K : PySem.W.Frag} {H : Hp}
end
section
variable {c : Cfg} {X : Cx} {k : Nat} {f : Addr} {fd : FuncData} {ps : List Str} {n : Nat} {m : Fn} {x : Str} {p pos : Pos} {e : Expr} {es : List Expr} {as bs : List Ar} {ks : List Str} {kws : List Keyword} {R : List Pr}
variable {ix inv : List Nat} {dvs : List V} {dd : List D} {its : List Value}
end
theorem wE_cl {m : Fn → Fn} {g : Fn} {cap : List Nat} {d : D} {S : S0} {Q : D → S0 → Prop} : wE (fun S => match capD S cap with
    | some dw => (match m (gmF g dw) [d, .un] with
      | some (o, ds') => if ds'.length = 2 then some (o, frzAt S cap) else none
      | none => none)
    | none => none) S Q ↔ ∃ dw, capD S cap = some dw ∧ wF (m (gmF g dw)) [d, .un] fun r ds => ds.length = 2 ∧ Q r (frzAt S cap) := by
  unfold wE wF
  show WF0.oE _ Q ↔ ∃ dw, _ ∧ WF0.oE _ _
  cases h : capD S cap with
  | none => simp [WF0.oE, h]
  | some dw =>
    cases h2 : m (gmF g dw) [d, .un] with
    | none => simp [WF0.oE, h, h2]
    | some o =>
      obtain ⟨o, ds'⟩ := o
      by_cases hl : ds'.length = 2
      · cases o <;> simp [WF0.oE, h, h2, hl]
      · cases o <;> simp [WF0.oE, h, h2, hl]
@[simp] theorem wS_clo {i : Nat} {m : Fn → Fn} {g : Fn} {cap : List Nat} {fe : EM} {S : S0} {Q : Fl → S0 → Prop} : wS (cloS i m g cap fe) S Q ↔ wE fe (S.set i .un) fun d S => ∃ dw, capD S cap = some dw ∧ wF (m (gmF g dw)) [d, .un] fun r ds => ds.length = 2 ∧ Q (.rt r) (frzAt S cap) := by
  have e : wS (cloS i m g cap fe) S Q ↔ wS (retS (cloM m g cap fe)) (S.set i .un) Q := by
    unfold wS
    exact Iff.rfl
  rw [e, wS_ret, cloM, wE_bind]
  have e2 : (fun d S => wE ((fun d S => match capD S cap with
    | some dw => (match m (gmF g dw) [d, .un] with
      | some (o, ds') => if ds'.length = 2 then some (o, frzAt S cap) else none
      | none => none)
    | none => none) d) S fun d S => Q (.rt d) S) = fun d S => ∃ dw, capD S cap = some dw ∧ wF (m (gmF g dw)) [d, .un] fun r ds => ds.length = 2 ∧ Q (.rt r) (frzAt S cap) := by
    funext d S
    exact propext wE_cl
  exact Iff.of_eq (congrArg (fun q => wE fe (S.set i .un) q) e2)
end WF
namespace WC
open WF PySem
noncomputable def b__law_draw (m : Fn) : SM := (seqM (ifS (roM (op2 gtD) [.v (hasM 0 (ixS 0 (retM (.int 0)))), .v (retM (.int 0))]) (seqM (asgM (cbM divmodD [(hasM 0 (ixS 0 (retM (.int 0)))), (varM 1)]) (gTupM 2 (gConsM (gSubM 0 (retM (.int 0))) (gConsM (gSetM 2) gNilM))))
    (retS (takeM 2))) skipM)
    (seqM (ifS (roM (op2 gtD) [.s 1, .v (binM powD (retM (.int 10)) (retM (.int 7)))]) (retS (binM modD (binM addD (callM m [.s 0, .v (frzM (binM powD (retM (.int 10)) (retM (.int 7))))]) (binM mulD2 (binM powD (retM (.int 10)) (retM (.int 7))) (callM m [.s 0, .v (frzM (binM addD (binM fdivD (binM subD (varM 1) (retM (.int 1))) (binM powD (retM (.int 10)) (retM (.int 7)))) (retM (.int 1))))]))) (varM 1))) skipM)
    (seqM (asgM (binM addD (hasM 0 (ixS 0 (retM (.int 2)))) (retM (.int 1))) (gSubM 0 (retM (.int 2))))
    (seqM (asgM (binM addD (retM (.int 69621)) (binM mulD2 (hasM 0 (ixS 0 (retM (.int 2)))) (hasM 0 (ixS 0 (retM (.int 2)))))) (gSetM 3))
    (seqM (asgM (binM modD (binM mulD2 (binM addD (hasM 0 (ixS 0 (retM (.int 1)))) (binM mulD2 (retM (.int 39373)) (hasM 0 (ixS 0 (retM (.int 2)))))) (varM 3)) (retM (.int 2147483587))) (gSetM 4))
    (seqM (asgM (binM modD (binM addD (binM mulD2 (varM 4) (binM addD (binM modD (varM 4) (retM (.int 30011))) (retM (.int 5)))) (hasM 0 (ixS 0 (retM (.int 2))))) (retM (.int 2147483563))) (gSetM 5))
    (retS (binM modD (binM fdivD (binM modD (binM mulD2 (varM 5) (binM addD (binM modD (varM 5) (retM (.int 1013))) (retM (.int 3)))) (retM (.int 998244353))) (retM (.int 16))) (varM 1)))))))))
noncomputable def m__law_draw : Nat → Fn
  | 0 => fun _ => none
  | n + 1 => defM [true, true] 6 (b__law_draw (m__law_draw n))
noncomputable def b__law_pick : SM := (retS (hasM 1 (ixS 1 (callM (m__law_draw 12) [.s 0, .v (frzM (roM lenD [.s 1]))]))))
noncomputable def m__law_pick : Fn := defM [true, true] 2 b__law_pick
noncomputable def b__law_random_state : SM := (retS (cbM tupleD [(compM [2, 3] (seqI (hasM 1 (ixS 1 (retM (.int 1))))) (gTupM 2 (gConsM (gSetM 2) (gConsM (gSetM 3) gNilM))) none (callM m__law_pick [.s 0, .v (frzM (lstM [(retM (.int 0)), (varM 3), (callM (m__law_draw 12) [.s 0, .v (frzM (binM addD (varM 3) (retM (.int 1))))])]))]))]))
noncomputable def m__law_random_state : Fn := defM [true, true] 4 b__law_random_state
noncomputable def b__law_weight : SM := (retS (ifM (roM (op2 ltD) [.s 1, .v (retM (.int 0))]) (retM (.int 0)) (binM ixD (binM ixD (hasM 0 (ixS 0 (retM (.int 1)))) (varM 1)) (retM (.int 0)))))
noncomputable def m__law_weight : Fn := defM [true, true] 2 b__law_weight
noncomputable def b__law_all_moves : SM := (seqM (asgM (lstM []) (gSetM 1))
    (seqM (forM (rng1M (roM lenD [.v (hasM 0 (ixS 0 (retM (.int 1))))])) (gSetM 2)
    (seqM (asgM (binM subD (callM m__law_weight [.v (varM 0), .v (varM 2)]) (hasM 0 (ixS 0 (retM (.int 0))))) (gSetM 3))
    (asgM (binM addD (varM 1) (compM [4] (rng2M (unM negD (retM (.int 1))) (varM 2)) (gSetM 4) (some (roM (op2 geD) [.v (callM m__law_weight [.v (varM 0), .v (varM 4)]), .s 3])) (tupM [(varM 2), (varM 4)]))) (gSetM 1))))
    (retS (takeM 1))))
noncomputable def m__law_all_moves : Fn := defM [true] 5 b__law_all_moves
noncomputable def b__law_legal_moves : SM := (seqM (asgM (lstM []) (gSetM 2))
    (seqM (forM (seqI (callM m__law_all_moves [.v (varM 0)])) (gTupM 2 (gConsM (gSetM 3) (gConsM (gSetM 4) gNilM)))
    (ifS (andM (roM (op2 ltD) [.v (hasM 1 (ixS 1 (varM 3))), .v (binM ixD (binM ixD (hasM 0 (ixS 0 (retM (.int 1)))) (varM 3)) (retM (.int 1)))]) (orM (roM (op2 ltD) [.s 4, .v (retM (.int 0))]) (roM (op2 gtD) [.v (hasM 1 (ixS 1 (varM 4))), .v (retM (.int 0))]))) (exprS (appM 2 (tupM [(varM 3), (varM 4)]))) skipM))
    (retS (takeM 2))))
noncomputable def m__law_legal_moves : Fn := defM [true, true] 5 b__law_legal_moves
noncomputable def b__law_applied : SM := (seqM (asgM (cbM listD [(varM 0)]) (gSetM 3))
    (seqM (asgM (binM addD (hasM 3 (ixS 3 (hasM 1 (ixS 1 (retM (.int 0)))))) (varM 2)) (gSubM 3 (hasM 1 (ixS 1 (retM (.int 0))))))
    (seqM (ifS (roM (op2 geD) [.v (hasM 1 (ixS 1 (retM (.int 1)))), .v (retM (.int 0))]) (asgM (binM subD (hasM 3 (ixS 3 (hasM 1 (ixS 1 (retM (.int 1)))))) (varM 2)) (gSubM 3 (hasM 1 (ixS 1 (retM (.int 1)))))) skipM)
    (retS (cbM tupleD [(varM 3)])))))
noncomputable def m__law_applied : Fn := defM [true, true, true] 4 b__law_applied
noncomputable def b__law_random_jumps : SM := (seqM (asgM (lstM []) (gSetM 4))
    (seqM (forM (rng1M (varM 3)) (gSetM 5)
    (seqM (asgM (callM m__law_legal_moves [.v (varM 1), .v (varM 2)]) (gSetM 6))
    (ifS (roM (op2 (eqD true)) [.s 6, .v (lstM [])]) (seqM (asgM (callM m__law_pick [.s 0, .v (varM 6)]) (gTupM 2 (gConsM (gSetM 7) (gConsM (gSetM 8) gNilM))))
    (seqM (asgM (binM subD (binM ixD (binM ixD (hasM 1 (ixS 1 (retM (.int 1)))) (varM 7)) (retM (.int 1))) (hasM 2 (ixS 2 (varM 7)))) (gSetM 9))
    (seqM (asgM (ifM (roM (op2 ltD) [.s 8, .v (retM (.int 0))]) (varM 9) (roM minD2 [.s 9, .v (hasM 2 (ixS 2 (varM 8)))])) (gSetM 9))
    (seqM (asgM (callM m__law_pick [.s 0, .v (frzM (lstM [(retM (.int 1)), (varM 9), (binM addD (retM (.int 1)) (callM (m__law_draw 12) [.s 0, .v (varM 9)]))]))]) (gSetM 10))
    (seqM (asgM (callM m__law_applied [.v (varM 2), .v (tupM [(varM 7), (varM 8)]), .v (varM 10)]) (gSetM 2))
    (exprS (appM 4 (tupM [(varM 7), (varM 8), (varM 10)])))))))) skipM)))
    (retS (tupM [(varM 2), (varM 4)]))))
noncomputable def m__law_random_jumps : Fn := defM [true, true, false, true] 11 b__law_random_jumps
noncomputable def b__law_all_stands : SM := (seqM (asgM (lstM [(tupM [])]) (gSetM 1))
    (seqM (forM (seqI (hasM 0 (ixS 0 (retM (.int 1))))) (gTupM 2 (gConsM (gSetM 2) (gConsM (gSetM 3) gNilM)))
    (seqM (asgM (lstM []) (gSetM 4))
    (seqM (forM (seqI (varM 1)) (gSetM 5)
    (asgM (binM addD (varM 4) (compM [6] (rng1M (binM addD (varM 3) (retM (.int 1)))) (gSetM 6) none (binM addD (varM 5) (tupM [(varM 6)])))) (gSetM 4)))
    (asgM (varM 4) (gSetM 1)))))
    (retS (takeM 1))))
noncomputable def m__law_all_stands : Fn := defM [true] 7 b__law_all_stands
noncomputable def b__law_as_lists (m : Fn) : SM := (retS (ifM (roM isiD [.s 0, .v (tupM [(retM (.vl (.ty "list"))), (retM (.vl (.ty "tuple")))])]) (compM [1] (walkM comb1 [.s 0]) (gSetM 1) none (callM m [.v (varM 1)])) (varM 0)))
noncomputable def m__law_as_lists : Nat → Fn
  | 0 => fun _ => none
  | n + 1 => defM [true] 2 (b__law_as_lists (m__law_as_lists n))
noncomputable def b_segment_starts : SM := (seqM (asgM (lstM []) (gSetM 1))
    (seqM (forM (walkM enumD [.v (hasM 0 (ixS 0 (retM (.int 1))))]) (gTupM 2 (gConsM (gSetM 2) (gConsM (gTupM 2 (gConsM (gSetM 3) (gConsM (gSetM 4) gNilM))) gNilM)))
    (seqM (asgM (andM (roM (op2 gtD) [.s 2, .v (retM (.int 0))]) (roM (op2 leD) [.v (binM subD (varM 3) (binM ixD (binM ixD (hasM 0 (ixS 0 (retM (.int 1)))) (binM subD (varM 2) (retM (.int 1)))) (retM (.int 0)))), .v (hasM 0 (ixS 0 (retM (.int 0))))])) (gSetM 5))
    (exprS (appM 1 (ifM (varM 5) (hasM 1 (ixS 1 (unM negD (retM (.int 1))))) (varM 2))))))
    (retS (takeM 1))))
noncomputable def m_segment_starts : Fn := defM [true] 6 b_segment_starts
noncomputable def b_segments : SM := (seqM (asgM (lstM []) (gSetM 1))
    (seqM (forM (walkM enumD [.v (callM m_segment_starts [.v (varM 0)])]) (gTupM 2 (gConsM (gSetM 2) (gConsM (gSetM 3) gNilM)))
    (seqM (ifS (roM (op2 (eqD false)) [.s 2, .s 3]) (exprS (appM 1 (lstM []))) skipM)
    (exprS (app2M 1 (unM negD (retM (.int 1))) 2))))
    (retS (takeM 1))))
noncomputable def m_segments : Fn := defM [true] 4 b_segments
noncomputable def b_is_grounded : SM := (retS (roM (op2 leD) [.v (binM ixD (binM ixD (hasM 0 (ixS 0 (retM (.int 1)))) (retM (.int 0))) (retM (.int 0))), .v (hasM 0 (ixS 0 (retM (.int 0))))]))
noncomputable def m_is_grounded : Fn := defM [true] 1 b_is_grounded
noncomputable def b_suffix_counts : SM := (seqM (asgM (callM m_segment_starts [.v (varM 0)]) (gSetM 2))
    (retS (cbM tupleD [(compM [3, 4] (walkM enumD [.v (varM 2)]) (gTupM 2 (gConsM (gSetM 3) (gConsM (gSetM 4) gNilM))) none (roM sumD [.v (compM [5, 6] (walkM enumD [.s 1]) (gTupM 2 (gConsM (gSetM 5) (gConsM (gSetM 6) gNilM))) (some (andM (roM (op2 geD) [.s 5, .s 3]) (roM (op2 (eqD false)) [.v (hasM 2 (ixS 2 (varM 5))), .s 4]))) (varM 6))]))])))
noncomputable def m_suffix_counts : Fn := defM [true, true] 7 b_suffix_counts
noncomputable def b_conserved_starts : SM := (retS (compM [1] (seqI (callM m_segments [.v (varM 0)])) (gSetM 1) (some (orM (roM (op2 gtD) [.v (hasM 1 (ixS 1 (retM (.int 0)))), .v (retM (.int 0))]) (notM (callM m_is_grounded [.v (varM 0)])))) (hasM 1 (ixS 1 (retM (.int 0))))))
noncomputable def m_conserved_starts : Fn := defM [true] 2 b_conserved_starts
noncomputable def b_state_from_counts : SM := (seqM (par2M 2 3 [(callM m_segment_starts [.v (varM 0)]), (lstM [])])
    (seqM (forM (walkM enumD [.v (varM 2)]) (gTupM 2 (gConsM (gSetM 4) (gConsM (gSetM 5) gNilM)))
    (seqM (asgM (orM (roM (op2 (eqD false)) [.v (binM addD (varM 4) (retM (.int 1))), .v (roM lenD [.s 2])]) (roM (op2 (eqD true)) [.v (hasM 2 (ixS 2 (binM addD (varM 4) (retM (.int 1))))), .s 5])) (gSetM 6))
    (exprS (appM 3 (binM subD (hasM 1 (ixS 1 (varM 4))) (ifM (varM 6) (retM (.int 0)) (hasM 1 (ixS 1 (binM addD (varM 4) (retM (.int 1)))))))))))
    (retS (cbM tupleD [(varM 3)]))))
noncomputable def m_state_from_counts : Fn := defM [true, true] 7 b_state_from_counts
noncomputable def b_are_compatible : SM := (seqM (asgM (tupM [(callM m_suffix_counts [.v (varM 0), .v (varM 1)]), (callM m_suffix_counts [.v (varM 0), .v (varM 2)])]) (gTupM 2 (gConsM (gSetM 3) (gConsM (gSetM 4) gNilM))))
    (retS (roM allD [.v (compM [5] (seqI (callM m_conserved_starts [.v (varM 0)])) (gSetM 5) none (roM (op2 (eqD false)) [.v (hasM 3 (ixS 3 (varM 5))), .v (hasM 4 (ixS 4 (varM 5)))]))])))
noncomputable def m_are_compatible : Fn := defM [true, true, true] 6 b_are_compatible
noncomputable def b_combine : SM := (seqM (ifS (notM (callM m_are_compatible [.v (varM 0), .v (varM 1), .v (varM 2)])) (retS (retM .non)) skipM)
    (seqM (asgM (lstM []) (gSetM 4))
    (seqM (forM (walkM (zip2D true) [.v (callM m_suffix_counts [.v (varM 0), .v (varM 1)]), .v (callM m_suffix_counts [.v (varM 0), .v (varM 2)])]) (gTupM 2 (gConsM (gSetM 5) (gConsM (gSetM 6) gNilM)))
    (exprS (appM 4 (ifM (varM 3) (roM maxD2 [.s 5, .s 6]) (roM minD2 [.s 5, .s 6])))))
    (retS (callM m_state_from_counts [.v (varM 0), .v (varM 4)])))))
noncomputable def m_combine : Fn := defM [true, true, true, true] 7 b_combine
noncomputable def b_join : SM := (retS (callM m_combine [.v (varM 0), .v (varM 1), .v (varM 2), .v (retM (.bl true))]))
noncomputable def m_join : Fn := defM [true, true, true] 3 b_join
noncomputable def b_meet : SM := (retS (callM m_combine [.v (varM 0), .v (varM 1), .v (varM 2), .v (retM (.bl false))]))
noncomputable def m_meet : Fn := defM [true, true, true] 3 b_meet
noncomputable def b__law_random_well : SM := (seqM (par3M 3 4 5 [(callM m__law_pick [.s 0, .v (frzM (lstM [(retM (.int 2)), (retM (.int 4)), (retM (.int 9)), (binM powD (retM (.int 10)) (retM (.int 10)))]))]), (lstM []), (retM (.int 0))])
    (seqM (forM (rng1M (binM addD (retM (.int 1)) (callM (m__law_draw 12) [.s 0, .v (varM 1)]))) (gSetM 6)
    (seqM (asgM (binM addD (binM addD (varM 5) (retM (.int 1))) (callM (m__law_draw 12) [.s 0, .v (varM 3)])) (gSetM 5))
    (exprS (appM 4 (tupM [(varM 5), (callM m__law_pick [.s 0, .v (frzM (lstM [(retM (.int 1)), (retM (.int 1)), (binM addD (retM (.int 1)) (callM (m__law_draw 12) [.s 0, .v (varM 2)]))]))])])))))
    (seqM (asgM (compM [9, 10] (walkM (zip2D false) [.s 4, .v (binM addD (lstM [(retM (.int 0))]) (compM [9] (walkM comb1 [.s 4]) (gSetM 9) none (hasM 9 (ixS 9 (retM (.int 0))))))]) (gTupM 2 (gConsM (gSetM 9) (gConsM (gSetM 10) gNilM))) none (binM subD (hasM 9 (ixS 9 (retM (.int 0)))) (varM 10))) (gSetM 7))
    (seqM (asgM (lstM [(roM maxD1 [.s 7]), (roM maxD1 [.s 7]), (callM m__law_pick [.s 0, .v (varM 7)]), (binM addD (retM (.int 1)) (callM (m__law_draw 12) [.s 0, .v (varM 5)])), (binM mulD2 (retM (.int 2)) (roM maxD1 [.s 7])), (varM 5)]) (gSetM 8))
    (retS (tupM [(callM m__law_pick [.s 0, .v (varM 8)]), (cbM tupleD [(varM 4)])]))))))
noncomputable def m__law_random_well : Fn := defM [true, true, true] 11 b__law_random_well
noncomputable def b__law_same (m : Fn) : SM := (seqM (ifS (roM isiD [.s 1, .v (tupM [(retM (.vl (.ty "list"))), (retM (.vl (.ty "tuple")))])]) (seqM (ifS (orM (roM (op2 (eqD true)) [.v (roM isiD [.s 0, .v (retM (.vl (.ty "list")))]), .v (roM isiD [.s 1, .v (retM (.vl (.ty "list")))])]) (roM (op2 (eqD true)) [.v (roM isiD [.s 0, .v (retM (.vl (.ty "tuple")))]), .v (roM isiD [.s 1, .v (retM (.vl (.ty "tuple")))])])) (retS (retM (.bl false))) skipM)
    (retS (andM (roM (op2 (eqD false)) [.v (roM lenD [.s 0]), .v (roM lenD [.s 1])]) (roM allD [.v (compM [2, 3] (walkM (zip2D false) [.s 0, .s 1]) (gTupM 2 (gConsM (gSetM 2) (gConsM (gSetM 3) gNilM))) none (callM m [.v (varM 2), .v (varM 3)]))])))) skipM)
    (seqM (ifS (orM (roM (op2 (isD false)) [.s 1, .v (retM .non)]) (roM isiD [.s 1, .v (retM (.vl (.ty "str")))])) (retS (andM (roM (op2 (eqD false)) [.s 0, .s 1]) (roM (op2 (eqD false)) [.v (roM isiD [.s 0, .v (retM (.vl (.ty "str")))]), .v (roM isiD [.s 1, .v (retM (.vl (.ty "str")))])]))) skipM)
    (retS (andM (roM isiD [.s 0, .v (retM (.vl (.ty "int")))]) (andM (roM (op2 (eqD false)) [.v (roM isiD [.s 0, .v (retM (.vl (.ty "bool")))]), .v (roM isiD [.s 1, .v (retM (.vl (.ty "bool")))])]) (roM (op2 (eqD false)) [.s 0, .s 1]))))))
noncomputable def m__law_same : Nat → Fn
  | 0 => fun _ => none
  | n + 1 => defM [true, true] 4 (b__law_same (m__law_same n))
noncomputable def b__law_distances : SM := (seqM (par3M 2 3 4 [(dispT (varM 1) (retM (.int 0))), (lstM [(varM 1)]), (retM (.int 0))])
    (seqM (whileM (roM (op2 (eqD true)) [.s 3, .v (lstM [])])
    (seqM (par2M 5 4 [(lstM []), (binM addD (varM 4) (retM (.int 1)))])
    (seqM (forM (seqI (varM 3)) (gSetM 6)
    (forM (seqI (callM m__law_legal_moves [.v (varM 0), .v (varM 6)])) (gSetM 7)
    (seqM (asgM (callM m__law_applied [.v (varM 6), .v (varM 7), .v (retM (.int 1))]) (gSetM 8))
    (ifS (dinM true 2 (varM 8)) (seqM (dputM 2 (varM 8) (varM 4))
    (exprS (appM 5 (varM 8)))) skipM))))
    (asgM (varM 5) (gSetM 3)))))
    (retS (takeM 2))))
noncomputable def m__law_distances : Fn := defM [true, true] 9 b__law_distances
noncomputable def b__law_fold : SM := (seqM (asgM (cbM listD [(sliceM (varM 0) none (some (varM 1)))]) (gSetM 2))
    (seqM (forM (walkM enumD [.v (sliceM (varM 0) (some (varM 1)) (some (retM (.int 63))))]) (gTupM 2 (gConsM (gSetM 3) (gConsM (gSetM 4) gNilM)))
    (asgM (binM addD (hasM 2 (ixS 2 (binM modD (varM 3) (varM 1)))) (binM mulD2 (varM 4) (binM addD (varM 3) (retM (.int 2))))) (gSubM 2 (binM modD (varM 3) (varM 1)))))
    (retS (takeM 2))))
noncomputable def m__law_fold : Fn := defM [true, true] 5 b__law_fold
noncomputable def b__law_right_v13 : SM := (seqM (forM (rng1M (retM (.int 3))) (gSetM 1)
    (seqM (asgM (callM m__law_random_well [.s 0, .v (retM (.int 4)), .v (retM (.int 2))]) (gSetM 2))
    (seqM (asgM (callM m__law_random_state [.s 0, .v (varM 2)]) (gSetM 3))
    (forM (seqI (tupM [(callM m__law_random_state [.s 0, .v (varM 2)]), (binM ixD (callM m__law_random_jumps [.s 0, .v (varM 2), .v (varM 3), .v (retM (.int 2))]) (retM (.int 0))), (varM 3)])) (gSetM 4)
    (seqM (asgM (tupM [(callM m__law_distances [.v (varM 2), .v (varM 3)]), (callM m__law_distances [.v (varM 2), .v (varM 4)])]) (gTupM 2 (gConsM (gSetM 5) (gConsM (gSetM 6) gNilM))))
    (seqM (asgM (compM [12] (kyI 5) (gSetM 12) (some (dinM false 6 (varM 12))) (varM 12)) (gSetM 7))
    (seqM (asgM (lstM [(callM m_are_compatible [.v (varM 2), .v (varM 3), .v (varM 4)])]) (gSetM 8))
    (seqM (exprS (appM 8 (callM (pickF [2, 1, 0] [2, 1, 0] [] m_are_compatible) [.v (frzM (cbM listD [(varM 4)])), .v (frzM (cbM listD [(varM 3)])), .v (frzM (callM (m__law_as_lists 8) [.v (varM 2)]))])))
    (seqM (ifS (notM (callM (m__law_same 8) [.s 8, .v (frzM (binM mulD2 (lstM [(roM (op2 (eqD true)) [.s 7, .v (lstM [])])]) (retM (.int 2))))])) (retS (retM (.bl false))) skipM)
    (seqM (asgM (callM m_join [.v (varM 2), .v (varM 3), .v (varM 4)]) (gSetM 9))
    (seqM (asgM (lstM [(callM m_join [.v (varM 2), .v (varM 4), .v (varM 3)]), (callM (pickF [2, 1, 0] [2, 1, 0] [] m_join) [.v (frzM (cbM listD [(varM 4)])), .v (frzM (cbM listD [(varM 3)])), .v (frzM (callM (m__law_as_lists 8) [.v (varM 2)]))])]) (gSetM 10))
    (seqM (ifS (notM (callM (m__law_same 8) [.v (varM 10), .v (frzM (lstM [(varM 9), (varM 9)]))])) (retS (retM (.bl false))) skipM)
    (seqM (ifS (roM (op2 (eqD true)) [.v (roM (op2 (isD false)) [.s 9, .v (retM .non)]), .v (roM (op2 (eqD false)) [.s 7, .v (lstM [])])]) (retS (retM (.bl false))) skipM)
    (ifS (roM (op2 (isD true)) [.s 9, .v (retM .non)]) (seqM (asgM (callM m__law_distances [.v (varM 2), .v (varM 9)]) (gSetM 11))
    (ifS (orM (notM (roM isiD [.s 9, .v (retM (.vl (.ty "tuple")))])) (orM (roM (op2 (inD true)) [.s 9, .s 7]) (notM (roM allD [.v (compM [12] (walkM comb1 [.s 7]) (gSetM 12) none (dinM false 11 (varM 12)))])))) (retS (retM (.bl false))) skipM)) skipM))))))))))))))
    (retS (retM (.bl true))))
noncomputable def m__law_right_v13 : Fn := defM [true] 13 b__law_right_v13
noncomputable def b__law_stream : SM := (seqM (asgM (ifM (roM (op2 ltD) [.s 1, .v (roM lenD [.s 0])]) (hasM 0 (ixS 0 (varM 1))) (retM (.int 0))) (gSetM 2))
    (retS (lstM [(binM mulD2 (roM absD [.s 2]) (roM intD1 [.v (roM (op2 geD) [.v (roM absD [.s 2]), .v (binM powD (retM (.int 10)) (retM (.int 18)))])])), (binM modD (binM mulD2 (binM addD (binM addD (binM modD (varM 2) (retM (.int 2147483629))) (binM mulD2 (retM (.int 32452843)) (varM 1))) (retM (.int 61))) (retM (.int 48271))) (retM (.int 2147483647))), (retM (.int 0))])))
noncomputable def m__law_stream : Fn := defM [true, true] 3 b__law_stream
noncomputable def b_law_v14 : SM := (seqM (asgM (callM m__law_fold [.v (varM 0), .v (retM (.int 2))]) (gSetM 1))
    (retS (roM allD [.v (compM [2] (rng1M (roM maxD2 [.v (retM (.int 1)), .v (roM lenD [.s 1])])) (gSetM 2) none (callM m__law_right_v13 [.v (callM m__law_stream [.v (varM 1), .v (varM 2)])]))])))
noncomputable def m_law_v14 : Fn := defM [true] 3 b_law_v14
end WC
namespace WF
open PySem PySem.Spec PyProof.Rows L2
end WF
namespace WF
open PySem PySem.Spec PyProof.Rows L2
section
variable {X : Cx}
end
end WF
namespace WF
open PySem PySem.Spec PyProof.Rows L2
def dctL (own : List Nat) (g : GM) (fk fv : EM) : List D → S0 → D → Option (D × S0)
  | [], S, acc => some (acc, S)
  | d :: ds, S, acc => match g d S with
    | none => none
    | some S1 => match fk S1 with
      | some (.ok k, S2) => match fv S2 with
        | some (.ok v, S3) => match dPutD acc k v with
          | some acc' => dctL own g fk fv ds (wipeS S3 own) acc'
          | none => none
        | _ => none
      | _ => none
def dctM (own : List Nat) (fi : IM) (g : GM) (fk fv : EM) : EM := fun S => match fi S with
  | some (.ok ds lent, S1) => if own.all (fun k => decide (k < S1.length)) then match dctL own g fk fv ds (wipeS S1 own) (.dtk true [] []) with
      | some (acc, S2) => some (.ok acc, restS lent (backS S1 S2 own))
      | none => none
    else none
  | some (.ex x, S1) => some (.ex x, S1)
  | none => none
section
variable {c : Cfg} {X : Cx} {σ : L2.St} {H : Hp} {own : List Nat}
end
end WF
namespace WF
open PySem PySem.Spec PyProof.Rows L2
def sortTK : List D → Option D
  | [.dtk _ ks xs] => if D.imms xs = true ∨ D.purs xs = true then (ksI ks).bind fun kss => if kss.all (fun k => !k.isEmpty) = true then some (.lst true ((sortT kss).map tpD)) else none else none
  | _ => none
@[simp] theorem sortTK_dtk {o : Bool} {ks : List (List Key)} {xs : List D} : sortTK [.dtk o ks xs] = if D.imms xs = true ∨ D.purs xs = true then (ksI ks).bind fun kss => if kss.all (fun k => !k.isEmpty) = true then some (.lst true ((sortT kss).map tpD)) else none else none := rfl
end WF
namespace WF
open PySem PySem.Spec PyProof.Rows L2
section
variable {KK : Type} [DecidableEq KK] {prog : Program} {w : World} {knd : HeapKind prog w KK}
end
def dtkS (i : Nat) (f : EM) : EM := fun S => match S[i]? with
  | some (.dtk true _ _) => f S
  | _ => none
section
variable {c : Cfg} {X : Cx} {S : S0} {tm tm0 : List Pr} {σ : L2.St} {H : Hp} {i : Nat} {e : Expr} {fk : EM}
end
end WF
namespace WF
open PySem PySem.Spec PyProof.Rows L2
section
variable {c : Cfg} {X : Cx} {σ : L2.St} {H : Hp} {r : List V → Hp → VK → Prop} {op : List D → Option D} {as : List Ar} {e : Expr} {es : List Expr} {x : Str} {id : String} {p pos : Pos}
end
end WF
namespace WF
open PySem PySem.Spec PyProof.Rows L2
def wD (own : List Nat) (g : GM) (fk fv : EM) (ds : List D) (S : S0) (acc : D) (Q : D → S0 → Prop) : Prop := match dctL own g fk fv ds S acc with
  | some (a, S') => Q a S'
  | none => False
section
variable {own : List Nat} {fi : IM} {g : GM} {fk fv : EM} {S : S0} {i : Nat} {Q : D → S0 → Prop}
@[simp] theorem wE_dct : wE (dctM own fi g fk fv) S Q ↔ wI fi S fun ds l S1 => own.all (fun k => decide (k < S1.length)) = true ∧ wD own g fk fv ds (wipeS S1 own) (.dtk true [] []) fun acc S2 => Q acc (restS l (backS S1 S2 own)) := by
  unfold wE wI
  simp only [WF0.wE, dctM, WF0.wI, wD]
  match fi S with
  | none => exact Iff.rfl
  | some (.ex _, _) => exact Iff.rfl
  | some (.ok ds l, S1) =>
    simp only [WF0.oI]
    by_cases h : own.all (fun k => decide (k < S1.length)) = true
    · simp only [h, if_true, true_and]
      match dctL own g fk fv ds (wipeS S1 own) (.dtk true [] []) with
      | none => exact Iff.rfl
      | some (acc, S2) => exact Iff.rfl
    · simp [h, WF0.oE]
@[simp] theorem wE_dtkS {f : EM} {ks : List (List Key)} {xs : List D} (h : S[i]? = some (.dtk true ks xs)) : wE (dtkS i f) S Q ↔ wE f S Q := by
  unfold wE
  simp only [WF0.wE, dtkS, h]
end
end WF
namespace WF
open PySem PySem.Spec PyProof.Rows L2
structure IterV (K : PySem.W.Frag) (J : It) (hold : Nat → List Pr) (ds : List D) : Prop where
  go : ∀ i H L, i < ds.length → Joint K H (hold i ++ L) → J.go i H
  yld : ∀ i H L d x H', ds[i]? = some d → Joint K H (hold i ++ L) → J.yld i H x H' → Joint K H' ((x, d) :: (hold (i + 1) ++ L))
  stop : ∀ H L, Joint K H (hold ds.length ++ L) → J.stop ds.length H
section
variable {c : Cfg} {X : Cx} {S : S0} {tm tm0 : List Pr} {σ σ2 : L2.St} {H : Hp} {own : List Nat}
end
section
variable {K : PySem.W.Frag} {G H H' : Hp} {R L : List Pr} {p q : Addr} {ds xs : List D} {vs : List V} {v : V} {d : D} {m : Nat}
theorem at_perm {α : Type} : ∀ {l : List α} {a : Nat} {x : α}, l[a]? = some x → ∃ Z, l.Perm (x :: Z) ∧ ∀ y, (l.set a y).Perm (y :: Z)
  | x :: l, 0, y, h => by cases h; exact ⟨l, .refl _, fun _ => .refl _⟩
  | x :: l, a + 1, y, h => by
    obtain ⟨Z, p1, p2⟩ := at_perm (l := l) (a := a) (x := y) (by simpa using h)
    exact ⟨x :: Z, (List.Perm.cons _ p1).trans (List.Perm.swap _ _ _), fun z => (List.Perm.cons _ (p2 z)).trans (List.Perm.swap _ _ _)⟩
  | [], _, _, h => by simp at h
def rowI : D → Option (List Int)
  | .lst true xs => intsD xs
  | _ => none
def rowsI : List D → Option (List (List Int))
  | [] => some []
  | d :: ds => (rowI d).bind fun r => (rowsI ds).map (r :: ·)
def nestI : D → Option (List (List Int))
  | .lst true ds => rowsI ds
  | _ => none
def rwD (r : List Int) : D := .lst true (r.map .int)
theorem rowsI_map : ∀ {rs : List (List Int)}, rowsI (rs.map rwD) = some rs
  | [] => rfl
  | r :: rs => by
    have e : rowI (rwD r) = some r := by
      show intsD (r.map .int) = some r
      induction r with
      | nil => rfl
      | cons a r ih => rw [List.map_cons, intsD, ih]; rfl
    rw [List.map_cons, rowsI, e, rowsI_map]; rfl
theorem Joint.rows {rs : List (List Int)} (j : Joint K H ((v, .lst true (rs.map rwD)) :: R)) : ∃ p vs, v = .ref p ∧ H p = some (.lst vs) ∧ vs.length = rs.length ∧ ∀ (k : Nat) u r, vs[k]? = some u → rs[k]? = some r → ∃ q, u = .ref q ∧ H q = some (.lst (r.map V.int)) := by
  obtain ⟨p, rfl⟩ := j.is_lst
  obtain ⟨vs, hp, hl, k⟩ := j.unlst
  refine ⟨p, vs, rfl, hp, by simpa using hl, fun i u r hu hr => ?_⟩
  have hz : (vs.zip (rs.map rwD))[i]? = some (u, rwD r) := by
    rw [List.getElem?_zip_eq_some, List.getElem?_map, hr]; exact ⟨hu, rfl⟩
  obtain ⟨Z, p1, _⟩ := at_perm hz
  have k2 : Joint K H ((u, rwD r) :: (Z ++ R)) := k.perm (List.Perm.append_right R p1)
  obtain ⟨q, rfl⟩ := k2.is_lst
  obtain ⟨ws, hq, lw, k3⟩ := k2.unlst
  refine ⟨q, rfl, ?_⟩
  rw [hq]
  congr 2
  have key : ∀ {ws : List V} {r : List Int} {Z : List Pr}, ws.length = (r.map D.int).length → Joint K H (ws.zip (r.map D.int) ++ Z) → ws = r.map V.int := fun {ws} {r} {Z} hl k => by
    induction ws generalizing r with
    | nil => cases r with | nil => rfl | cons _ _ => simp at hl
    | cons w ws ih => cases r with
      | nil => simp at hl
      | cons a r =>
        have k : Joint K H ((w, D.int a) :: (ws.zip (r.map D.int) ++ Z)) := k
        rw [k.is_int, ih (by simpa using hl) k.drop]; rfl
  exact key lw k3
theorem Joint.ne {ys : List D} (j : Joint K H ((.ref q, .lst true xs) :: (.ref p, .lst true ys) :: R)) : q ≠ p := by
  obtain ⟨G, fp, g, r, n, z⟩ := j
  cases r with
  | @lo q C vs ds f L fp2 a b e r1 r2 =>
    cases r2 with
    | @lo p C2 vs2 ds2 f2 L2 fp3 a2 b2 e2 r3 r4 =>
      intro e
      subst e
      exact (List.nodup_cons.mp n).1 (List.mem_append_right _ List.mem_cons_self)
end
end WF
namespace WF
open PySem PySem.Spec PyProof.Rows L2
def mvI (i : Nat) : IM := fun S => match S[i]? with
  | some (.lst true ds) => some (.ok ds [], S.set i .un)
  | _ => none
def nixM (i : Nat) (a b : Int) : EM := fun S => match S[i]? with
  | some d => match (nestI d).bind fun rs => (atI rs a).bind fun r => atI r b with
    | some n => some (.ok (.int n), S)
    | none => none
  | none => none
def gSub2M (i a b : Nat) : GM := fun d S => match S[i]? with
  | some (.lst true ds) => match ds[a]? with
    | some (.lst true xs) => if b < xs.length then some (S.set i (.lst true (ds.set a (.lst true (xs.set b d))))) else none
    | _ => none
  | _ => none
def ixAll (k : Int) : List (List Int) → Option (List Int)
  | [] => some []
  | r :: rs => (atI r k).bind fun n => (ixAll k rs).map (n :: ·)
def mapIxM (i : Nat) (k : Int) : EM := fun S => match S[i]? with
  | some d => match (nestI d).bind fun rs => if rs.length < 1000000 then ixAll k rs else none with
    | some ns => some (.ok (.lst true (ns.map .int)), S)
    | none => none
  | none => none
section
variable {c : Cfg} {X : Cx} {S : S0} {tm tm0 : List Pr} {σ : L2.St} {H : Hp} {i : Nat} {e tg : Expr} {pos : Pos}
end
end WF
namespace WF
open PySem PySem.Spec PyProof.Rows L2
def asLo : D → Option (List D)
  | .lst true ds => some ds
  | _ => none
def set2 (a b : Nat) (d : D) : D → Option D
  | .lst true ds => match ds[a]? with
    | some (.lst true xs) => if b < xs.length then some (.lst true (ds.set a (.lst true (xs.set b d)))) else none
    | _ => none
  | _ => none
def mapIx (k : Int) (d : D) : Option (List Int) := (nestI d).bind fun rs => if rs.length < 1000000 then ixAll k rs else none
section
variable {S : S0} {Q : D → S0 → Prop} {i a b : Nat}
@[simp] theorem nestI_rw {rs : List (List Int)} : nestI (.lst true (rs.map rwD)) = some rs := rowsI_map
@[simp] theorem asLo_lst {ds : List D} : asLo (.lst true ds) = some ds := rfl
@[simp] theorem wI_mv {QI : List D → List (Nat × D) → S0 → Prop} : wI (mvI i) S QI ↔ rd (S[i]?.bind asLo) fun ds => QI ds [] (S.set i .un) := by
  unfold wI rd
  show WF0.oI (mvI i S) QI ↔ _
  unfold mvI
  cases h : S[i]? with
  | none => simp [WF0.oI, WF0.rd]
  | some d => cases d with
    | lst o ds => cases o <;> simp [asLo, WF0.oI, WF0.rd]
    | _ => simp [asLo, WF0.oI, WF0.rd]
@[simp] theorem wE_nix {a b : Int} : wE (nixM i a b) S Q ↔ rd (S[i]?.bind fun d => (nestI d).bind fun rs => (atI rs a).bind fun r => atI r b) fun n => Q (.int n) S := by
  unfold wE rd
  show WF0.oE (nixM i a b S) Q ↔ _
  unfold nixM
  cases h : S[i]? with
  | none => simp [WF0.oE, WF0.rd]
  | some d =>
    simp only [Option.bind_some]
    cases h2 : ((nestI d).bind fun rs => (atI rs a).bind fun r => atI r b) <;> simp [WF0.oE, WF0.rd]
@[simp] theorem wE_mapIx {k : Int} : wE (mapIxM i k) S Q ↔ rd (S[i]?.bind (mapIx k)) fun ns => Q (.lst true (ns.map .int)) S := by
  unfold wE rd
  show WF0.oE (mapIxM i k S) Q ↔ _
  unfold mapIxM
  cases h : S[i]? with
  | none => simp [WF0.oE, WF0.rd]
  | some d =>
    simp only [Option.bind_some]
    show WF0.oE (match mapIx k d with
      | some ns => some (.ok (.lst true (ns.map .int)), S)
      | none => none) Q ↔ _
    cases h2 : mapIx k d <;> simp [WF0.oE, WF0.rd]
@[simp] theorem wG_sub2 {d : D} {QG : S0 → Prop} : wG (gSub2M i a b) d S QG ↔ rd (S[i]?.bind (set2 a b d)) fun x => QG (S.set i x) := by
  unfold wG rd
  show WF0.oG (gSub2M i a b d S) QG ↔ _
  unfold gSub2M set2
  cases h : S[i]? with
  | none => simp [WF0.oG, WF0.rd]
  | some x => cases x with
    | lst o ds =>
      cases o with
      | false => simp [WF0.oG, WF0.rd]
      | true =>
        simp only [Option.bind_some]
        cases h2 : ds[a]? with
        | none => simp [WF0.oG, WF0.rd]
        | some y => cases y with
          | lst o xs => cases o with
            | false => simp [WF0.oG, WF0.rd]
            | true => by_cases hb : b < xs.length <;> simp [hb, WF0.oG, WF0.rd]
          | _ => simp [WF0.oG, WF0.rd]
    | _ => simp [WF0.oG, WF0.rd]
end
end WF
namespace WF
open PySem PySem.Spec PyProof.Rows L2
def cntD : D → D → Option D
  | .lst _ xs, .int k => (intsD xs).map fun ns => .int (ns.count k : Nat)
  | _, _ => none
def cntM (i : Nat) (fk : EM) : EM := lstS i (bindM fk fun k S => match S[i]? with
  | some d => match cntD d k with
    | some r => some (.ok r, S)
    | none => none
  | none => none)
def insM (i : Nat) (fk fy : EM) : EM := lstS i (bindM fk fun k => bindM fy fun y => modS i fun xs => match k with
  | .int k => if xs.length < 1000000 ∧ 0 ≤ k ∧ k < 2 ^ 62 then some (.non, xs.take k.toNat ++ [y] ++ xs.drop k.toNat) else none
  | _ => none)
section
variable {c : Cfg} {X : Cx} {S : S0} {tm tm0 : List Pr} {σ : L2.St} {H : Hp} {i : Nat} {e : Expr} {fk fy : EM}
end
section
variable {S : S0} {Q : D → S0 → Prop} {i : Nat} {fk fy : EM}
def isL : D → Option Unit
  | .lst _ _ => some ()
  | _ => none
def insD (k y : D) : D → Option D
  | .lst true xs => match k with
    | .int k => if xs.length < 1000000 ∧ 0 ≤ k ∧ k < 2 ^ 62 then some (.lst true (xs.take k.toNat ++ [y] ++ xs.drop k.toNat)) else none
    | _ => none
  | _ => none
@[simp] theorem isL_lst {o : Bool} {xs : List D} : isL (.lst o xs) = some () := rfl
theorem lstS_rd {f : EM} : wE (lstS i f) S Q ↔ rd (S[i]?.bind isL) fun _ => wE f S Q := by
  unfold wE rd
  simp only [WF0.wE, lstS]
  cases h : S[i]? with
  | none => simp [WF0.rd, WF0.oE]
  | some d => cases d <;> simp [isL, WF0.rd, WF0.oE]
@[simp] theorem wE_cnt : wE (cntM i fk) S Q ↔ rd (S[i]?.bind isL) fun _ => wE fk S fun k S => rd (S[i]?.bind fun d => cntD d k) fun r => Q r S := by
  unfold cntM
  rw [lstS_rd]
  have e : ∀ (k : D) (S : S0), wE (fun S => match S[i]? with
    | some d => match cntD d k with
      | some r => some (.ok r, S)
      | none => none
    | none => none) S Q ↔ rd (S[i]?.bind fun d => cntD d k) fun r => Q r S := fun k S => by
    unfold wE rd
    simp only [WF0.wE]
    cases h : S[i]? with
    | none => simp [WF0.rd, WF0.oE]
    | some d =>
      simp only [Option.bind_some]
      cases h2 : cntD d k <;> simp [WF0.rd, WF0.oE]
  exact iff_of_eq (congrArg (fun F => rd (S[i]?.bind isL) fun _ => F) (propext (wE_bind.trans (iff_of_eq (congrArg (fun F => wE fk S F) (funext fun k => funext fun S => propext (e k S)))))))
@[simp] theorem wE_ins : wE (insM i fk fy) S Q ↔ rd (S[i]?.bind isL) fun _ => wE fk S fun k S => wE fy S fun y S => rd (S[i]?.bind (insD k y)) fun d => Q .non (S.set i d) := by
  unfold insM
  rw [lstS_rd]
  have e : ∀ (k y : D) (S : S0), wE (modS i fun xs => match k with
    | .int k => if xs.length < 1000000 ∧ 0 ≤ k ∧ k < 2 ^ 62 then some (.non, xs.take k.toNat ++ [y] ++ xs.drop k.toNat) else none
    | _ => none) S Q ↔ rd (S[i]?.bind (insD k y)) fun d => Q .non (S.set i d) := fun k y S => by
    unfold wE rd
    simp only [WF0.wE, modS]
    cases h : S[i]? with
    | none => simp [WF0.rd, WF0.oE]
    | some d => cases d with
      | lst o xs => cases o with
        | false => simp [insD, WF0.rd, WF0.oE]
        | true => cases k with
          | int k =>
            simp only [insD, Option.bind_some]
            by_cases c : xs.length < 1000000 ∧ 0 ≤ k ∧ k < 2 ^ 62
            · rw [if_pos c, if_pos c]; simp [WF0.rd, WF0.oE]
            · rw [if_neg c, if_neg c]; simp [WF0.rd, WF0.oE]
          | _ => simp [insD, WF0.rd, WF0.oE]
      | _ => simp [insD, WF0.rd, WF0.oE]
  exact iff_of_eq (congrArg (fun F => rd (S[i]?.bind isL) fun _ => F) (propext (wE_bind.trans (iff_of_eq (congrArg (fun F => wE fk S F) (funext fun k => funext fun S => propext (wE_bind.trans (iff_of_eq (congrArg (fun F => wE fy S F) (funext fun y => funext fun S => propext (e k y S)))))))))))
@[simp] theorem cntD_ints {o : Bool} {ns : List Int} {k : Int} : cntD (.lst o (ns.map .int)) (.int k) = some (.int (ns.count k : Nat)) := by
  show (intsD (ns.map .int)).map _ = _
  have : intsD (ns.map .int) = some ns := by
    induction ns with
    | nil => rfl
    | cons a r ih => rw [List.map_cons, intsD, ih]; rfl
  rw [this]; rfl
end
end WF
namespace WF
open PySem PySem.Spec PyProof.Rows L2
structure FnOkG (P : Program) (w : World) (K : PySem.W.Frag) (mg : Str → Option Value) (base : Heap) (CX : CXT) (k : Nat) (f : Addr) (fd : FuncData) (ps : List Str) (sp : Sp) : Prop where
  len : ∀ ws Hp0 QQ EE, sp ws Hp0 QQ EE → ws.length = ps.length
  runG : ∀ (A : Around) (ou : List Env) (s : Shared) (H : Hp) (ar : Args) (us : List Value) (ws : List V) (QQ : VK) (EE : XK), A.guards = some [] → Room k A → Env0 P w K mg base A ou s H → BindsTo s fd ar (ps.zip us) → Vals ws us → sp ws H QQ EE →
    codeAny (model P w) A (.call (.ref f) ar) (CR CX ou P w H s QQ EE) s
section
variable {P : Program} {w : World} {K : PySem.W.Frag} {mg : Str → Option Value} {base : Heap} {CX : CXT}
end
section
variable {P : Program} {w : World} {K : PySem.W.Frag} {mg : Str → Option Value} {base : Heap}
end
section
variable {X : Cx} {c : Cfg} {k n : Nat} {f : Addr} {fd : FuncData} {ps : List Str} {m : Fn} {as : List Ar} {x : Str} {p pos : Pos} {e : Expr} {es : List Expr} {sp : Sp} {E : XK} {t : TA}
end
end WF
namespace WF
open PySem PySem.Spec PyProof.Rows L2
section
variable {prog : Program} {w : World} {A : Around} {E : Value → Shared → Prop} {s : Shared} {i : Nat} {z TI TO : Addr} {qs : List Sr} {old : Array Value} {f1 : Bool} {f0 : Value}
end
section
variable {X : Cx} {c : Cfg} {e e1 e2 : Expr} {es : List Expr} {p pos npos : Pos} {nx : Str} {ta : TA} {y1 y2 : Ar}
end
end WF
namespace WF
open PySem PySem.Spec PyProof.Rows L2
section
variable {prog : Program} {w : World} {A : Around} {E : Value → Shared → Prop} {s : Shared} {Q : Value → Shared → Prop} {l : Addr} {its : List Value} {ns : List Int}
end
end WF
namespace WF
open PySem PySem.Spec PyProof.Rows L2
def oiV : Option Int → V
  | none => .non
  | some n => .int n
def oiE : Option Int → D
  | none => .non
  | some n => .int n
@[simp] theorem oiE_none : oiE none = .non := rfl
@[simp] theorem oiE_some {n : Int} : oiE (some n) = .int n := rfl
def xsO : List D → Option (List (Option Int))
  | [] => some []
  | .int n :: r => (xsO r).map (some n :: ·)
  | .non :: r => (xsO r).map (none :: ·)
  | _ => none
@[simp] theorem xsO_of : ∀ {l : List (Option Int)}, xsO (l.map oiE) = some l
  | [] => rfl
  | none :: l => by
    show (xsO (l.map oiE)).map (none :: ·) = _
    rw [xsO_of]; rfl
  | some n :: l => by
    show (xsO (l.map oiE)).map (some n :: ·) = _
    rw [xsO_of]; rfl
def itK (f : Int × Option Int → D) (i : Nat) : IM := fun S => match S[i]? with
  | some (.dic true ks xs) => (intKeys ks).bind fun kss => (xsO xs).bind fun ns => if kss.length = ns.length then some (.ok ((kss.zip ns).map f) [(i, .dic true ks xs)], S.set i .un) else none
  | _ => none
section
variable {K : PySem.W.Frag} {H H' : Hp} {R : List Pr} {p : Addr} {ns : List (Option Int)} {u : HO}
theorem Joint.oi {v : V} {x : Option Int} (j : Joint K H ((v, oiE x) :: R)) : v = oiV x := by
  cases x with
  | none =>
    have := j.dp (y := .none) rfl
    cases this; rfl
  | some n =>
    have := j.dp (y := .int n) rfl
    cases this; rfl
end
section
variable {c : Cfg} {X : Cx} {S : S0} {tm : List Pr} {σ : L2.St} {H : Hp} {e tg : Expr} {apos cpos : Pos} {i : Nat}
end
def asDK : D → Option (List Key × List D)
  | .dic true ks xs => some (ks, xs)
  | _ => none
@[simp] theorem asDK_dic {ks : List Key} {xs : List D} : asDK (.dic true ks xs) = some (ks, xs) := rfl
@[simp] theorem wI_itK {f : Int × Option Int → D} {i : Nat} {S : S0} {Q : List D → List (Nat × D) → S0 → Prop} : wI (itK f i) S Q ↔ rd ((S[i]?.bind asDK).bind fun p => (intKeys p.1).bind fun kss => (xsO p.2).bind fun ns => if kss.length = ns.length then some ((kss.zip ns).map f, p) else none) fun r => Q r.1 [(i, .dic true r.2.1 r.2.2)] (S.set i .un) := by
  unfold wI rd
  show WF0.oI (itK f i S) Q ↔ _
  unfold itK
  cases h : S[i]? with
  | none => simp [WF0.oI, WF0.rd]
  | some d =>
    cases d with
    | dic o ks xs =>
      cases o with
      | false => simp [WF0.oI, WF0.rd, asDK]
      | true =>
        simp only [Option.bind_some, asDK_dic]
        cases hk : intKeys ks with
        | none => simp [WF0.oI, WF0.rd]
        | some kss =>
          simp only [Option.bind_some]
          cases hn : xsO xs with
          | none => simp [WF0.oI, WF0.rd]
          | some ns =>
            simp only [Option.bind_some]
            by_cases hl : kss.length = ns.length
            · simp [hl, WF0.oI, WF0.rd]
            · simp [hl, WF0.oI, WF0.rd]
    | _ => simp [WF0.oI, WF0.rd, asDK]
end WF
namespace WF
open PySem PySem.Spec PyProof.Rows L2
section
variable {c : Cfg} {X : Cx}
end
end WF
namespace WF
open PySem PySem.Spec PyProof.Rows L2
def compKM (own : List Nat) (i : Nat) (g : GM) (fe : List (List Int × Int) → EM) : EM := fun S => match S[i]? with
  | some (.dtk true ks xs) => match ksI ks, intsD xs with
    | some kss, some ns => compM own (kyI i) g none (fe (kss.zip ns)) S
    | _, _ => none
  | _ => none
def Cfg.hl (c : Cfg) (d : Addr) (o : Obj) (l : List (List Int × Int)) : Cfg := { c with rs := (.ref d, .hld (.frz o (.dT (l.map kvR)))) :: c.rs }
section
variable {c : Cfg} {X : Cx} {S : S0} {tm tm0 tm' : List Pr} {σ σ2 : L2.St} {H : Hp} {own : List Nat} {d : Addr} {o : Obj} {l : List (List Int × Int)}
def hfind (l : List (List Int × Int)) (ks : List Key) : Option D := match valV (l.map kvR) ks with
  | some (.int n) => some (.int n)
  | _ => none
def hgetM (l : List (List Int × Int)) (fk : EM) : EM := bindM fk fun k => optM ((keyT k).bind fun ks => hfind l ks)
end
@[simp] theorem wE_compKM {own : List Nat} {i : Nat} {g : GM} {fe : List (List Int × Int) → EM} {S : S0} {Q : D → S0 → Prop} : wE (compKM own i g fe) S Q ↔ rd ((S[i]?.bind asDT).bind fun p => (ksI p.1).bind fun kss => (intsD p.2).bind fun ns => some (kss.zip ns)) fun l => wE (compM own (kyI i) g none (fe l)) S Q := by
  unfold wE rd
  show WF0.oE (compKM own i g fe S) Q ↔ _
  unfold compKM
  cases h : S[i]? with
  | none => simp [WF0.oE, WF0.rd]
  | some d =>
    cases d with
    | dtk o ks xs =>
      cases o with
      | false => simp [WF0.oE, WF0.rd, asDT]
      | true =>
        simp only [Option.bind_some, asDT_dtk]
        cases hk : ksI ks with
        | none => simp [WF0.oE, WF0.rd]
        | some kss =>
          cases hn : intsD xs with
          | none => simp [WF0.oE, WF0.rd]
          | some ns => simp [WF0.rd, WF0.wE]
    | _ => simp [WF0.oE, WF0.rd, asDT]
@[simp] theorem wE_hget {l : List (List Int × Int)} {fk : EM} {S : S0} {Q : D → S0 → Prop} : wE (hgetM l fk) S Q ↔ wE (bindM fk fun k => optM ((keyT k).bind fun ks => hfind l ks)) S Q := Iff.rfl
end WF
namespace WF
open PySem PySem.Spec PyProof.Rows L2
section
variable {X : Cx} {pins : List (Addr × Obj)} {σ : L2.St} {A : Around} {z TI TO : Addr} {ts : List Addr} {xs : List (Addr × Bool)}
end
section
variable {X : Cx} {c : Cfg} {pins : List (Addr × Obj)} {σ : L2.St} {A1 : Around} {z TI TO q : Addr} {ts : List Addr} {xs : List (Addr × Bool)} {S1 : S0} {tm hold : List Pr} {rows : List D} {Rs : Result → Shared → Prop}
end
def listZM (comb : List (List D) → Option (List D)) (as : List Ar) : EM := fun S => match walkM comb as S with
  | some (.ok rows [], S1) => if rows.length ≤ 1000000 then some (.ok (.lst true rows), S1) else none
  | _ => none
section
variable {X : Cx} {c : Cfg} {e e1 e2 e3 : Expr} {es : List Expr} {p pos p2 pos2 : Pos} {as : List Ar} {y1 y2 y3 : Ar} {comb : List (List D) → Option (List D)}
end
@[simp] theorem wE_listZM {comb : List (List D) → Option (List D)} {as : List Ar} {S : S0} {Q : D → S0 → Prop} : wE (listZM comb as) S Q ↔ wI (walkM comb as) S fun rows lent S1 => lent = [] ∧ rows.length ≤ 1000000 ∧ Q (.lst true rows) S1 := by
  unfold wE wI
  show WF0.oE (listZM comb as S) Q ↔ WF0.oI (walkM comb as S) _
  unfold listZM
  cases h : walkM comb as S with
  | none => simp [WF0.oE, WF0.oI]
  | some o =>
    obtain ⟨o, S1⟩ := o
    cases o with
    | ex x => simp [WF0.oE, WF0.oI]
    | ok rows lent =>
      cases lent with
      | nil =>
        by_cases hl : rows.length ≤ 1000000
        · simp [hl, WF0.oE, WF0.oI]
        · simp [hl, WF0.oE, WF0.oI]
      | cons _ _ => simp [WF0.oE, WF0.oI]
end WF
namespace WF
open PySem PySem.Spec PyProof.Rows L2
section
variable {c : Cfg} {X : Cx} {e : Expr} {fe : EM} {p p2 q pos : Pos}
end
end WF
namespace WF
open PySem PySem.Spec PyProof.Rows L2
abbrev TbN := Addr × (Nat → Nat → Str)
structure Pins (K : PySem.W.Frag) (G H : Hp) (L : List Pr) (fp U F : List Addr) (T : List TbN) : Prop where
  pm : fp.Perm (F ++ T.map Prod.fst)
  u : ∀ a ∈ U, ∃ u, G a = some u ∧ ∀ ps, u ≠ .tbl ps
  o : ∀ a ∈ F, ∃ u, H a = some u ∧ HldOk u
  t : ∀ x ∈ T, TabG G H x.1 x.2
  back : ∀ G2 H2 : Hp, (∀ a ∈ U, G2 a = G a) → (∀ a ∈ F, H2 a = H a) → (∀ x ∈ T, TabG G2 H2 x.1 x.2) → Reps K G2 H2 L fp
  fz : ∀ G2 H2 : Hp, (∀ a ∈ U, G2 a = G a) → (∀ a ∈ F, G2 a = H a) → Reps K G2 H2 (L.map fun x => (x.1, x.2.frz)) []
section
variable {K : PySem.W.Frag} {G H : Hp} {C L L' : List Pr} {f fp U1 F1 U2 F2 : List Addr} {T1 T2 : List TbN}
theorem Pins.none : Pins K G H [] [] [] [] [] where
  pm := .refl _
  u := fun _ m => nomatch m
  o := fun _ m => nomatch m
  t := fun _ m => nomatch m
  back := fun _ _ _ _ _ => .nil
  fz := fun _ _ _ _ => .nil
theorem Pins.mk2 (P1 : Pins K G H C f U1 F1 T1) (P2 : Pins K G H L fp U2 F2 T2) (E W : List Addr) (hE : ∀ a ∈ E, ∃ u, G a = some u ∧ ∀ ps, u ≠ .tbl ps) (hW : ∀ a ∈ W, ∃ u, H a = some u ∧ HldOk u)
    (back : ∀ G2 H2 : Hp, (∀ a ∈ E, G2 a = G a) → (∀ a ∈ W, H2 a = H a) → Reps K G2 H2 C f → Reps K G2 H2 L fp → Reps K G2 H2 L' (W ++ (f ++ fp)))
    (fz : ∀ G2 H2 : Hp, (∀ a ∈ E, G2 a = G a) → (∀ a ∈ W, G2 a = H a) → Reps K G2 H2 (C.map fun x => (x.1, x.2.frz)) [] → Reps K G2 H2 (L.map fun x => (x.1, x.2.frz)) [] → Reps K G2 H2 (L'.map fun x => (x.1, x.2.frz)) []) :
    ∃ U F T, Pins K G H L' (W ++ (f ++ fp)) U F T := by
  refine ⟨E ++ (U1 ++ U2), W ++ (F1 ++ F2), T1 ++ T2, ?_, fun a m => ?_, fun a m => ?_, fun x m => ?_, fun G2 H2 h1 h2 h3 => ?_, fun G2 H2 h1 h2 => ?_⟩
  · rw [List.append_assoc]
    refine List.Perm.append_left _ ((P1.pm.append P2.pm).trans ?_)
    rw [List.map_append]
    exact List.perm_iff_count.mpr fun a => by simp only [List.count_append]; omega
  · rcases List.mem_append.mp m with m | m
    · exact hE a m
    · rcases List.mem_append.mp m with m | m
      · exact P1.u a m
      · exact P2.u a m
  · rcases List.mem_append.mp m with m | m
    · exact hW a m
    · rcases List.mem_append.mp m with m | m
      · exact P1.o a m
      · exact P2.o a m
  · rcases List.mem_append.mp m with m | m
    · exact P1.t x m
    · exact P2.t x m
  · refine back G2 H2 (fun a m => h1 a (List.mem_append_left _ m)) (fun a m => h2 a (List.mem_append_left _ m)) (P1.back G2 H2 (fun a m => h1 a ?_) (fun a m => h2 a ?_) fun x m => h3 x (List.mem_append_left _ m)) (P2.back G2 H2 (fun a m => h1 a ?_) (fun a m => h2 a ?_) fun x m => h3 x (List.mem_append_right _ m)) <;> simp [m]
  · refine fz G2 H2 (fun a m => h1 a (List.mem_append_left _ m)) (fun a m => h2 a (List.mem_append_left _ m)) (P1.fz G2 H2 (fun a m => h1 a ?_) fun a m => h2 a ?_) (P2.fz G2 H2 (fun a m => h1 a ?_) fun a m => h2 a ?_) <;> simp [m]
theorem hk_lst {xs : List V} : HldOk (.lst xs) := ⟨(fun _ e => by cases e), (fun _ e => by cases e), (fun _ e => by cases e), (fun _ e => by cases e)⟩
theorem hk_dK {xs : List (Key × V)} : HldOk (.dK xs) := ⟨(fun _ e => by cases e), (fun _ e => by cases e), (fun _ e => by cases e), (fun _ e => by cases e)⟩
theorem hk_dT {xs : List (List Key × V)} : HldOk (.dT xs) := ⟨(fun _ e => by cases e), (fun _ e => by cases e), (fun _ e => by cases e), (fun _ e => by cases e)⟩
theorem hk_ins {a : Addr} {dx : Addr} {kvs : List (Str × V)} : HldOk (.ins a dx kvs) := ⟨(fun _ e => by cases e), (fun _ e => by cases e), (fun _ e => by cases e), (fun _ e => by cases e)⟩
theorem hk_own {a : Addr} : HldOk (.own a) := ⟨(fun _ e => by cases e), (fun _ e => by cases e), (fun _ e => by cases e), (fun _ e => by cases e)⟩
theorem e1_of {p : Addr} {u : HO} (h : G p = some u) (n : ∀ ps, u ≠ .tbl ps) : ∀ a ∈ [p], ∃ u, G a = some u ∧ ∀ ps, u ≠ .tbl ps := fun a m => by
  rw [List.mem_singleton.mp m]; exact ⟨u, h, n⟩
theorem w1_of {p : Addr} {u : HO} (h : H p = some u) (n : HldOk u) : ∀ a ∈ [p], ∃ u, H a = some u ∧ HldOk u := fun a m => by
  rw [List.mem_singleton.mp m]; exact ⟨u, h, n⟩
theorem nl_of {P : Addr → Prop} : ∀ a ∈ ([] : List Addr), P a := fun _ m => nomatch m
theorem m1 {C : List Pr} {vs : List V} (e : C.map Prod.fst = vs) : (C.map fun x : Pr => (x.1, x.2.frz)).map Prod.fst = vs := by
  rw [← e, List.map_map]; rfl
theorem m2 {C : List Pr} {ds : List D} (e : C.map Prod.snd = ds) : (C.map fun x : Pr => (x.1, x.2.frz)).map Prod.snd = D.frzs ds := by
  rw [← e, List.map_map, D.frzs_map, List.map_map]; rfl
theorem Reps.pins (r : Reps K G H L fp) : ∃ U F T, Pins K G H L fp U F T := by
  induction r with
  | nil => exact ⟨_, _, _, .none⟩
  | un _ ih => obtain ⟨U, F, T, P⟩ := ih; exact Pins.none.mk2 P [] [] nl_of nl_of (fun _ _ _ _ _ r => .un r) fun _ _ _ _ _ r => .un r
  | non _ ih => obtain ⟨U, F, T, P⟩ := ih; exact Pins.none.mk2 P [] [] nl_of nl_of (fun _ _ _ _ _ r => .non r) fun _ _ _ _ _ r => .non r
  | bl _ ih => obtain ⟨U, F, T, P⟩ := ih; exact Pins.none.mk2 P [] [] nl_of nl_of (fun _ _ _ _ _ r => .bl r) fun _ _ _ _ _ r => .bl r
  | int _ ih => obtain ⟨U, F, T, P⟩ := ih; exact Pins.none.mk2 P [] [] nl_of nl_of (fun _ _ _ _ _ r => .int r) fun _ _ _ _ _ r => .int r
  | str _ ih => obtain ⟨U, F, T, P⟩ := ih; exact Pins.none.mk2 P [] [] nl_of nl_of (fun _ _ _ _ _ r => .str r) fun _ _ _ _ _ r => .str r
  | vl _ ih => obtain ⟨U, F, T, P⟩ := ih; exact Pins.none.mk2 P [] [] nl_of nl_of (fun _ _ _ _ _ r => .vl r) fun _ _ _ _ _ r => .vl r
  | @hld p u L fp q a _ ih =>
    obtain ⟨U, F, T, P⟩ := ih
    exact Pins.none.mk2 P [] [p] nl_of (w1_of a q) (fun _ H2 _ h _ r => .hld q (by rw [h p List.mem_cons_self]; exact a) r) fun _ _ _ _ _ r => .un r
  | @con p u L fp q a _ ih =>
    obtain ⟨U, F, T, P⟩ := ih
    exact Pins.none.mk2 P [p] [] (e1_of a q) nl_of (fun G2 _ h _ _ r => .con q (by rw [h p List.mem_cons_self]; exact a) r) fun G2 _ h _ _ r => .con q (by rw [h p List.mem_cons_self]; exact a) r
  | @tab p nm L fp a _ ih =>
    obtain ⟨U, F, T, P⟩ := ih
    refine ⟨U, F, (p, nm) :: T, ?_, P.u, P.o, fun x m => ?_, fun G2 H2 h1 h2 h3 => .tab (h3 _ List.mem_cons_self) (P.back G2 H2 h1 h2 fun x m => h3 x (List.mem_cons_of_mem _ m)), fun G2 H2 h1 h2 => .un (P.fz G2 H2 h1 h2)⟩
    · rw [List.map_cons]
      exact (P.pm.cons p).trans List.perm_middle.symm
    · rcases List.mem_cons.mp m with rfl | m
      · exact a
      · exact P.t x m
  | @«of» p dx c fs kvs C ds L fp a a2 e b c' _ _ ih1 ih2 =>
    obtain ⟨U1, F1, T1, P1⟩ := ih1
    obtain ⟨U2, F2, T2, P2⟩ := ih2
    refine P1.mk2 P2 [p, dx] [] (fun x m => ?_) nl_of (fun G2 _ h _ r1 r2 => .of (by rw [h p (by simp)]; exact a) (by rw [h dx (by simp)]; exact a2) e b c' r1 r2) fun G2 _ h _ r1 r2 => .of (by rw [h p (by simp)]; exact a) (by rw [h dx (by simp)]; exact a2) e (m1 b) (m2 c') r1 r2
    simp only [List.mem_cons, List.not_mem_nil, or_false] at m
    rcases m with rfl | rfl
    · exact ⟨_, a, fun _ e => by cases e⟩
    · exact ⟨_, a2, fun _ e => by cases e⟩
  | @oo p dx c fs kvs C ds f L fp a a2 e b c' _ _ ih1 ih2 =>
    obtain ⟨U1, F1, T1, P1⟩ := ih1
    obtain ⟨U2, F2, T2, P2⟩ := ih2
    refine P1.mk2 P2 [] [p, dx] nl_of (fun x m => ?_) (fun _ H2 _ h r1 r2 => Reps.oo (f := f) (fp := fp) (by rw [h p (by simp)]; exact a) (by rw [h dx (by simp)]; exact a2) e b c' r1 r2) fun G2 _ _ h r1 r2 => .of (by rw [h p (by simp)]; exact a) (by rw [h dx (by simp)]; exact a2) e (m1 b) (m2 c') r1 r2
    simp only [List.mem_cons, List.not_mem_nil, or_false] at m
    rcases m with rfl | rfl
    · exact ⟨_, a, hk_ins⟩
    · exact ⟨_, a2, hk_own⟩
  | @scr p ns L fp a _ ih =>
    obtain ⟨U, F, T, P⟩ := ih
    rcases a with (a | ⟨o, a⟩) | a
    · exact Pins.none.mk2 P [p] [] (e1_of a fun _ e => by cases e) nl_of (fun G2 _ h _ _ r => .scr (.inl (.inl (by rw [h p List.mem_cons_self]; exact a))) r) fun G2 _ h _ _ r => .scr (.inl (.inl (by rw [h p List.mem_cons_self]; exact a))) r
    · exact Pins.none.mk2 P [p] [] (e1_of a fun _ e => by cases e) nl_of (fun G2 _ h _ _ r => .scr (.inl (.inr ⟨o, by rw [h p List.mem_cons_self]; exact a⟩)) r) fun G2 _ h _ _ r => .scr (.inl (.inr ⟨o, by rw [h p List.mem_cons_self]; exact a⟩)) r
    · exact Pins.none.mk2 P [] [] nl_of nl_of (fun G2 _ h _ _ r => .scr (.inr a) r) fun G2 _ h _ _ r => .scr (.inr a) r
  | @tup p C vs ds f L fp a b c _ _ ih1 ih2 =>
    obtain ⟨U1, F1, T1, P1⟩ := ih1
    obtain ⟨U2, F2, T2, P2⟩ := ih2
    exact P1.mk2 P2 [p] [] (e1_of a fun _ e => by cases e) nl_of (fun G2 _ h _ r1 r2 => Reps.tup (f := f) (fp := fp) (by rw [h p List.mem_cons_self]; exact a) b c r1 r2) fun G2 _ h _ r1 r2 => Reps.tup (f := []) (by rw [h p List.mem_cons_self]; exact a) (m1 b) (m2 c) r1 r2
  | @exn p dd c fs kvs C ds L fp a a2 e b c' _ _ ih1 ih2 =>
    obtain ⟨U1, F1, T1, P1⟩ := ih1
    obtain ⟨U2, F2, T2, P2⟩ := ih2
    rcases a2 with a2 | ⟨dx, z, a2⟩
    · exact P1.mk2 P2 [p] [] (e1_of a fun _ e => by cases e) nl_of (fun G2 _ h _ r1 r2 => .exn (by rw [h p List.mem_cons_self]; exact a) (.inl a2) e b c' r1 r2) fun G2 _ h _ r1 r2 => .exn (by rw [h p List.mem_cons_self]; exact a) (.inl a2) e (m1 b) (m2 c') r1 r2
    · refine P1.mk2 P2 [p, dx] [] (fun x m => ?_) nl_of (fun G2 _ h _ r1 r2 => .exn (by rw [h p (by simp)]; exact a) (.inr ⟨dx, z, by rw [h dx (by simp)]; exact a2⟩) e b c' r1 r2) fun G2 _ h _ r1 r2 => .exn (by rw [h p (by simp)]; exact a) (.inr ⟨dx, z, by rw [h dx (by simp)]; exact a2⟩) e (m1 b) (m2 c') r1 r2
      simp only [List.mem_cons, List.not_mem_nil, or_false] at m
      rcases m with rfl | rfl
      · exact ⟨_, a, fun _ e => by cases e⟩
      · exact ⟨_, a2, fun _ e => by cases e⟩
  | @lf p C vs ds L fp a b c _ _ ih1 ih2 =>
    obtain ⟨U1, F1, T1, P1⟩ := ih1
    obtain ⟨U2, F2, T2, P2⟩ := ih2
    exact P1.mk2 P2 [p] [] (e1_of a fun _ e => by cases e) nl_of (fun G2 _ h _ r1 r2 => .lf (by rw [h p List.mem_cons_self]; exact a) b c r1 r2) fun G2 _ h _ r1 r2 => .lf (by rw [h p List.mem_cons_self]; exact a) (m1 b) (m2 c) r1 r2
  | @lo p C vs ds f L fp a b c _ _ ih1 ih2 =>
    obtain ⟨U1, F1, T1, P1⟩ := ih1
    obtain ⟨U2, F2, T2, P2⟩ := ih2
    exact P1.mk2 P2 [] [p] nl_of (w1_of a hk_lst) (fun _ H2 _ h r1 r2 => Reps.lo (f := f) (fp := fp) (by rw [h p List.mem_cons_self]; exact a) b c r1 r2) fun G2 _ _ h r1 r2 => .lf (by rw [h p List.mem_cons_self]; exact a) (m1 b) (m2 c) r1 r2
  | @kf p C ks ds kvs L fp a e b c _ _ ih1 ih2 =>
    obtain ⟨U1, F1, T1, P1⟩ := ih1
    obtain ⟨U2, F2, T2, P2⟩ := ih2
    exact P1.mk2 P2 [p] [] (e1_of a fun _ e => by cases e) nl_of (fun G2 _ h _ r1 r2 => .kf (by rw [h p List.mem_cons_self]; exact a) e b c r1 r2) fun G2 _ h _ r1 r2 => .kf (by rw [h p List.mem_cons_self]; exact a) e (m1 b) (m2 c) r1 r2
  | @ko p C ks ds kvs f L fp a e b c _ _ ih1 ih2 =>
    obtain ⟨U1, F1, T1, P1⟩ := ih1
    obtain ⟨U2, F2, T2, P2⟩ := ih2
    exact P1.mk2 P2 [] [p] nl_of (w1_of a hk_dK) (fun _ H2 _ h r1 r2 => Reps.ko (f := f) (fp := fp) (by rw [h p List.mem_cons_self]; exact a) e b c r1 r2) fun G2 _ _ h r1 r2 => .kf (by rw [h p List.mem_cons_self]; exact a) e (m1 b) (m2 c) r1 r2
  | @tf p C ks ds kvs L fp a e b c _ _ ih1 ih2 =>
    obtain ⟨U1, F1, T1, P1⟩ := ih1
    obtain ⟨U2, F2, T2, P2⟩ := ih2
    exact P1.mk2 P2 [p] [] (e1_of a fun _ e => by cases e) nl_of (fun G2 _ h _ r1 r2 => .tf (by rw [h p List.mem_cons_self]; exact a) e b c r1 r2) fun G2 _ h _ r1 r2 => .tf (by rw [h p List.mem_cons_self]; exact a) e (m1 b) (m2 c) r1 r2
  | @to p C ks ds kvs f L fp a e b c _ _ ih1 ih2 =>
    obtain ⟨U1, F1, T1, P1⟩ := ih1
    obtain ⟨U2, F2, T2, P2⟩ := ih2
    exact P1.mk2 P2 [] [p] nl_of (w1_of a hk_dT) (fun _ H2 _ h r1 r2 => Reps.to (f := f) (fp := fp) (by rw [h p List.mem_cons_self]; exact a) e b c r1 r2) fun G2 _ _ h r1 r2 => .tf (by rw [h p List.mem_cons_self]; exact a) e (m1 b) (m2 c) r1 r2
end
section
variable {K : PySem.W.Frag} {G H J : Hp}
end
section
variable {c : Cfg} {X : Cx} {k : Nat} {f : Addr} {fd : FuncData} {ps : List Str} {n : Nat} {m : Fn} {x : Str} {p pos : Pos} {e : Expr} {es : List Expr} {as : List Ar}
end
end WF
namespace WF
open PySem PySem.Spec PyProof.Rows L2
section
variable {K : PySem.W.Frag} {G H J : Hp}
end
section
variable {c : Cfg} {X : Cx} {k : Nat} {f : Addr} {fd : FuncData} {ps : List Str} {n : Nat} {m : Fn} {x : Str} {p pos : Pos} {e : Expr} {es : List Expr} {as : List Ar}
end
end WF
namespace WF
open PySem PySem.Spec PyProof.Rows L2
def cntDD : D → D → Option D
  | .lst _ xs, k => match k.py, D.pys xs with
    | some x, some ys => if SeqAt.shaped x && SeqAt.shaped (.list ys) then some (.int (ys.countP fun z => PyData.eqv z x : Nat)) else none
    | _, _ => none
  | _, _ => none
def cntDM (i : Nat) (fk : EM) : EM := lstS i (bindM fk fun k S => match S[i]? with
  | some d => match cntDD d k with
    | some r => some (.ok r, S)
    | none => none
  | none => none)
section
variable {c : Cfg} {X : Cx} {S : S0} {tm tm0 : List Pr} {σ : L2.St} {H : Hp} {i : Nat} {e : Expr} {fk : EM}
end
section
variable {S : S0} {Q : D → S0 → Prop} {i : Nat} {fk : EM}
@[simp] theorem wE_cntD : wE (cntDM i fk) S Q ↔ rd (S[i]?.bind isL) fun _ => wE fk S fun k S => rd (S[i]?.bind fun d => cntDD d k) fun r => Q r S := by
  unfold cntDM
  rw [lstS_rd]
  have e : ∀ (k : D) (S : S0), wE (fun S => match S[i]? with
    | some d => match cntDD d k with
      | some r => some (.ok r, S)
      | none => none
    | none => none) S Q ↔ rd (S[i]?.bind fun d => cntDD d k) fun r => Q r S := fun k S => by
    unfold wE rd
    simp only [WF0.wE]
    cases h : S[i]? with
    | none => simp [WF0.rd, WF0.oE]
    | some d =>
      simp only [Option.bind_some]
      cases h2 : cntDD d k <;> simp [WF0.rd, WF0.oE]
  exact iff_of_eq (congrArg (fun F => rd (S[i]?.bind isL) fun _ => F) (propext (wE_bind.trans (iff_of_eq (congrArg (fun F => wE fk S F) (funext fun k => funext fun S => propext (e k S)))))))
end
end WF
namespace WF
open PySem PySem.Spec PyProof.Rows L2
section
variable {c : Cfg} {X : Cx} {σ : L2.St} {H : Hp}
end
section
variable {c : Cfg} {X : Cx} {k kk : Nat} {f : Addr} {fd : FuncData} {ps : List Str} {n i : Nat} {m : Fn} {x : Str} {p pos : Pos} {e : Expr} {es : List Expr} {as : List Ar}
end
end WF
namespace WF
open PySem PySem.Spec PyProof.Rows L2
section
variable {K : PySem.W.Frag} {H : Hp} {R : List Pr} {p : Addr} {ds xs : List D} {v : V} {d : D}
end
def apc (a : Nat) (d : D) : D → Option D
  | .lst true ds => match ds[a]? with
    | some (.lst true xs) => if xs.length < 1000000 then some (.lst true (ds.set a (.lst true (xs ++ [d])))) else none
    | _ => none
  | _ => none
def apcM (i a : Nat) (d : D) : EM := fun S => match S[i]? with
  | some x => match apc a d x with
    | some y => some (.ok .non, S.set i y)
    | none => none
  | none => none
section
variable {c : Cfg} {X : Cx} {S : S0} {tm tm0 : List Pr} {σ : L2.St} {H : Hp} {i a : Nat} {e : Expr} {v : V} {d : D}
end
@[simp] theorem wE_apc {S : S0} {Q : D → S0 → Prop} {i a : Nat} {d : D} : wE (apcM i a d) S Q ↔ rd (S[i]?.bind (apc a d)) fun x => Q .non (S.set i x) := by
  unfold wE rd
  show WF0.oE (apcM i a d S) Q ↔ _
  unfold apcM
  cases h : S[i]? with
  | none => simp [WF0.oE, WF0.rd]
  | some x =>
    simp only [Option.bind_some]
    cases h2 : apc a d x <;> simp [WF0.oE, WF0.rd]
end WF
namespace WF
open PySem PySem.Spec PyProof.Rows L2
section
variable {prog : Program} {w : World} {A : Around} {E : Value → Shared → Prop}
theorem key_keep {h h' : Heap} {ks : List Key} {a : Addr} (x : (tupleKind (mixKind prog w)).is h ks a) (k : ∀ o, h.get? a = some o → h'.get? a = some o) : (tupleKind (mixKind prog w)).is h' ks a := by
  obtain ⟨o, its, n, h1, h2⟩ := x
  exact ⟨o, its, n, k o h1, h2⟩
theorem dictOfH_keep {h h' : Heap} {d : Addr} {xs : List (List Key × Addr × Value)} (m : h.DictOfH (tupleKind (mixKind prog w)) d xs) (k : ∀ o, h.get? d = some o → h'.get? d = some o) (kk : ∀ x ∈ xs, ∀ o, h.get? x.2.1 = some o → h'.get? x.2.1 = some o) : h'.DictOfH (tupleKind (mixKind prog w)) d xs := by
  obtain ⟨o, es, ep, h1, h2, h3, h4, h5, h6⟩ := m
  exact ⟨o, es, ep, k o h1, h2, h3, h4, fun x hx => key_keep (h5 x hx) (kk x hx), h6⟩
theorem storedH_mem {xs : List (List Key × Addr × Value)} {k : List Key} {a : Addr} {v : Value} {x : List Key × Addr × Value} (h : x ∈ storedH xs k a v) : x.2.1 = a ∨ ∃ y ∈ xs, y.2.1 = x.2.1 := by
  unfold storedH at h
  split at h
  · obtain ⟨y, hy, rfl⟩ := List.mem_map.mp h
    refine .inr ⟨y, hy, ?_⟩
    unfold putAt
    split <;> rfl
  · rcases List.mem_append.mp h with h | h
    · exact .inr ⟨x, h, rfl⟩
    · rw [List.mem_singleton.mp h]; exact .inl rfl
theorem storedH_len {xs : List (List Key × Addr × Value)} {k : List Key} {a : Addr} {v : Value} : (storedH xs k a v).length ≤ xs.length + 1 := by
  unfold storedH
  split
  · rw [List.length_map]; omega
  · rw [List.length_append]; simp
def mergedH (acc : List (List Key × Addr × Value)) : List (List Key × Addr × Value) → List (List Key × Addr × Value)
  | [] => acc
  | q :: r => mergedH (storedH acc q.1 q.2.1 q.2.2) r
theorem upd_loopT {R : Result → Shared → Prop} {S I l : Addr} {items : Array Value} {res : Value} (hu : A.in1.units < cLine) (hh : A.handled = none) (hlI : l ≠ I) (hSI : S ≠ I) (hSl : S ≠ l) :
    ∀ (rest : List (List Key × Addr × Value)) (i : Nat) (acc : List (List Key × Addr × Value)) (ix : Int) (t : Tok) (s : Shared), items.size = i + rest.length → acc.length + rest.length ≤ sizeLine →
      (∀ (j : Nat) (q : List Key × Addr × Value), rest[j]? = some q → ∃ b : Addr, items[i + j]? = some (.ref b) ∧ b ≠ S ∧ b ≠ I ∧ q.2.1 ≠ S ∧ q.2.1 ≠ I ∧ IsTup s.heap b #[.ref q.2.1, q.2.2] ∧ (tupleKind (mixKind prog w)).is s.heap q.1 q.2.1) →
      (∀ x ∈ acc, x.2.1 ≠ I) →
      s.heap.IsListIter I l i → s.heap.IsList l items → s.heap.DictOfH (tupleKind (mixKind prog w)) S acc →
      (∀ h' tk, h'.DictOfH (tupleKind (mixKind prog w)) S (mergedH acc rest) → (∀ b o, b ≠ S → b ≠ I → s.heap.get? b = some o → h'.get? b = some o) → R (.ok (.ret res)) { s with heap := h', toks := tk }) →
      codeAny (model prog w) A (.builtin "dict.update.loop" ⟨[.ref S, .ref I, .int ix t, res], []⟩) R s
  | [], i, acc, ix, t, s, hsz, hln, ht, ha, hit, hl, hm, hR => by
    refine codeAny_builtin ud_entry ?_
    rw [Around.under_plainId ud_plain _]
    show wpAny _ A.in1 (pyNext (.ref I) >>= _) _ _ s
    refine wpAny_bind (wpAny_pyNext_list_end (A := A.in1) hh hit hl (by first | exact Array.getElem?_eq_none (Nat.le_of_eq hsz) | (simp at hsz; simp; omega)) fun h' he => ?_)
    show wpAny _ A.in1 (Builtin.Dict.addKeywords S [] >>= _) _ _ _
    refine wpAny_bind (wpAny_pure (wpAny_pure ?_))
    exact hR h' s.toks (dictOfH_keep hm (fun o e => he S o hSI e) fun x hx o e => he _ o (ha x hx) e) fun b o _ hb e => he b o hb e
  | q :: rest, i, acc, ix, t, s, hsz, hln, ht, ha, hit, hl, hm, hR => by
    obtain ⟨b, hb, hbS, hbI, hkS, hkI, htup, hk⟩ := ht 0 q rfl
    rw [List.length_cons] at hsz hln
    refine codeAny_builtin ud_entry ?_
    rw [Around.under_plainId ud_plain _]
    show wpAny _ A.in1 (pyNext (.ref I) >>= _) _ _ s
    refine wpAny_bind (wpAny_pyNext_list_item (x := .ref b) hit hl (by simpa using hb) fun h1 hit1 hs1 => ?_)
    have ht1 : IsTup h1 b #[.ref q.2.1, q.2.2] := htup.extBut hs1.extBut hbI
    have hl1 : h1.IsList l items := hl.extBut hs1.extBut hlI
    have hk1 : (tupleKind (mixKind prog w)).is h1 q.1 q.2.1 := key_keep hk fun o e => hs1.extBut _ o hkI e
    have hm1 : h1.DictOfH (tupleKind (mixKind prog w)) S acc := dictOfH_keep hm (fun o e => hs1.extBut S o hSI e) fun x hx o e => hs1.extBut _ o (ha x hx) e
    obtain ⟨o, ho, hc, n, hd⟩ := id ht1
    show wpAny _ A.in1 (holding [Value.ref b] _ >>= _) _ _ _
    refine wpAny_bind (wpAny_holding ?_)
    refine wpAny_bind (wpAny_tryCatch ?_)
    unfold Builtin.Dict.pairItems
    refine wpAny_bind (wpAny_typeOf (T := "tuple") ⟨o, ho, hc⟩ ?_)
    rw [if_pos (by first | decide | rfl | simp)]
    refine wpAny_bind (wpAny_seqItems ho hd (wpAny_pure ?_))
    show wpAny _ A.in1 (holding [Value.ref q.2.1, q.2.2] (dictSet S (.ref q.2.1) q.2.2)) _ _ _
    refine wpAny_holding (wpAny_dictSet_heap (hsz := by omega) (show (tupleKind (mixKind prog w)).room A.in1 from hu) hk1 hm1 fun h2 hm2 hs2 => ?_)
    refine wpAny_pure ⟨plainId_quiet ud_plain _, upd_loopT (items := items) hu hh hlI hSI hSl rest (i + 1) (storedH acc q.1 q.2.1 q.2.2) (ix + 1) 0 _ (show items.size = i + 1 + rest.length by omega) ?_ (fun j q' e => ?_) (fun x hx => ?_) ?_ ?_ hm2 fun h' tk hd' k => ?_⟩
    · have z := storedH_len (xs := acc) (k := q.1) (a := q.2.1) (v := q.2.2)
      omega
    · obtain ⟨b', hb', hbS', hbI', hkS', hkI', htup', hk'⟩ := ht (j + 1) q' (by simpa using e)
      refine ⟨b', ?_, hbS', hbI', hkS', hkI', (htup'.extBut hs1.extBut hbI').extBut hs2.extBut hbS', key_keep hk' fun o e => hs2.extBut _ o hkS' (hs1.extBut _ o hkI' e)⟩
      rw [show i + 1 + j = i + (j + 1) by omega]
      exact hb'
    · rcases storedH_mem hx with e | ⟨y, hy, e⟩
      · rw [e]; exact hkI
      · rw [← e]; exact ha y hy
    · exact hit1.at fun o' e => hs2.extBut I o' (Ne.symm hSI) e
    · exact hl1.extBut hs2.extBut (Ne.symm hSl)
    · exact hR h' tk hd' fun c oc h3 h4 e => k c oc h3 h4 (hs2.extBut c oc h3 (hs1.extBut c oc h4 e))
theorem call_dict_pairsT {s : Shared} {l : Addr} {ol : Obj} {items : Array Value} {n : Nat} {prs : List (List Key × Addr × Value)} {Q : Value → Shared → Prop} (hu : A.in1.in1.units < cLine) (hh : A.handled = none) (hl : s.heap.get? l = some ol) (hc : ol.cls = .type "list") (hd : ol.dict = none)
    (hdat : ol.data = .seq items n) (hsz : items.size = prs.length) (hln : prs.length ≤ sizeLine)
    (ht : ∀ (j : Nat) (q : List Key × Addr × Value), prs[j]? = some q → ∃ b : Addr, items[j]? = some (.ref b) ∧ IsTup s.heap b #[.ref q.2.1, q.2.2] ∧ (tupleKind (mixKind prog w)).is s.heap q.1 q.2.1)
    (h : ∀ h' tk, h'.DictOfH (tupleKind (mixKind prog w)) s.heap.objs.size (mergedH [] prs) → (∀ b o, s.heap.get? b = some o → h'.get? b = some o) → Q (.ref s.heap.objs.size) { s with heap := h', toks := tk }) :
    wpAny (model prog w) A (call (.type "dict") [.ref l]) Q E s := by
  refine callType_codes (Q₁ := fun obj s₁ => obj = .ref s.heap.objs.size ∧ s₁ = { s with heap := s.heap.push { cls := .type "dict", data := .dict #[] } }) PySem.F.kt_called_dict (PySem.F.kt_typeCall_dict_1 _) PySem.F.entry_dict_init (kt_code_dict_new _ ⟨rfl, rfl⟩) ?_
  rintro obj s₁ ⟨rfl, rfl⟩
  have hnew : (s.heap.push { cls := .type "dict", data := .dict #[] }).DictOf (mixKind prog w) s.heap.objs.size [] := Heap.DictOf.new s.heap
  have hnewH : (s.heap.push { cls := .type "dict", data := .dict #[] }).DictOfH (tupleKind (mixKind prog w)) s.heap.objs.size [] := ⟨_, #[], 0, Heap.get?_push_size _ rfl, ⟨rfl, rfl, rfl⟩, rfl, rfl, (fun x hx => nomatch hx), List.nodup_nil⟩
  have k0 : ∀ b o, s.heap.get? b = some o → (s.heap.push { cls := .type "dict", data := .dict #[] }).get? b = some o := fun b o e => Heap.get?_push_of_some _ e
  refine ⟨hnew.typeIs, PySem.F.args_dict_init_2 _ _, ?_⟩
  unfold Builtin.«dict.__init__»
  refine wpAny_bind ?_
  unfold Builtin.Dict.selfAndRest
  refine wpAny_bind (wpAny_notOrdered_dict hnew.typeIs ?_)
  show wpAny _ _ (pure (s.heap.objs.size, [Value.ref l])) _ _ _
  refine wpAny_pure ?_
  show wpAny _ _ (Builtin.Dict.updateFrom "dict.__init__" s.heap.objs.size (.ref l) [] .none) _ _ _
  unfold Builtin.Dict.updateFrom
  refine wpAny_bind (wpAny_typeOf (T := "list") ⟨ol, k0 _ _ hl, hc⟩ ?_)
  rw [if_pos (by first | decide | rfl | simp)]
  refine wpAny_bind (miss_list (k0 _ _ hl) hc hdat hd hh fun h1 tk1 hk1 => ?_)
  rw [if_pos (show (none : Option Value).isNone = true from rfl)]
  refine wpAny_bind (wpAny_rule ?_)
  have hl1 : h1.IsList l items := ⟨ol, hk1 _ _ (k0 _ _ hl), hc, n, hdat⟩
  have hS1 : s.heap.objs.size < h1.objs.size := by
    have e : (s.heap.push { cls := .type "dict", data := .dict #[] }).get? s.heap.objs.size = some { cls := .type "dict", data := .dict #[] } := Heap.get?_push_size _ rfl
    exact Heap.lt_size (hk1 _ _ e)
  refine wpAny_bind (wpAny_pyIter_list hl1 ?_)
  have k2 : ∀ b o, h1.get? b = some o → (h1.push { cls := .type "list_iterator", data := .fields #[.ref l, .int 0 0] }).get? b = some o := fun b o e => Heap.get?_push_of_some _ e
  have hlt : l < s.heap.objs.size := Heap.lt_size hl
  have key := upd_loopT (prog := prog) (w := w) (A := A.in1) (R := wants (fun r s₂ => r = .none ∧ Q (.ref s.heap.objs.size) s₂) E) (hu := by first | exact hu | simpa using hu) (S := s.heap.objs.size) (I := h1.objs.size) (l := l) (items := items) (res := Value.none) (hh := hh)
    (Nat.ne_of_lt (Nat.lt_trans hlt hS1)) (Nat.ne_of_lt hS1) (Nat.ne_of_gt hlt) prs 0 [] 0 0
    { s with heap := h1.push { cls := .type "list_iterator", data := .fields #[.ref l, .int 0 0] }, toks := tk1 } (by rw [hsz, Nat.zero_add]) (by rw [List.length_nil, Nat.zero_add]; exact hln)
    (fun j q e => by
      obtain ⟨b, e1, e2, e3⟩ := ht j q e
      have hb : b < s.heap.objs.size := e2.lt
      have hq : q.2.1 < s.heap.objs.size := by
        obtain ⟨oq, _, _, z, _⟩ := id e3
        exact Heap.lt_size z
      exact ⟨b, by rw [Nat.zero_add]; exact e1, Nat.ne_of_lt hb, Nat.ne_of_lt (Nat.lt_trans hb hS1), Nat.ne_of_lt hq, Nat.ne_of_lt (Nat.lt_trans hq hS1), e2.keeps fun c o z => k2 _ _ (hk1 _ _ (k0 _ _ z)), key_keep e3 fun o z => k2 _ _ (hk1 _ _ (k0 _ _ z))⟩)
    (fun _ m => nomatch m)
    ⟨_, Heap.get?_push_size _ rfl, rfl, rfl⟩ (hl1.at fun o e => k2 _ _ e) (dictOfH_keep hnewH (fun o e => k2 _ _ (hk1 _ _ e)) fun _ m => nomatch m)
    (fun h' tk hd' k => ⟨rfl, h h' tk hd' fun b o e => k b o (Nat.ne_of_lt (Heap.lt_size e)) (Nat.ne_of_lt (Nat.lt_trans (Heap.lt_size e) hS1)) (k2 _ _ (hk1 _ _ (k0 _ _ e)))⟩)
  first
    | exact wpAny_pure ⟨plainId_quiet ud_plain _, key⟩
    | exact wpAny_bind (wpAny_pure (wpAny_pure ⟨plainId_quiet ud_plain _, key⟩))
end
section
variable {X : Cx}
def mergeT (acc : List (List Key × V)) : List (List Key × Addr × V) → List (List Key × V)
  | [] => acc
  | q :: r => mergeT (putK acc q.1 q.2.2) r
theorem mergeT_len : ∀ (r : List (List Key × Addr × V)) (acc : List (List Key × V)), (mergeT acc r).length ≤ acc.length + r.length
  | [], acc => Nat.le_refl _
  | q :: r, acc => by
    have a := mergeT_len r (putK acc q.1 q.2.2)
    have b := length_putK acc q.1 q.2.2
    rw [mergeT, List.length_cons]
    omega
def PairT (K : PySem.W.Frag) (H : Hp) (p : Addr) (t : List Key × Addr × V) : Prop := SqT K H p [.ref t.2.1, t.2.2] ∧ H t.2.1 = some (.tup (t.1.map kV))
theorem pairsT_of {pins : List (Addr × Obj)} {σ : L2.St} {H : Hp} {s : Shared} (I : Inv X pins σ H s) : ∀ {ps : List Addr} {ts : List (List Key × Addr × V)}, Paired (PairT X.K H) ps ts →
    ∃ prs : List (List Key × Addr × Value), prs.length = ps.length ∧ (∀ (j : Nat) (q : List Key × Addr × Value), prs[j]? = some q → ∃ b : Addr, ps[j]? = some b ∧ IsTup s.heap b #[.ref q.2.1, q.2.2] ∧ (tupleKind (mixKind X.prog X.w)).is s.heap q.1 q.2.1) ∧
      ∀ acc xs, KT H acc xs → KT H (mergeT acc ts) (mergedH xs prs)
  | _, _, .nil => ⟨[], rfl, (fun j q e => by simp at e), fun _ _ r => r⟩
  | _, _, .cons (a := p) (b := t) h r => by
    obtain ⟨prs, hl, hp, hm⟩ := pairsT_of I r
    obtain ⟨its, rv, ht, _⟩ := I.tuple h.1
    obtain ⟨u, y, ei, ru, ry⟩ := vals2 rv
    subst ei
    cases (show u = Value.ref t.2.1 from ru)
    refine ⟨(t.1, t.2.1, y) :: prs, by rw [List.length_cons, List.length_cons, hl], fun j q e => ?_, fun acc xs k => hm _ _ (k.put t.1 h.2 ry)⟩
    cases j with
    | zero =>
      have e' : (t.1, t.2.1, y) = q := Option.some.inj e
      subst e'
      exact ⟨p, rfl, ht, key_of I.hok h.2⟩
    | succ j =>
      obtain ⟨b, e1, e2, e3⟩ := hp j q (by simpa using e)
      exact ⟨b, by simpa using e1, e2, e3⟩
def rDictT (K : PySem.W.Frag) : List V → Hp → VK → Prop := fun xs H Q => ∃ (a : Addr) (ps : List Addr) (ts : List (List Key × Addr × V)), xs = [.ref a] ∧ SqL K H a (ps.map V.ref) ∧ Paired (PairT K H) ps ts ∧
  ∀ p, H p = none → Q (.ref p) (L2.upd H p (.dT (mergeT [] ts)))
theorem cr_dictT (hu : X.A.units + 64 < cLine) (hcalm : X.calm = true) : CallR X (.type "dict") (rDictT X.K) := by
  intro pins s σ H xs us Q I r q
  obtain ⟨a, ps, ts, ex, hq, hp, q⟩ := q
  subst ex
  obtain ⟨u, eu, rx⟩ := vals1 r
  subst eu
  cases rx
  obtain ⟨its, rv, pl, hz⟩ := I.list hq
  have ei := refs_at rv
  subst ei
  rw [List.length_map] at hz
  obtain ⟨prs, hl, hpr, hm⟩ := pairsT_of I hp
  have hts : ts.length = ps.length := (Paired.length hp).symm
  obtain ⟨o, n, ho, hc, hd, hdat⟩ := pl
  refine call_dict_pairsT (prs := prs) (by simp; omega) (I.ok.hd hcalm) ho hc hd hdat (by simp [hl]) (by rw [hl]; exact hz) (fun j q' e => ?_) fun h' tk hd' k => ?_
  · obtain ⟨b, e1, e2, e3⟩ := hpr j q' e
    exact ⟨b, by simp [e1], e2, e3⟩
  · have hs : (s.heap.objs.size == sysModules) = false := beq_eq_false_iff_ne.mpr (Nat.ne_of_gt I.big)
    have hlen : (mergeT [] ts).length ≤ sizeLine := by
      refine Nat.le_trans (mergeT_len ts []) ?_
      rw [List.length_nil, Nat.zero_add, hts]
      exact hz
    have hn : H s.heap.objs.size = none := I.hok.fresh (Nat.le_refl _)
    have kt : KT H (mergeT [] ts) (mergedH [] prs) := hm [] [] .nil
    obtain ⟨o', es, ep, h1, h2, h3, h4, _, h6⟩ := hd'
    have ob : ObjOk X.prog X.w (L2.upd H s.heap.objs.size (.dT (mergeT [] ts))) h' s.heap.objs.size (.dT (mergeT [] ts)) := ⟨hlen, hs, _, kt.keeps (fun c ys ec => by rw [upd_ne (ne_of_none ec hn)]; exact ec), o', es, ep, h1, h2, h3, h4, h6⟩
    exact ⟨.ref s.heap.objs.size, L2.upd H s.heap.objs.size (.dT (mergeT [] ts)), I.laid (t' := tk) k (Nat.le_refl _) ob, rfl, q _ hn⟩
end
end WF
namespace WF
open PySem PySem.Spec PyProof.Rows L2
def keyI (ns : List Int) : List Key := ns.map Sum.inl
section
variable {K : PySem.W.Frag} {H : Hp} {R : List Pr} {p : Addr}
theorem upd_upd {a b : HO} : L2.upd (L2.upd H p a) p b = L2.upd H p b := by
  funext x
  by_cases h : x = p
  · subst h; rw [upd_same, upd_same]
  · rw [upd_ne h, upd_ne h, upd_ne h]
theorem rp_mem1 {κ α : Type} [DecidableEq κ] : ∀ {ks : List κ} {xs : List α} {q : κ} {v x : α}, x ∈ rp ks xs q v → x = v ∨ x ∈ xs
  | k :: ks, y :: xs, q, v, x, h => by
    rw [rp] at h
    rcases List.mem_cons.mp h with h | h
    · split at h
      · exact .inl h
      · exact .inr (by rw [h]; exact List.mem_cons_self)
    · exact (rp_mem1 h).imp id (List.mem_cons_of_mem _)
  | [], xs, q, v, x, h => by
    cases xs <;> exact .inr h
  | _ :: _, [], q, v, x, h => .inr h
end
end WF
namespace WF
open PySem PySem.Spec PyProof.Rows L2
def compKFM (own : List Nat) (i : Nat) (g : GM) (fm fe : List (List Int × Int) → EM) : EM := fun S => match S[i]? with
  | some (.dtk true ks xs) => match ksI ks, intsD xs with
    | some kss, some ns => compM own (kyI i) g (some (fm (kss.zip ns))) (fe (kss.zip ns)) S
    | _, _ => none
  | _ => none
section
variable {c : Cfg} {X : Cx} {S : S0} {tm tm0 tm' : List Pr} {σ σ2 : L2.St} {H : Hp} {own : List Nat} {d : Addr} {o : Obj} {l : List (List Int × Int)}
end
@[simp] theorem wE_compKFM {own : List Nat} {i : Nat} {g : GM} {fm fe : List (List Int × Int) → EM} {S : S0} {Q : D → S0 → Prop} : wE (compKFM own i g fm fe) S Q ↔ rd ((S[i]?.bind asDT).bind fun p => (ksI p.1).bind fun kss => (intsD p.2).bind fun ns => some (kss.zip ns)) fun l => wE (compM own (kyI i) g (some (fm l)) (fe l)) S Q := by
  unfold wE rd
  show WF0.oE (compKFM own i g fm fe S) Q ↔ _
  unfold compKFM
  cases h : S[i]? with
  | none => simp [WF0.oE, WF0.rd]
  | some d =>
    cases d with
    | dtk o ks xs =>
      cases o with
      | false => simp [WF0.oE, WF0.rd, asDT]
      | true =>
        simp only [Option.bind_some, asDT_dtk]
        cases hk : ksI ks with
        | none => simp [WF0.oE, WF0.rd]
        | some kss =>
          cases hn : intsD xs with
          | none => simp [WF0.oE, WF0.rd]
          | some ns => simp [WF0.rd, WF0.wE]
    | _ => simp [WF0.oE, WF0.rd, asDT]
end WF
namespace WF
open PySem PySem.Spec PyProof.Rows L2
section
variable {prog : Program} {w : World} {A : Around} {E : Value → Shared → Prop} {s : Shared}
end
section
variable {X : Cx} {K : PySem.W.Frag}
def neT0D : D → D → Option D
  | .dtk _ ks _, .dtk _ ls _ => if ls.isEmpty then some (.bl (!ks.isEmpty)) else none
  | _, _ => none
end
def gDputM (i : Nat) (fk : EM) : GM := fun d S => match S[i]? with
  | some d0 => if isDic d0 = true then (match fk S with
    | some (.ok k, S1) => match S1[i]? with
      | some d1 => (dPutD d1 k d).map fun d' => S1.set i d'
      | none => none
    | _ => none) else none
  | none => none
section
variable {c : Cfg} {X : Cx} {i : Nat} {pos : Pos}
end
section
variable {S : S0} {QG : S0 → Prop} {i : Nat}
@[simp] theorem wG_dput {fk : EM} {d : D} : wG (gDputM i fk) d S QG ↔ rd (S[i]?.bind asDic) fun _ => wE fk S fun k S => rd ((S[i]?.bind fun d1 => dPutD d1 k d).map fun d' => S.set i d') fun S => QG S := by
  unfold wG wE rd
  show WF0.oG (gDputM i fk d S) QG ↔ _
  unfold gDputM asDic
  cases h : S[i]? with
  | none => simp [WF0.oG, WF0.rd]
  | some x =>
    cases hd : isDic x with
    | false => simp [hd, WF0.oG, WF0.rd]
    | true =>
      simp only [hd, if_true, Option.bind_some, WF0.rd_some, WF0.wE]
      match h2 : fk S with
      | none => simp [WF0.oG, WF0.oE]
      | some (.ex e, S1) => simp [WF0.oG, WF0.oE]
      | some (.ok k, S1) =>
        simp only [WF0.oE]
        cases h3 : S1[i]? with
        | none => simp [WF0.oG]
        | some d1 =>
          simp only [Option.bind_some]
          cases h4 : dPutD d1 k d <;> simp [WF0.oG]
@[simp] theorem neT0_dtk {o o' : Bool} {ks ls : List (List Key)} {xs ys : List D} : neT0D (.dtk o ks xs) (.dtk o' ls ys) = if ls.isEmpty then some (.bl (!ks.isEmpty)) else none := rfl
end
end WF
namespace WF
open PySem PySem.Spec PyProof.Rows L2
section
variable {P : Program} {w : World} {A : Around} {E : Value → Shared → Prop}
end
section
variable {c : Cfg} {X : Cx} {e : Expr} {fe : EM} {p p2 q pos : Pos}
end
end WF
namespace WF
open PySem PySem.Spec PyProof.Rows L2
def popAt (k : D) (xs : List D) : Option (D × List D) := match k with
  | .int k => (ixN xs.length k).bind fun m => if xs.length < 1000000 then xs[m]?.map fun y => (y, xs.eraseIdx m) else none
  | _ => none
def popIxM (i : Nat) (fk : EM) : EM := lstS i (bindM fk fun k => modS i (popAt k))
section
variable {c : Cfg} {X : Cx} {S : S0} {tm tm0 : List Pr} {σ : L2.St} {H : Hp} {i : Nat} {e : Expr} {fk fy : EM}
end
section
variable {S : S0} {Q : D → S0 → Prop} {i : Nat} {fk : EM}
def popD (k : D) : D → Option (D × List D)
  | .lst true xs => popAt k xs
  | _ => none
@[simp] theorem wE_popIx : wE (popIxM i fk) S Q ↔ rd (S[i]?.bind isL) fun _ => wE fk S fun k S => rd (S[i]?.bind (popD k)) fun r => Q r.1 (S.set i (.lst true r.2)) := by
  unfold popIxM
  rw [lstS_rd]
  have e : ∀ (k : D) (S : S0), wE (modS i (popAt k)) S Q ↔ rd (S[i]?.bind (popD k)) fun r => Q r.1 (S.set i (.lst true r.2)) := fun k S => by
    unfold wE rd
    simp only [WF0.wE, modS]
    cases h : S[i]? with
    | none => simp [WF0.rd, WF0.oE]
    | some d => cases d with
      | lst o xs => cases o with
        | false => simp [popD, WF0.rd, WF0.oE]
        | true =>
          simp only [Option.bind_some, popD]
          cases hp : popAt k xs <;> simp [WF0.rd, WF0.oE]
      | _ => simp [popD, WF0.rd, WF0.oE]
  exact iff_of_eq (congrArg (fun F => rd (S[i]?.bind isL) fun _ => F) (propext (wE_bind.trans (iff_of_eq (congrArg (fun F => wE fk S F) (funext fun k => funext fun S => propext (e k S)))))))
end
end WF
namespace WF
open PySem PySem.Spec PyProof.Rows L2
open Classical in
noncomputable def ixOF (d k : D) : Option (D × D) := match d, k with
  | .lst true xs, .int i => match atI xs i with
    | some x => if x.frz = x then some (x, .lst true xs) else none
    | none => none
  | _, _ => none
noncomputable def ixSF (i : Nat) (fb : EM) : EM := bindM fb fun k S => match S[i]? with
  | some d => match ixOF d k with
    | some (x, d') => if isUn d then none else some (.ok x, S.set i d')
    | none => none
  | none => none
section
variable {K : PySem.W.Frag} {H : Hp} {R : List Pr}
end
section
variable {c : Cfg} {X : Cx} {S : S0} {tm tm0 : List Pr} {σ : L2.St} {H : Hp} {a b e : Expr} {fa fb fe : EM} {pos : Pos} {i : Nat}
end
section
variable {S : S0} {Q : D → S0 → Prop} {i : Nat} {fb : EM} {xs : List D} {k : Int} {x : D}
@[simp] theorem wE_ixSF : wE (ixSF i fb) S Q ↔ wE fb S fun k S => rd S[i]? fun d => rd (ixOF d k) fun p => isUn d = false ∧ Q p.1 (S.set i p.2) := by
  unfold ixSF
  have e : ∀ (k : D) (S : S0), wE (fun S => match S[i]? with
    | some d => match ixOF d k with
      | some (x, d') => if isUn d then none else some (.ok x, S.set i d')
      | none => none
    | none => none) S Q ↔ rd S[i]? fun d => rd (ixOF d k) fun p => isUn d = false ∧ Q p.1 (S.set i p.2) := fun k S => by
    unfold wE rd
    simp only [WF0.wE]
    cases h : S[i]? with
    | none => simp [WF0.rd, WF0.oE]
    | some d =>
      cases h2 : ixOF d k with
      | none => simp [h2, WF0.rd, WF0.oE]
      | some r =>
        obtain ⟨x, d'⟩ := r
        cases hu : isUn d
        · simp [h2, hu, WF0.rd, WF0.oE]
          exact ⟨fun q => ⟨x, d', ⟨rfl, rfl⟩, q⟩, fun ⟨_, _, ⟨e1, e2⟩, q⟩ => by cases e1; cases e2; exact q⟩
        · simp [h2, hu, WF0.rd, WF0.oE]
  exact wE_bind.trans (iff_of_eq (congrArg (fun F => wE fb S F) (funext fun k => funext fun S => propext (e k S))))
end
end WF
namespace WF
open PySem PySem.Spec PyProof.Rows L2
section
variable {X : Cx} {K : PySem.W.Frag}
def arN (f : Int → Int → Int) : D → D → Option D
  | .int a, .int b => some (.int (f a b))
  | .bl p, .int b => some (.int (f (if p = true then (1 : Int) else 0) b))
  | .int a, .bl p => some (.int (f a (if p = true then (1 : Int) else 0)))
  | _, _ => none
end
def rgI (a b : Int) : List Int := (List.range (b - a).toNat).map fun (i : Nat) => a + (i : Int)
def mkRg (t : Bool) (a b : D) : Option D := match a, b with
  | .int a, .int b => if 0 ≤ a ∧ a ≤ 1000000 ∧ 0 ≤ b ∧ b ≤ 1000000 then some (if t = true then .tup ((rgI a b).map .int) else .lst true ((rgI a b).map .int)) else none
  | _, _ => none
def rgM2 (t : Bool) (fa fb : EM) : EM := bindM fa fun a => bindM fb fun b => optM (mkRg t a b)
def rgM1 (t : Bool) (fb : EM) : EM := bindM fb fun b => optM (mkRg t (.int 0) b)
section
variable {c : Cfg} {X : Cx} {e e2 : Expr} {fa fb : EM} {p p2 q pos : Pos} {H : Hp} {R : List Pr}
end
section
variable {f : Int → Int → Int} {a b : Int} {p : Bool} {fa fb : EM} {S : S0} {Q : D → S0 → Prop} {t : Bool} {x y : D}
@[simp] theorem arN_ii : arN f (.int a) (.int b) = some (.int (f a b)) := rfl
@[simp] theorem arN_bi : arN f (.bl p) (.int b) = some (.int (f (if p = true then (1 : Int) else 0) b)) := rfl
@[simp] theorem arN_ib : arN f (.int a) (.bl p) = some (.int (f a (if p = true then (1 : Int) else 0))) := rfl
@[simp] theorem wE_rgM2 : wE (rgM2 t fa fb) S Q ↔ wE (bindM fa fun a => bindM fb fun b => optM (mkRg t a b)) S Q := Iff.rfl
@[simp] theorem wE_rgM1 : wE (rgM1 t fb) S Q ↔ wE (bindM fb fun b => optM (mkRg t (.int 0) b)) S Q := Iff.rfl
@[simp] theorem mkRg_ii : mkRg t (.int a) (.int b) = if 0 ≤ a ∧ a ≤ 1000000 ∧ 0 ≤ b ∧ b ≤ 1000000 then some (if t = true then .tup ((rgI a b).map .int) else .lst true ((rgI a b).map .int)) else none := rfl
end
end WF
namespace WF
open PySem PySem.Spec PyProof.Rows L2
open HT
section
variable {prog : Program} {w : World} {A : Around} {E : Value → Shared → Prop} {s : Shared}
end
section
variable {X : Cx} {e : Expr}
end
def revtD : D → Option D
  | .tup xs => some (.tup xs.reverse)
  | _ => none
@[simp] theorem revtD_tup {xs : List D} : revtD (.tup xs) = some (.tup xs.reverse) := rfl
def revtM (fe : EM) : EM := bindM fe fun d => optM (revtD d)
@[simp] theorem wE_revt {fe : EM} {S : S0} {Q : D → S0 → Prop} : wE (revtM fe) S Q ↔ wE fe S fun d S => wE (optM (revtD d)) S Q := by
  rw [revtM, wE_bind]
section
variable {c : Cfg} {X : Cx} {e : Expr} {fe : EM}
end
end WF
namespace WF
open PySem PySem.Spec PyProof.Rows L2
section
variable {prog : Program} {w : World} {A : Around} {E : Value → Shared → Prop} {s : Shared} {Q : Bool → Shared → Prop}
def IsPT (prog : Program) (w : World) (h : Heap) (v : Value) (k : List Int) : Prop := ∃ a o n t b z ns, v = .ref a ∧ k = z :: ns ∧ h.get? a = some o ∧ o.cls = .type "tuple" ∧ o.data = .seq #[.int z t, .ref b] n ∧
  (tupleKind (mixKind prog w)).is h (ns.map Sum.inl) b ∧ ∃ its : Array Value, IsTup h b its ∧ IntsAre its.toList ns
theorem IsPT.keeps {h h' : Heap} {v : Value} {k : List Int} (x : IsPT prog w h v k) (kp : ∀ b o, h.get? b = some o → o.cls = .type "tuple" → h'.get? b = some o) : IsPT prog w h' v k := by
  obtain ⟨a, o, n, t, b, z, ns, e1, e2, e3, e4, e5, e6, its, e7, e8⟩ := x
  have e6' := e6
  obtain ⟨ob, ho, hc, hr⟩ := e7
  exact ⟨a, o, n, t, b, z, ns, e1, e2, kp _ _ e3 e4, e4, e5, key_keep e6' fun o' q => by
    have : o' = ob := by rw [ho] at q; exact (Option.some.inj q).symm
    subst this
    exact kp _ _ ho hc, its, ⟨ob, kp _ _ ho hc, hc, hr⟩, e8⟩
theorem lexLt_ltL : ∀ ns ms : List Int, HT.lexLt ns ms = ltL ns ms
  | [], [] => rfl
  | [], _ :: _ => rfl
  | _ :: _, [] => rfl
  | a :: as, b :: bs => by
    have ih := lexLt_ltL as bs
    unfold ltL
    by_cases e : a = b
    · rw [if_pos e, ← ih]
      simp [HT.lexLt, e]
    · rw [if_neg e]
      simp [HT.lexLt, e]
theorem ltL_refl (x : List Int) : ltL x x = false := by
  cases h : ltL x x with
  | false => rfl
  | true => have := ltL_asym _ _ h; rw [h] at this; cases this
theorem inl_eq {ns ms : List Int} : (ns.map Sum.inl : List Key) = ms.map Sum.inl ↔ ns = ms := by
  constructor
  · intro h
    exact (List.map_inj_right fun a b e => Sum.inl.inj e).mp h
  · intro h; rw [h]
theorem pt_cmp {vs : List Value} {k : Value → List Int} (hu : A.units < cLine) (hp : ∀ v ∈ vs, IsPT prog w s.heap v (k v)) : SrtO.Cmp prog w A s (tuples' true) (fun p => p.1 ∈ vs) (SrtO.lt2 fun v u => ltL (k v) (k u)) := by
  intro p q hm hm'
  have h1 := hp _ hm
  have h2 := hp _ hm'
  show wpAny (model prog w) A (keyLt' (tuples' true) p.1 q.1) (fun r s' => s' = s ∧ r = ltL (k p.1) (k q.1)) (fun _ _ => False) s
  generalize k p.1 = x at h1 ⊢
  generalize k q.1 = y at h2 ⊢
  obtain ⟨a, o, n, t, b, z, ns, e, rfl, ho, hc, hd, hk, its, ht, hi⟩ := h1
  obtain ⟨a', o', n', t', b', z', ns', e', rfl, ho', hc', hd', hk', its', ht', hi'⟩ := h2
  rw [e, e']
  refine PySem.W.kat_lt ho hd ho' hd' ?_
  show PySem.W.KatLex prog w A true (decide (2 < 2)) _ [(.int z t, .int z' t'), (.ref b, .ref b')] 0 s
  refine PySem.W.kat_cons (SeqAt.EqAt.int_int z t z' t' prog w _ _ ?_)
  refine PySem.W.kat_go (fun e1 => ?_) (fun e1 => ?_)
  · have ex : z = z' := by simpa using e1
    refine PySem.W.kat_yes (PySem.W.kat_cons (wpAny_eqBool_tuple hu hk hk' ?_))
    refine PySem.W.kat_go (fun e2 => ?_) (fun e2 => ?_)
    · have ey : ns = ns' := inl_eq.mp (by simpa using e2)
      have e3 : ltL (z :: ns) (z' :: ns') = false := by rw [ex, ey]; exact ltL_refl _
      exact PySem.W.kat_yes (PySem.W.kat_nil ⟨rfl, e3.symm⟩)
    · have e3 : ltL (z :: ns) (z' :: ns') = ltL ns ns' := by
        show (if z = z' then ltL ns ns' else decide (z < z')) = _
        rw [if_pos ex]
      refine PySem.W.kat_no (PySem.W.kat_one _ _ (HT.lt_tupInts ht ht' hi hi' hu ?_))
      exact (show s = s ∧ HT.lexLt ns ns' = ltL (z :: ns) (z' :: ns') from ⟨rfl, by rw [e3, lexLt_ltL]⟩)
  · have ex : ¬ z = z' := by simpa using e1
    have e3 : ltL (z :: ns) (z' :: ns') = decide (z < z') := by
      show (if z = z' then ltL ns ns' else decide (z < z')) = _
      rw [if_neg ex]
    exact PySem.W.kat_no (oneLt_int ⟨rfl, e3.symm⟩)
end
def ptD (k : List Int) : D := .tup [.int (k.headD 0), .tup (k.tail.map .int)]
def ptsD : List D → Option (List (List Int))
  | [] => some []
  | .tup [.int z, .tup xs] :: r => match intsD xs, ptsD r with
    | some ns, some l => some ((z :: ns) :: l)
    | _, _ => none
  | _ => none
def sortPT : List D → Option D
  | [.lst _ xs] => (ptsD xs).map fun ps => .lst true ((sortT ps).map ptD)
  | _ => none
section
variable {K : PySem.W.Frag} {H : Hp} {R : List Pr}
end
section
variable {c : Cfg} {X : Cx} {e e2 : Expr} {fa fb : EM} {p p2 q pos : Pos}
end
@[simp] theorem sortPT_lst {o : Bool} {xs : List D} : sortPT [.lst o xs] = (ptsD xs).map fun ps => .lst true ((sortT ps).map ptD) := rfl
end WF
namespace WF
open PySem PySem.Spec PyProof.Rows L2
section
variable {X : Cx} {tg e : Expr} {td : TE}
end
def keysN : D → Option (List D)
  | .dtk true ks xs => (ksI ks).bind fun kss => (intsD xs).bind fun ns => if kss.length = ns.length then some ((kss.zip ns).map kyD) else none
  | _ => none
def keyN (fe : EM) : IM := bindI fe fun d => optI (keysN d)
section
variable {c : Cfg} {X : Cx} {fe : EM} {tg e : Expr}
end
section
variable {fe : EM} {S : S0} {Q : List D → List (Nat × D) → S0 → Prop}
@[simp] theorem keysN_dtk {ks : List (List Key)} {xs : List D} : keysN (.dtk true ks xs) = (ksI ks).bind fun kss => (intsD xs).bind fun ns => if kss.length = ns.length then some ((kss.zip ns).map kyD) else none := rfl
@[simp] theorem wI_keyN : wI (keyN fe) S Q ↔ wE fe S fun d S => rd (keysN d) fun ds => Q ds [] S := by
  unfold wI wE rd
  show WF0.oI (bindI fe (fun d => optI (keysN d)) S) Q ↔ _
  unfold WF0.wE bindI
  cases h : fe S with
  | none => simp [WF0.oI, WF0.oE]
  | some r =>
    obtain ⟨r, S'⟩ := r
    cases r with
    | ex x => simp [WF0.oI, WF0.oE]
    | ok d =>
      simp only [WF0.oE, optI]
      cases keysN d with
      | none => simp [WF0.oI, WF0.rd]
      | some ds => simp [WF0.oI, WF0.rd]
end
end WF
namespace WF
open PySem PySem.Spec PyProof.Rows L2
open HT (eqAt_int)
section
open PySem.SeqAt
open PySem.AutoSeq1 (wpAny_loadPart')
open PySem.MeetsSeq PySem.MeetsSeq2 PySem.MeetsSeq3
end
section
variable {prog : Program} {w : World} {A : Around} {E : Value → Shared → Prop} {s : Shared}
end
def bestK (kss : List (List Int)) : Nat := argBest (fun i j => ltL (kss.getD j []) (kss.getD i [])) (kss.length - 1)
def maxTK : List D → Option D
  | [.dtk _ ks xs] => if D.imms xs = true ∨ D.purs xs = true then (ksI ks).bind fun kss => if 0 < kss.length then some (tpD (kss.getD (bestK kss) [])) else none else none
  | _ => none
@[simp] theorem maxTK_dtk {o : Bool} {ks : List (List Key)} {xs : List D} : maxTK [.dtk o ks xs] = if D.imms xs = true ∨ D.purs xs = true then (ksI ks).bind fun kss => if 0 < kss.length then some (tpD (kss.getD (bestK kss) [])) else none else none := rfl
end WF
namespace WF
open PySem PySem.Spec PyProof.Rows L2
def kyG (q : List Int × D) : D := .tup (q.1.map .int)
def keysG (l : List (List Int × D)) : List (List Key) := l.map fun q => q.1.map Sum.inl
def kvsG (l : List (List Int × D)) (vs : List V) : List (List Key × V) := (keysG l).zip vs
theorem kvsG_keys {l : List (List Int × D)} {vs : List V} (h : vs.length = l.length) : (kvsG l vs).map Prod.fst = keysG l := by
  unfold kvsG
  exact (zip_len_fst (by unfold keysG; rw [List.length_map]; exact h.symm)).1
def kyHG (i : Nat) (l : List (List Int × D)) : IM := fun S => match S[i]? with
  | some (.hld (.frz o (.dT kvs))) => if kvs.map Prod.fst = keysG l then some (.ok (l.map kyG) [(i, .hld (.frz o (.dT kvs)))], S.set i .un) else none
  | _ => none
def kyIG (i : Nat) : IM := fun S => match S[i]? with
  | some (.dtk true ks xs) => (ksI ks).bind fun kss => if kss.length = xs.length then some (.ok ((kss.zip xs).map kyG) [(i, .dtk true ks xs)], S.set i .un) else none
  | _ => none
def compKGM (own : List Nat) (i : Nat) (g : GM) (fm fe : List (List Int × D) → EM) : EM := fun S => match S[i]? with
  | some (.dtk true ks xs) => if D.purs xs = true then match ksI ks with
    | some kss => compM own (kyIG i) g (some (fm (kss.zip xs))) (fe (kss.zip xs)) S
    | none => none
    else none
  | _ => none
def Cfg.hlG (c : Cfg) (d : Addr) (o : Obj) (l : List (List Int × D)) (vs : List V) : Cfg := { c with rs := (.ref d, .hld (.frz o (.dT (kvsG l vs)))) :: (vs.zip (l.map Prod.snd) ++ c.rs) }
def TeG (c : Cfg) (i : Nat) (PV : List (Option (Option V))) (l : List (List Int × D)) (fe : EM) : TE := fun σ H Q => ∃ d o vs, PV[i]? = some (some (some (.ref d))) ∧ vs.length = l.length ∧ T ((c.blk PV).hlG d o l vs) fe σ H Q
def TGH (c : Cfg) (i : Nat) (l : List (List Int × D)) (own : List Nat) (g : GM) (fm fe : EM) : TE := fun σ H Q => ∃ S tm0 vs ob, S[i]? = some (.hld (.frz ob (.dT (kvsG l vs)))) ∧ vs.length = l.length ∧ SJ c S (vs.zip (l.map Prod.snd) ++ tm0) σ H ∧
  post c (compM own (kyHG i l) g (some fm) fe S) (vs.zip (l.map Prod.snd) ++ tm0) σ Q
section
variable {c : Cfg} {X : Cx} {S : S0} {tm tm0 tm' : List Pr} {σ σ2 : L2.St} {H : Hp} {own : List Nat} {d : Addr} {o : Obj} {l : List (List Int × D)} {vs : List V}
theorem SJ.toRsG (hp : (tm ++ c.rs).Perm (tm' ++ ((.ref d, .hld (.frz o (.dT (kvsG l vs)))) :: (vs.zip (l.map Prod.snd) ++ c.rs)))) (j : SJ c S tm σ H) : SJ (c.hlG d o l vs) S tm' σ H := ⟨j.len, j.set, j.pv, j.lp, j.jt.perm (List.Perm.append_left _ hp)⟩
theorem SJ.ofRsG (hp : (tm ++ c.rs).Perm (tm' ++ ((.ref d, .hld (.frz o (.dT (kvsG l vs)))) :: (vs.zip (l.map Prod.snd) ++ c.rs)))) (j : SJ (c.hlG d o l vs) S tm' σ H) : SJ c S tm σ H := ⟨j.len, j.set, j.pv, j.lp, j.jt.perm (List.Perm.append_left _ hp.symm)⟩
theorem hold_permG {A B C R rows : List Pr} {r : Pr} : ((A ++ [r]) ++ (B ++ (rows ++ C)) ++ R).Perm ((A ++ (B ++ C)) ++ (r :: (rows ++ R))) := by
  simp only [List.append_assoc]
  refine List.Perm.append_left _ ?_
  show (r :: (B ++ (rows ++ (C ++ R)))).Perm (B ++ (C ++ (r :: (rows ++ R))))
  have e1 : (rows ++ (C ++ R)).Perm (C ++ (rows ++ R)) := perm_sw
  refine (List.Perm.cons _ (List.Perm.append_left _ e1)).trans ?_
  refine perm_take.symm.trans (List.Perm.append_left _ perm_take.symm)
theorem iter_kyHG {K : PySem.W.Frag} (hk : (kvsG l vs).map Prod.fst = keysG l) : Iter K (Itkt d o (kvsG l vs)) [(.ref d, .hld (.frz o (.dT (kvsG l vs))))] (l.map kyG) := by
  have hl : (kvsG l vs).length = l.length := by
    have := congrArg List.length hk
    unfold keysG at this
    simpa using this
  refine ⟨fun i H L hi j => ⟨(Joint.openH j).1, by rw [hl]; simpa using hi⟩, fun i H L x y H' hx j yl => ?_, fun H L j => ⟨(Joint.openH j).1, by rw [hl]; simp⟩⟩
  obtain ⟨rfl, k, v, q, hk2, rfl, hq⟩ := yl
  rw [List.getElem?_map] at hx
  cases hp : l[i]? with
  | none => rw [hp] at hx; cases hx
  | some a =>
    rw [hp] at hx
    cases hx
    have e : k = a.1.map Sum.inl := by
      have h1 : ((kvsG l vs).map Prod.fst)[i]? = some k := by rw [List.getElem?_map, hk2]; rfl
      rw [hk] at h1
      unfold keysG at h1
      rw [List.getElem?_map, hp] at h1
      exact (Option.some.inj h1).symm
    have hq' : H' q = some (.tup (a.1.map V.int)) := by rw [hq, e, List.map_map]; rfl
    exact Joint.seeTup (ns := a.1) j hq'
theorem wi_kyHG {tg e : Expr} {i : Nat} (hK : c.K = X.K) (he : PE X e (tVar i)) : PI X tg e (TIm c (kyHG i l)) :=
  pi_mono (pi_keys he) fun σ H R h => by
    obtain ⟨S, tm, j, p⟩ := h
    unfold kyHG at p
    split at p
    · rename_i o kvs hd
      split at p
      · rename_i hk
        obtain ⟨v, ev, Z, k, put⟩ := j.get hd rfl
        obtain ⟨d, rfl⟩ := k.is_hld
        have hv : (σ.getD i none).getD V.non = .ref d := by
          rw [List.getD_eq_getElem?_getD, ev]; rfl
        have ez : kvs = kvsG l (kvs.map Prod.snd) := by
          unfold kvsG
          rw [← hk]
          exact (zip_fs).symm
        have hk2 : (kvsG l (kvs.map Prod.snd)).map Prod.fst = keysG l := by rw [← ez]; exact hk
        refine ⟨_, ev, d, o, rfl, .inr ⟨_, k.openH.1, p (fun x m => ?_) _ [] H ?_ ?_⟩⟩
        · have : x = (i, D.hld (.frz o (.dT kvs))) := by simpa using m
          subst this
          exact ⟨_, ev⟩
        · show Iter c.K _ [((σ.getD i none).getD V.non, D.hld _)] _
          rw [hv]
          have := iter_kyHG (K := c.K) (d := d) (o := o) hk2
          rw [← ez] at this
          exact this
        · show SJ c _ ([((σ.getD i none).getD V.non, D.hld _)] ++ tm) σ H
          rw [hv]
          refine put .un [(.ref d, .hld (.frz o (.dT kvs)))] H ?_
          exact Joint.un (by simpa using k)
      · exact p.elim
    · exact p.elim
theorem lcKG_read {i0 : Nat} {g : GM} {fm fe : EM} {l : List (List Int × D)} {Q : VK} (hi0 : i0 ∉ own) (hn : own.Nodup) (hpv : ∀ k ∈ own, (pinB σ own)[k]? = some none) (h : TGH c i0 l own g fm fe σ H Q) :
    tLc (TIm c (kyHG i0 l)) (UG (c.blk (pinB σ own)) g) (tB (TeG c i0 (pinB σ own) l fm)) (TeG c i0 (pinB σ own) l fe) own σ H Q := by
  obtain ⟨S, tm0, vs, ob, hdS, hvl, j, p⟩ := h
  obtain ⟨tm, htm⟩ : ∃ tm, tm = vs.zip (l.map Prod.snd) ++ tm0 := ⟨_, rfl⟩
  rw [← htm] at j p
  refine ⟨S, tm, j, ?_⟩
  obtain ⟨v0, ev0, Z0, kk0, _⟩ := j.get hdS rfl
  obtain ⟨d0, rfl⟩ := kk0.is_hld
  have hf : kyHG i0 l S = some (.ok (l.map kyG) [(i0, .hld (.frz ob (.dT (kvsG l vs))))], S.set i0 .un) := by
    unfold kyHG
    rw [hdS]
    simp only [kvsG_keys hvl, if_true]
  have pin0 : (pinB σ own)[i0]? = some (some (some (.ref d0))) := by
    rw [pinB_out hi0, ev0]; rfl
  have hv0 : (σ.getD i0 none).getD V.non = .ref d0 := by
    rw [List.getD_eq_getElem?_getD, ev0]; rfl
  generalize hft : some fm = ft at p
  obtain ⟨fe0, hfe0⟩ : ∃ fe0, fe = fe0 := ⟨_, rfl⟩
  rw [hfe0] at p
  rw [hf]
  unfold compM at p
  rw [hf] at p
  generalize hds : l.map kyG = ds at p ⊢
  generalize hS1 : S.set i0 .un = S1 at p ⊢
  simp only at p
  split at p
  · rename_i hall
    have hk : ∀ k ∈ own, k < S1.length := fun k m => by
      have := List.all_eq_true.mp hall k m
      simpa using this
    cases hcl : compL own g ft fe0 ds (wipeS S1 own) [] with
    | none => rw [hcl] at p; exact p.elim
    | some r =>
      obtain ⟨accF, SF⟩ := r
      rw [hcl] at p
      let lent : List (Nat × D) := [(i0, .hld (.frz ob (.dT (kvsG l vs))))]
      have elent : lentL σ lent = [(.ref d0, .hld (.frz ob (.dT (kvsG l vs))))] := by
        show [((σ.getD i0 none).getD V.non, _)] = _
        rw [hv0]
      intro lok J hold0 H1 J1 j1 DA hD
      obtain ⟨hold, hhold⟩ : ∃ hold, hold = hold0 ++ lentL σ lent := ⟨_, rfl⟩
      have J1 : Iter c.K J hold ds := by rw [hhold]; exact J1
      have j1 : SJ c S1 (hold ++ tm) σ H1 := by rw [hhold, List.append_assoc]; exact j1
      let c' := c.blk (pinB σ own)
      let sv := svOf σ S1 own
      have j0 : SJ c' (wipeS S1 own) ((.ref DA, .lst true []) :: (hold ++ (sv ++ tm))) (wipe σ own) (upd H1 DA (.lst [])) := by
        refine ⟨by rw [wipe_length, wipeS_len]; exact j1.len, fun i d h hu => ?_, fun i o h => ?_, by rw [wipe_length]; exact pinB_len σ own, ?_⟩
        · by_cases hi : i ∈ own
          · exact (hu (wipeS_in hi h)).elim
          · rw [wipeS_out hi] at h
            rw [wipe_out hi]
            exact j1.set i d h hu
        · have hi : i ∉ own := fun hi => by
            have h : (pinB σ own)[i]? = some (some o) := h
            rw [hpv i hi] at h; cases h
          rw [wipe_out hi]
          have h : (pinB σ own)[i]? = some (some o) := h
          rw [pinB_out hi, Option.map_eq_some_iff] at h
          obtain ⟨a, ha, e⟩ := h
          cases e
          exact ha
        · have k := wipe_joint hn hk j1.len j1.jt
          have k2 : Joint c.K H1 (slotL (wipe σ own) (wipeS S1 own) ++ (hold ++ (sv ++ tm) ++ c.rs)) := k.perm (List.Perm.append_left _ (by
            rw [List.append_assoc, List.append_assoc hold, List.append_assoc]
            exact perm_sw))
          have k3 := Joint.lst (vs := []) (ds := []) (R := slotL (wipe σ own) (wipeS S1 own) ++ (hold ++ (sv ++ tm) ++ c.rs)) rfl k2 hD
          exact k3.perm perm_take.symm
      refine ⟨fun i m H => m = ds.length - i ∧ i ≤ ds.length ∧ ∃ S acc, SJ c' S ((.ref DA, .lst true acc) :: (hold ++ (sv ++ tm))) (wipe σ own) H ∧ compL own g ft fe0 (ds.drop i) S acc = some (accF, SF), ⟨_, rfl, Nat.zero_le _, _, _, j0, hcl⟩, ?_⟩
      rintro i m H2 ⟨rfl, hi2, S2, acc, j2, p2⟩
      have hkS : ∀ {S : S0} {tm : List Pr} {σ2 : L2.St} {H : Hp}, SJ c' S tm σ2 H → ∀ k ∈ own, k < S.length := fun {S tm σ2 H} q k m => by
        have e1 := q.lp
        rw [show c'.PV = pinB σ own from rfl, pinB_len] at e1
        rw [← q.len, ← e1, j1.len]
        exact hk k m
      have jh : Joint c.K H2 (hold ++ (slotL (wipe σ own) S2 ++ ((.ref DA, .lst true acc) :: (sv ++ tm) ++ c.rs))) := j2.jt.perm (by
        show (slotL (wipe σ own) S2 ++ ((V.ref DA, D.lst true acc) :: (hold ++ (sv ++ tm)) ++ c.rs)).Perm _
        have e1 : ((V.ref DA, D.lst true acc) :: (hold ++ (sv ++ tm)) ++ c.rs).Perm (hold ++ ((V.ref DA, D.lst true acc) :: (sv ++ tm) ++ c.rs)) := by
          rw [List.cons_append, List.cons_append, List.append_assoc]
          exact perm_take.symm
        exact (List.Perm.append_left _ e1).trans perm_sw)
      by_cases hlt : i < ds.length
      · have hd : ds[i]? = some ds[i] := List.getElem?_eq_getElem hlt
        rw [List.drop_eq_getElem_cons hlt] at p2
        refine .inr ⟨J1.go i H2 _ hlt jh, fun H' => ∃ S acc, SJ c' S ((.ref DA, .lst true acc) :: (hold ++ (sv ++ tm))) (wipe σ own) H' ∧ compL own g ft fe0 (ds.drop (i + 1)) S acc = some (accF, SF), fun H' ⟨S3, acc3, j3, p3⟩ => ⟨_, (by omega : ds.length - (i + 1) < ds.length - i), rfl, hlt, S3, acc3, j3, p3⟩, fun x H3 hy => ?_⟩
        have k := J1.yld i H2 _ _ _ _ hd jh hy
        refine ⟨ds[i], S2, (.ref DA, .lst true acc) :: (hold ++ (sv ++ tm)), j2.put (k.perm (List.Perm.cons _ ?_)), ?_⟩
        · refine perm_sw.trans (List.Perm.append_left _ ?_)
          show (hold ++ ((V.ref DA, D.lst true acc) :: ((sv ++ tm) ++ c.rs))).Perm ((V.ref DA, D.lst true acc) :: ((hold ++ (sv ++ tm)) ++ c.rs))
          rw [List.append_assoc hold]
          exact perm_take
        unfold compL at p2
        cases hg : g ds[i] S2 with
        | none => rw [hg] at p2; cases p2
        | some S3 =>
          rw [hg] at p2
          intro σ4 H4 j4
          refine ⟨(j4.wipeB hn (hkS j4) rfl).1, ?_⟩
          simp only at p2
          have after : ∀ {S5 : S0} {H5 : Hp} {acc' : List D}, SJ c' S5 ((.ref DA, .lst true acc') :: (hold ++ (sv ++ tm))) σ4 H5 → compL own g ft fe0 (ds.drop (i + 1)) (wipeS S5 own) acc' = some (accF, SF) → ∃ S acc, SJ c' S ((.ref DA, .lst true acc) :: (hold ++ (sv ++ tm))) (wipe σ own) H5 ∧ compL own g ft fe0 (ds.drop (i + 1)) S acc = some (accF, SF) :=
            fun {S5 H5 acc'} q e => ⟨wipeS S5 own, acc', (q.wipeB hn (hkS q) rfl).2, e⟩
          have elem : ∀ {S5 : S0} {H5 : Hp}, SJ c' S5 ((.ref DA, .lst true acc) :: (hold ++ (sv ++ tm))) σ4 H5 → (match fe0 S5 with
              | some (.ok y, S6) => if acc.length < 1000000 then compL own g ft fe0 (ds.drop (i + 1)) (wipeS S6 own) (acc ++ [y]) else none
              | _ => none) = some (accF, SF) → TeG c i0 (pinB σ own) l fe σ4 H5 (fun y H6 => ∃ acc', H6 DA = some (.lst acc') ∧ acc'.length < sizeLine ∧ ∃ S acc, SJ c' S ((.ref DA, .lst true acc) :: (hold ++ (sv ++ tm))) (wipe σ own) (upd H6 DA (.lst (acc' ++ [y]))) ∧ compL own g ft fe0 (ds.drop (i + 1)) S acc = some (accF, SF)) := fun {S5 H5} q e => by
            refine ⟨d0, ob, vs, pin0, hvl, S5, (.ref DA, .lst true acc) :: (hold0 ++ (sv ++ tm0)), SJ.toRsG (c := c') (tm := (.ref DA, .lst true acc) :: (hold ++ (sv ++ tm))) ?_ q, ?_⟩
            · rw [hhold, elent, htm]
              exact List.Perm.cons _ (hold_permG (R := c.rs))
            rw [hfe0]
            cases hfe : fe0 S5 with
            | none => rw [hfe] at e; cases e
            | some o =>
              obtain ⟨o, S6⟩ := o
              rw [hfe] at e
              cases o with
              | ex x => cases e
              | ok y =>
                simp only at e
                split at e
                · rename_i hsz
                  intro vy H6 j6
                  have j6 : SJ c' S6 ((vy, y) :: (.ref DA, .lst true acc) :: (hold ++ (sv ++ tm))) σ4 H6 := SJ.ofRsG (c := c') (tm' := (vy, y) :: (.ref DA, .lst true acc) :: (hold0 ++ (sv ++ tm0))) (by
                    rw [hhold, elent, htm]
                    exact List.Perm.cons _ (List.Perm.cons _ (hold_permG (R := c.rs)))) j6
                  have j6' : Joint c.K H6 ((.ref DA, .lst true acc) :: ((vy, y) :: (slotL σ4 S6 ++ ((hold ++ (sv ++ tm)) ++ c.rs)))) := j6.take.perm ((List.Perm.cons _ perm_take).trans (List.Perm.swap _ _ _))
                  obtain ⟨vs, hD6, hl6, k6⟩ := j6'.app
                  refine ⟨vs, hD6, Nat.lt_trans (by omega : vs.length < 1000000) (by decide), ?_⟩
                  exact after (j6.drop.drop.put k6) e
                · cases e
          cases hts : tstM ft S3 with
          | none => rw [hts] at p2; cases p2
          | some r =>
            obtain ⟨b, S5⟩ := r
            rw [hts] at p2
            subst hft
            have hts : (match fm S3 with
              | some (.ok (.bl b), S') => some (b, S')
              | _ => none) = some (b, S5) := hts
            · split at hts
              · rename_i b' S5' hfm
                cases hts
                refine ⟨d0, ob, vs, pin0, hvl, S3, (.ref DA, .lst true acc) :: (hold0 ++ (sv ++ tm0)), SJ.toRsG (c := c') (tm := (.ref DA, .lst true acc) :: (hold ++ (sv ++ tm))) ?_ j4, ?_⟩
                · rw [hhold, elent, htm]
                  exact List.Perm.cons _ (hold_permG (R := c.rs))
                rw [hfm]
                intro vy H6 j6
                have eb := j6.take.is_bl
                have j7 : SJ c' S5 ((.ref DA, .lst true acc) :: (hold ++ (sv ++ tm))) σ4 H6 := SJ.ofRsG (c := c') (tm' := (.ref DA, .lst true acc) :: (hold0 ++ (sv ++ tm0))) (by
                  rw [hhold, elent, htm]
                  exact List.Perm.cons _ (hold_permG (R := c.rs))) j6.drop
                refine ⟨b, eb, ?_⟩
                cases b with
                | true =>
                  simp only [if_true] at p2 ⊢
                  exact elem j7 p2
                | false =>
                  simp only [Bool.false_eq_true, if_false] at p2 ⊢
                  exact after j7 p2
              · cases hts
      · have e : i = ds.length := by omega
        subst e
        rw [List.drop_length] at p2
        simp only [compL, Option.some.injEq, Prod.mk.injEq] at p2
        obtain ⟨rfl, rfl⟩ := p2
        refine .inl ⟨J1.stop H2 _ jh, p _ _ ?_⟩
        have hls : S1.length = S2.length := by
          have e1 := j2.lp
          rw [show c'.PV = pinB σ own from rfl, pinB_len] at e1
          rw [← j1.len, e1]
          exact j2.len
        have lst : ∀ {L : List (Nat × D)} {SB : S0} {R : List Pr}, LentOk σ L → SL c SB σ → Joint c.K H2 (slotL σ SB ++ (lentL σ L ++ R)) → SL c (restS L SB) σ ∧ Joint c.K H2 (slotL σ (restS L SB) ++ R) := lent_ok
        have sb : SL c (backS S1 S2 own) σ := by
          refine ⟨by rw [backS_len, ← hls]; exact j1.len, fun i d h hu => ?_, j1.pv, j1.lp⟩
          by_cases hi : i ∈ own
          · rw [backS_in hi (hls ▸ hk i hi)] at h
            rw [List.getD_eq_getElem?_getD, List.getElem?_eq_getElem (hk i hi)] at h
            exact j1.set i _ (List.getElem?_eq_getElem (hk i hi)) (by rw [Option.getD_some] at h; rw [Option.some.inj h]; exact hu)
          · rw [backS_out hi] at h
            obtain ⟨v, hv⟩ := j2.set i d h hu
            rw [wipe_out hi] at hv
            exact ⟨v, hv⟩
        have kb : Joint c.K H2 (slotL σ (backS S1 S2 own) ++ (lentL σ lent ++ ((.ref DA, .lst true acc) :: tm ++ c.rs))) := by
          refine back_joint hn (fun k m => hls ▸ hk k m) (by rw [← hls]; exact j1.len) ?_
          have k1 : Joint c.K H2 (hold ++ (slotL (wipe σ own) S2 ++ (sv ++ ((.ref DA, .lst true acc) :: tm ++ c.rs)))) := jh.perm (List.Perm.append_left _ (List.Perm.append_left _ (by
            show ((V.ref DA, D.lst true acc) :: ((sv ++ tm) ++ c.rs)).Perm (sv ++ ((V.ref DA, D.lst true acc) :: (tm ++ c.rs)))
            rw [List.append_assoc]
            exact perm_take.symm)))
          rw [hhold, List.append_assoc] at k1
          exact (k1.dropL).perm (perm_sw.trans (List.Perm.append_left _ perm_sw))
        obtain ⟨s1, k2⟩ := lst lok sb kb
        exact s1.sj k2
  · exact p.elim
theorem lockKGM_read {i : Nat} {g : GM} {fm fe : List (List Int × D) → EM} {Q : VK} (h : T c (compKGM own i g fm fe) σ H Q) : tLockE (fun σ H Q => ∃ l, TGH c i l own g (fm l) (fe l) σ H Q) σ H Q := by
  obtain ⟨S, tm, j, p⟩ := h
  unfold compKGM at p
  split at p
  · rename_i ks xs hd
    split at p
    · rename_i hpu
      cases hk : ksI ks with
      | none => rw [hk] at p; exact p.elim
      | some kss =>
      rw [hk] at p
      simp only at p
      generalize hfe : fe (kss.zip xs) = fe0 at p
      generalize hft : fm (kss.zip xs) = ft0 at p
      unfold compM at p
      by_cases hlen : kss.length = xs.length
      · have hfK : kyIG i S = some (.ok ((kss.zip xs).map kyG) [(i, .dtk true ks xs)], S.set i .un) := by
          unfold kyIG
          rw [hd]
          simp only [hk, Option.bind_some, if_pos hlen]
        rw [hfK] at p
        obtain rfl := ksI_map hk
        obtain ⟨v, ev, Z, k, put⟩ := j.get hd rfl
        obtain ⟨d, _, rfl, _⟩ := k.is_dtk
        obtain ⟨vs, h1, h2, h3, jx⟩ := k.openT
        have ek : keysG (kss.zip xs) = kss.map fun k => k.map Sum.inl := by
          unfold keysG
          rw [show (fun q : List Int × D => (q.1.map Sum.inl : List Key)) = (fun k => k.map Sum.inl) ∘ Prod.fst from rfl, ← List.map_map, List.map_fst_zip (Nat.le_of_eq hlen)]
        have ex : (kss.zip xs).map Prod.snd = xs := List.map_snd_zip (Nat.le_of_eq hlen.symm)
        have ez : (kss.map fun k => k.map Sum.inl).zip vs = kvsG (kss.zip xs) vs := by unfold kvsG; rw [ek]
        rw [ez] at h1
        refine ⟨d, .dT (kvsG (kss.zip xs) vs), h1, True.intro, fun od => ?_⟩
        have jl := jx.closeH (u := .frz od (.dT (kvsG (kss.zip xs) vs))) hld_frz
        have sj := put (.hld (.frz od (.dT (kvsG (kss.zip xs) vs)))) (vs.zip xs) _ jl
        have hil : i < S.length := (List.getElem?_eq_some_iff.mp hd).1
        refine ⟨kss.zip xs, _, tm, vs, od, List.getElem?_set_self hil, by rw [List.length_zip]; omega, by rw [ex]; exact sj, ?_⟩
        have hkk : (kvsG (kss.zip xs) vs).map Prod.fst = keysG (kss.zip xs) := kvsG_keys (by rw [List.length_zip]; omega)
        have e1 : kyHG i (kss.zip xs) (S.set i (.hld (.frz od (.dT (kvsG (kss.zip xs) vs))))) = some (.ok ((kss.zip xs).map kyG) [(i, .hld (.frz od (.dT (kvsG (kss.zip xs) vs))))], S.set i .un) := by
          unfold kyHG
          rw [List.getElem?_set_self hil]
          simp only [hkk, if_true, List.set_set]
        rw [hfe, hft, ex]
        unfold compM
        rw [e1]
        simp only at p ⊢
        split
        · rename_i hall
          rw [if_pos hall] at p
          split
          · rename_i acc S2 hcl
            rw [hcl] at p
            intro v' H' sj'
            have hl2 : i < (backS (S.set i .un) S2 own).length := by
              have := sj'.len
              have := j.len
              have e : (restS [(i, D.hld (.frz od (.dT (kvsG (kss.zip xs) vs))))] (backS (S.set i .un) S2 own)).length = (backS (S.set i .un) S2 own).length := by simp [restS]
              omega
            have hd' : (restS [(i, D.hld (.frz od (.dT (kvsG (kss.zip xs) vs))))] (backS (S.set i .un) S2 own))[i]? = some (.hld (.frz od (.dT (kvsG (kss.zip xs) vs)))) := by
              show ((backS (S.set i .un) S2 own).set i _)[i]? = _
              rw [List.getElem?_set_self hl2]
            obtain ⟨Z2, q1, q2, _⟩ := slot_get ev hd' sj'.len
            have jj := sj'.jt.perm (List.Perm.append_right _ q1)
            have j5 : Joint c.K H' ((.ref d, .hld (.frz od (.dT (kvsG (kss.zip xs) vs)))) :: (vs.zip xs ++ (Z2 ++ ((v', D.lst true acc) :: tm ++ c.rs)))) := jj.perm (by
              refine List.Perm.cons _ ?_
              show (Z2 ++ ((v', D.lst true acc) :: ((vs.zip xs ++ tm) ++ c.rs))).Perm _
              rw [List.append_assoc]
              have e6 : ((v', D.lst true acc) :: (vs.zip xs ++ (tm ++ c.rs))).Perm (vs.zip xs ++ ((v', D.lst true acc) :: (tm ++ c.rs))) := perm_take.symm
              exact (List.Perm.append_left _ e6).trans perm_sw)
            obtain ⟨o1, jx2⟩ := j5.openH
            refine ⟨o1, p v' _ ?_⟩
            have jc := jx2.closeT (ks' := kss.map fun k => k.map Sum.inl) h2 h3
            rw [ez] at jc
            have e3 : (restS [(i, D.hld (.frz od (.dT (kvsG (kss.zip xs) vs))))] (backS (S.set i .un) S2 own)).set i (.dtk true (kss.map fun k => k.map Sum.inl) xs) = restS [(i, .dtk true (kss.map fun k => k.map Sum.inl) xs)] (backS (S.set i .un) S2 own) := by
              show ((backS (S.set i .un) S2 own).set i _).set i _ = (backS (S.set i .un) S2 own).set i _
              rw [List.set_set]
            rw [← e3]
            refine ⟨by rw [List.length_set]; exact sj'.len, fun n w hn hu => ?_, sj'.pv, sj'.lp, ?_⟩
            · by_cases e : n = i
              · exact ⟨_, by rw [e]; exact ev⟩
              · rw [List.getElem?_set_ne (Ne.symm e)] at hn
                exact sj'.set n w hn hu
            · exact jc.perm (List.Perm.append_right _ (q2 _).symm)
          · rename_i hcl
            rw [hcl] at p
            exact p.elim
        · rename_i hall
          rw [if_neg hall] at p
          exact p.elim
      · have hfK : kyIG i S = none := by
          unfold kyIG
          rw [hd]
          simp only [hk, Option.bind_some, if_neg hlen]
        rw [hfK] at p
        exact p.elim
    · exact p.elim
  · exact p.elim
theorem w_setLcKG {i kD : Nat} {y : Str} {py spos : Pos} {elt e tg ifx : Expr} {scope : Scope} {ow : List (Str × Nat)} {pos : Pos} {g : GM} {fm fe : List (List Int × D) → EM} (hc : X.calm = true) (hN : X.N.Nodup) (hy : X.N[i]? = some y) (hyl : X.env.scope.names.lookup y = some .local) (hpi : c.PV[i]? = some none) (hsw : swapsWith (.ListComp elt [⟨tg, e, [ifx], 0⟩] scope pos) (some (.Name y py)) spos.line X.env = pure true) (hK : c.K = X.K) (hv : PE X e (tVar kD)) (hi0 : kD ∉ ow.map (·.2)) (ok : BlkOk X.N X.env.scope scope ow) (hn : (ow.map (·.2)).Nodup)
    (hg : ∀ PV, (∀ k ∈ ow.map (·.2), PV[k]? = some none) → ∀ (s : Shared) (H : Hp) (C : Addr) (cl : List (Str × Addr)) (fp : List Addr), PG (X.blk s H scope (compEnvC scope cl C X.env) fp) tg (UG (c.blk PV) g))
    (ht : ∀ PV, (∀ k ∈ ow.map (·.2), PV[k]? = some none) → ∀ (d : Addr) (o : Obj) (l : List (List Int × D)) (vs : List V), vs.length = l.length → PV[kD]? = some (some (some (.ref d))) → ∀ (s : Shared) (H : Hp) (C : Addr) (cl : List (Str × Addr)) (fp : List Addr), PT (X.blk s H scope (compEnvC scope cl C X.env) fp) ifx (tB (T ((c.blk PV).hlG d o l vs) (fm l))))
    (he : ∀ PV, (∀ k ∈ ow.map (·.2), PV[k]? = some none) → ∀ (d : Addr) (o : Obj) (l : List (List Int × D)) (vs : List V), vs.length = l.length → PV[kD]? = some (some (some (.ref d))) → ∀ (s : Shared) (H : Hp) (C : Addr) (cl : List (Str × Addr)) (fp : List Addr), PE (X.blk s H scope (compEnvC scope cl C X.env) fp) elt (T ((c.blk PV).hlG d o l vs) (fe l)))
    (hs : ∀ x, foldedSetIterable e X.env x = pure x := by intro _; rfl) :
    PS X (.Assign [.Name y py] (.ListComp elt [⟨tg, e, [ifx], 0⟩] scope pos) spos) (U c (asgM (compKGM (ow.map (·.2)) kD g fm fe) (gSetM i))) := by
  refine ps_mono (ps_lock (t := fun (E : Ends) σ H => ∃ l, TGH c kD l (ow.map Prod.snd) g (fm l) (fe l) σ H fun x H1 => gName i x σ H1 E.nx) ⟨fun pins s σ H E I h => ?_⟩) fun E σ H h => lockKGM_read (set_read hpi h)
  obtain ⟨l, h⟩ := h
  have hL := lcKG_read (Q := fun x H1 => gName i x σ H1 E.nx) hi0 hn (own_pv ok I.len) h
  refine (ps_setLc (i := i) hc hN hy hyl hsw (wi_kyHG hK hv) ok (hg _ (own_pv ok I.len)) (fun s H C cl fp => ?_) (fun s2 H2 C cl fp => ?_) hs).run pins s σ H E I hL
  · exact pts_one ⟨fun pins3 s3 σ3 H3 Q3 I3 h3 => by
      obtain ⟨d, o, vs, hp, hvl, h4⟩ := h3
      exact (ht _ (own_pv ok I.len) d o l vs hvl hp s H C cl fp).run pins3 s3 σ3 H3 Q3 I3 ⟨h4.choose, h4.choose_spec⟩⟩
  exact ⟨fun pins3 s3 σ3 H3 Q3 I3 h3 => by
    obtain ⟨d, o, vs, hp, hvl, h5⟩ := h3
    exact (he _ (own_pv ok I.len) d o l vs hvl hp s2 H2 C cl fp).run pins3 s3 σ3 H3 Q3 I3 h5⟩
def dinE (neg : Bool) (fk fd : EM) : EM := bindM fk fun x => bindM fd fun d => optM ((dGetD d x).map fun o => .bl (if neg = true then !o.isSome else o.isSome))
theorem t_dinE {neg : Bool} {fk fd : EM} {Q : VK} (h : T c (dinE neg fk fd) σ H Q) : T c fk σ H fun y H1 => T c fd σ H1 fun x H2 => ∃ p o, x = .ref p ∧ DGet H2 p y o ∧ Q (.bl (if neg = true then !o.isSome else o.isSome)) H2 := by
  obtain ⟨S, tm, j, p⟩ := h
  refine (post_bind j p).mono fun kv H1 ⟨k, S1, j1, p2⟩ => ?_
  refine (post_bind j1 p2).mono fun u H2 ⟨d, S2, j2, p3⟩ => ?_
  obtain ⟨z, hz, q⟩ := post_opt p3
  rw [Option.map_eq_some_iff] at hz
  obtain ⟨o, ho, rfl⟩ := hz
  have j3 : Joint c.K H2 ((kv, k) :: (u, d) :: (slotL σ S2 ++ (tm ++ c.rs))) := j2.jt.perm (by
    refine (perm_take (A := slotL σ S2)).trans ?_
    refine (List.Perm.cons _ perm_take).trans ?_
    exact List.Perm.swap _ _ _)
  obtain ⟨a, o', rfl, e2, e3⟩ := s_dget ho j3
  have e4 : o'.isSome = o.isSome := by
    cases o with
    | none => rw [e3]; rfl
    | some x => obtain ⟨_, u, rfl, _⟩ := e3; rfl
  refine ⟨a, o', rfl, e2, ?_⟩
  rw [e4]
  exact q _ _ (j2.drop.drop.put (j_bl H2 _ j2.drop.drop.jt))
theorem w_dinE {fk fd : EM} {a b : Expr} {pos : Pos} (hu : X.A.units + 1 < cLine) (ha : PE X a (T c fd)) (hb : PE X b (T c fk)) (hm : behindInMarks .In a = false := by rfl) : PE X (.Compare b [.In] [a] pos) (T c (dinE false fk fd)) := pe_mono (pe_cmp (pc_din hu hb ha) hm) fun σ H Q h => t_dinE h
theorem wt_dinE {fk fd : EM} {a b : Expr} {pos : Pos} (hu : X.A.units + 1 < cLine) (ha : PE X a (T c fd)) (hb : PE X b (T c fk)) (hm : behindInMarks .In a = false := by rfl) : PT X (.Compare b [.In] [a] pos) (Tt c (dinE false fk fd)) := pt_mono (L2.pt_cmp (pc_din hu hb ha) hm) fun σ H Q h => t_dinE h
theorem row_dup {K : PySem.W.Frag} {rows R : List Pr} {v : V} {e : D} (hm : (v, e) ∈ rows) (hf : e.frz = e) (j : Joint K H (rows ++ R)) : Joint K H ((v, e) :: (rows ++ R)) := by
  obtain ⟨A, B, rfl⟩ := List.append_of_mem hm
  have p1 : (A ++ (v, e) :: B ++ R).Perm ((v, e) :: (A ++ B ++ R)) := by
    simp only [List.append_assoc, List.cons_append]
    exact perm_take
  have j1 : Joint K H ([v].zip [e] ++ (A ++ B ++ R)) := j.perm p1
  have j2 := Joint.dup (vs := [v]) (ds := [e]) (by simp [D.frzs, hf]) j1
  have j3 : Joint K H ((v, e) :: (v, e) :: (A ++ B ++ R)) := j2
  exact j3.perm (List.Perm.cons _ p1.symm)
def lkG (l : List (List Int × D)) (ks : List Key) : Option D := (lk (keysG l) (l.map Prod.snd) ks).bind fun x => if x.pur = true then some x else none
def hgetG (l : List (List Int × D)) (fk : EM) : EM := bindM fk fun k => optM ((keyT k).bind fun ks => lkG l ks)
theorem w_hgetG {i : Nat} {a b : Expr} {pos : Pos} {fk : EM} (hvl : vs.length = l.length) (hu : X.A.units + 1 < cLine) (ha : PE X a (tVar i)) (hp : c.PV[i]? = some (some (some (.ref d)))) (hb : PE X b (T (c.hlG d o l vs) fk)) (hs : NoSl b := by exact fun _ _ => rfl) : PE X (.Subscript a b pos) (T (c.hlG d o l vs) (hgetG l fk)) :=
  pe_mono (pe_dget hu ha hb hs) fun σ H Q h => by
    obtain ⟨S, tm, j, p⟩ := h
    have ev : σ[i]? = some (some (.ref d)) := j.pv i _ hp
    refine ⟨.ref d, ev, (post_bind j p).mono fun kv H1 ⟨k, S1, j1, p2⟩ => ?_⟩
    obtain ⟨x, hx, q⟩ := post_opt p2
    rw [Option.bind_eq_some_iff] at hx
    obtain ⟨ks, hk, hx⟩ := hx
    unfold lkG at hx
    rw [Option.bind_eq_some_iff] at hx
    obtain ⟨x', hx, hpu⟩ := hx
    split at hpu
    case isFalse => cases hpu
    rename_i hpu'
    cases hpu
    obtain ⟨b0, rfl, hb0⟩ := Joint.keyT j1.take hk
    have jh : Joint c.K H1 ((.ref d, .hld (.frz o (.dT (kvsG l vs)))) :: (slotL σ S1 ++ (((.ref b0, k) :: tm) ++ (vs.zip (l.map Prod.snd) ++ c.rs)))) := j1.jt.perm (by
      refine (List.Perm.append_left _ perm_take).trans ?_
      exact perm_take)
    have hd := (Joint.openH jh).1
    obtain ⟨n, y, a1, a2, a3⟩ := lk_get hx (ys := vs) (by rw [List.length_map]; exact hvl.symm)
    have hv : valV (kvsG l vs) ks = some y := by unfold kvsG; rw [lk_valV]; exact a3
    have jr : Joint c.K H1 (vs.zip (l.map Prod.snd) ++ (slotL σ S1 ++ (tm ++ ((.ref d, .hld (.frz o (.dT (kvsG l vs)))) :: c.rs)))) := j1.drop.jt.perm (by
      show (slotL σ S1 ++ (tm ++ ((V.ref d, D.hld (.frz o (.dT (kvsG l vs)))) :: (vs.zip (l.map Prod.snd) ++ c.rs)))).Perm _
      refine (List.Perm.append_left _ (List.Perm.append_left _ perm_take.symm)).trans ?_
      refine (List.Perm.append_left _ perm_sw).trans ?_
      exact perm_sw)
    have j9 : Joint c.K H1 ((y, x) :: (slotL σ S1 ++ (tm ++ ((.ref d, .hld (.frz o (.dT (kvsG l vs)))) :: (vs.zip (l.map Prod.snd) ++ c.rs))))) := by
      have hmem : (y, x) ∈ vs.zip (l.map Prod.snd) := List.mem_of_getElem? (i := n) (by rw [List.getElem?_zip_eq_some]; exact ⟨a2, a1⟩)
      have j8 := row_dup hmem (D.pur_frz _ hpu') jr
      refine j8.perm (List.Perm.cons _ ?_)
      refine List.Perm.trans (l₂ := slotL σ S1 ++ (tm ++ ((.ref d, .hld (.frz o (.dT (kvsG l vs)))) :: c.rs)) ++ vs.zip (l.map Prod.snd)) ?_ ?_
      · exact List.perm_append_comm
      · simp only [List.append_assoc, List.cons_append]
        refine List.Perm.append_left _ (List.Perm.append_left _ (List.Perm.cons _ List.perm_append_comm))
    exact ⟨d, y, rfl, .inr ⟨_, ks, b0, .inr ⟨o, hd⟩, rfl, hb0, hv.symm⟩, q _ H1 (j1.drop.put j9)⟩
end
@[simp] theorem wE_compKGM {own : List Nat} {i : Nat} {g : GM} {fm fe : List (List Int × D) → EM} {S : S0} {Q : D → S0 → Prop} : wE (compKGM own i g fm fe) S Q ↔ rd ((S[i]?.bind asDT).bind fun p => if D.purs p.2 = true then (ksI p.1).map fun kss => kss.zip p.2 else none) fun l => wE (compM own (kyIG i) g (some (fm l)) (fe l)) S Q := by
  unfold wE rd
  show WF0.oE (compKGM own i g fm fe S) Q ↔ _
  unfold compKGM
  cases h : S[i]? with
  | none => simp [WF0.oE, WF0.rd]
  | some d =>
    cases d with
    | dtk o ks xs =>
      cases o with
      | false => simp [WF0.oE, WF0.rd, asDT]
      | true =>
        simp only [Option.bind_some, asDT_dtk]
        by_cases hp : D.purs xs = true
        · simp only [hp, if_true]
          cases hk : ksI ks with
          | none => simp [WF0.oE, WF0.rd]
          | some kss => simp [WF0.rd, WF0.wE]
        · simp [hp, WF0.oE, WF0.rd]
    | _ => simp [WF0.oE, WF0.rd, asDT]
@[simp] theorem wI_kyIG {i : Nat} {S : S0} {Q : List D → List (Nat × D) → S0 → Prop} : wI (kyIG i) S Q ↔ rd ((S[i]?.bind asDT).bind fun p => (ksI p.1).bind fun kss => if kss.length = p.2.length then some (kss.zip p.2, p) else none) fun r => Q (r.1.map kyG) [(i, .dtk true r.2.1 r.2.2)] (S.set i .un) := by
  unfold wI rd
  show WF0.oI (kyIG i S) Q ↔ _
  unfold kyIG
  cases h : S[i]? with
  | none => simp [WF0.oI, WF0.rd]
  | some d =>
    cases d with
    | dtk o ks xs =>
      cases o with
      | false => simp [WF0.oI, WF0.rd, asDT]
      | true =>
        simp only [Option.bind_some, asDT_dtk]
        cases hk : ksI ks with
        | none => simp [WF0.oI, WF0.rd]
        | some kss =>
          simp only [Option.bind_some]
          by_cases hl : kss.length = xs.length
          · simp [hl, WF0.oI, WF0.rd]
          · simp [hl, WF0.oI, WF0.rd]
    | _ => simp [WF0.oI, WF0.rd, asDT]
@[simp] theorem wE_dinE {neg : Bool} {fk fd : EM} {S : S0} {Q : D → S0 → Prop} : wE (dinE neg fk fd) S Q ↔ wE (bindM fk fun x => bindM fd fun d => optM ((dGetD d x).map fun o => .bl (if neg = true then !o.isSome else o.isSome))) S Q := Iff.rfl
@[simp] theorem wE_hgetG {l : List (List Int × D)} {fk : EM} {S : S0} {Q : D → S0 → Prop} : wE (hgetG l fk) S Q ↔ wE (bindM fk fun k => optM ((keyT k).bind fun ks => lkG l ks)) S Q := Iff.rfl
end WF
namespace WF
open PySem PySem.Spec PyProof.Rows L2
def pairsG : List D → Option (List (List Int × D))
  | [] => some []
  | .tup [.tup ks, v] :: r => if v.pur = true then match intsD ks, pairsG r with
    | some ns, some l => some ((ns, v) :: l)
    | _, _ => none
    else none
  | _ => none
def mgG (ks : List (List Key)) (ds : List D) : List (List Int × D) → List (List Key) × List D
  | [] => (ks, ds)
  | q :: r => mgG (pkK ks (keyI q.1)) (pkV ks ds (keyI q.1) q.2) r
def dictGD : List D → Option D
  | [.lst _ xs] => match pairsG xs with
    | some l => some (.dtk true (mgG [] [] l).1 (mgG [] [] l).2)
    | none => none
  | _ => none
def pgD (q : List Int × D) : D := .tup [.tup (q.1.map .int), q.2]
theorem pairsG_map : ∀ {xs : List D} {l : List (List Int × D)}, pairsG xs = some l → xs = l.map pgD ∧ ∀ q ∈ l, q.2.pur = true
  | [], l, h => by cases h; exact ⟨rfl, fun _ m => nomatch m⟩
  | .tup [.tup ks, v] :: r, l, h => by
    simp only [pairsG] at h
    split at h
    · rename_i hp
      split at h
      · rename_i ns l' h1 h2
        cases h
        obtain ⟨e1, e2⟩ := pairsG_map h2
        refine ⟨by rw [List.map_cons, ← e1]; unfold pgD; rw [intsD_map h1], fun q m => ?_⟩
        rcases List.mem_cons.mp m with rfl | m
        · exact hp
        · exact e2 q m
      · cases h
    · cases h
section
variable {K : PySem.W.Frag} {H : Hp} {R : List Pr} {p : Addr}
def trG (l : List (List Int × D)) (as : List Addr) (ws : List V) : List (List Key × Addr × V) := (l.zip (as.zip ws)).map fun q => (keyI q.1.1, q.2.1, q.2.2)
theorem pkV_purs {ks : List (List Key)} {ds : List D} {q : List Key} {d : D} (hi : D.purs ds = true) (hd : d.pur = true) : D.purs (pkV ks ds q d) = true := purs_of fun x hx => by
  unfold pkV at hx
  split at hx
  · rcases rp_mem1 hx with rfl | h
    · exact hd
    · exact purs_mem hi x h
  · rcases List.mem_append.mp hx with h | h
    · exact purs_mem hi x h
    · rw [List.mem_singleton.mp h]; exact hd
theorem merge_jG : ∀ (l : List (List Int × D)) (as : List Addr) (ws : List V) (acc : List (List Key × V)) (ks : List (List Key)) (ds : List D), as.length = l.length → ws.length = l.length → D.purs ds = true → (∀ q ∈ l, q.2.pur = true) → Joint K (L2.upd H p (.dT acc)) ((.ref p, .dtk true ks ds) :: (ws.zip (l.map Prod.snd) ++ R)) →
    Joint K (L2.upd H p (.dT (mergeT acc (trG l as ws)))) ((.ref p, .dtk true (mgG ks ds l).1 (mgG ks ds l).2) :: R)
  | [], [], [], acc, ks, ds, _, _, _, _, j => j
  | q :: l, a :: as, w :: ws, acc, ks, ds, h, h', hi, hq, j => by
    have j2 : Joint K (L2.upd H p (.dT acc)) ((.ref p, .dtk true ks ds) :: (w, q.2) :: (ws.zip (l.map Prod.snd) ++ R)) := j
    obtain ⟨vs, h1, h2, h3, j3⟩ := j2.putT (q := keyI q.1) (.inr hi) (.inr (hq q List.mem_cons_self))
    rw [upd_same] at h1
    have e : acc = ks.zip vs := HO.dT.inj (Option.some.inj h1)
    rw [← e, upd_upd] at j3
    exact merge_jG l as ws _ _ _ (by simpa using h) (by simpa using h') (pkV_purs hi (hq q List.mem_cons_self)) (fun q m => hq q (List.mem_cons_of_mem _ m)) j3
  | [], _ :: _, _, _, _, _, h, _, _, _, _ => by simp at h
  | [], [], _ :: _, _, _, _, _, h, _, _, _ => by simp at h
  | _ :: _, [], _, _, _, _, h, _, _, _, _ => by simp at h
  | _ :: _, _ :: _, [], _, _, _, _, h, _, _, _ => by simp at h
theorem pairs_rowsG : ∀ {l : List (List Int × D)} {us : List V} {R : List Pr}, us.length = l.length → Joint K H (us.zip (l.map pgD) ++ R) →
    ∃ (ps as : List Addr) (ws : List V), us = ps.map V.ref ∧ as.length = l.length ∧ ws.length = l.length ∧ Paired (PairT K H) ps (trG l as ws) ∧ Joint K H (ws.zip (l.map Prod.snd) ++ R)
  | [], us, R, h, j => ⟨[], [], [], List.length_eq_zero_iff.mp h, rfl, rfl, .nil, by
      have : us = [] := List.length_eq_zero_iff.mp h
      subst this
      exact j⟩
  | q :: l, u :: us, R, h, j => by
    have j1 : Joint K H ((u, .tup [.tup (q.1.map .int), q.2]) :: (us.zip (l.map pgD) ++ R)) := j
    obtain ⟨t, rfl⟩ := j1.is_tup
    obtain ⟨vs, h1, h2, j2⟩ := j1.untup
    match vs, h2 with
    | [x, y], _ =>
      have j3 : Joint K H ((x, .tup (q.1.map .int)) :: (y, q.2) :: (us.zip (l.map pgD) ++ R)) := j2
      obtain ⟨a, rfl⟩ := j3.is_tup
      obtain ⟨vs, h3, h4, j4⟩ := j3.untup
      have ev : vs = q.1.map V.int := ints_vals (by simpa using h4) j4
      have j5 : Joint K H (us.zip (l.map pgD) ++ ((y, q.2) :: R)) := (j4.dropL).perm perm_take.symm
      obtain ⟨ps, as, ws, e, ha, hw, hp, j6⟩ := pairs_rowsG (us := us) (R := (y, q.2) :: R) (by simpa using h) j5
      refine ⟨t :: ps, a :: as, y :: ws, by rw [e]; rfl, by simp [ha], by simp [hw], .cons ⟨.inl (.inl h1), ?_⟩ hp, ?_⟩
      · show H a = some (.tup ((keyI q.1).map kV))
        rw [h3, ev]
        unfold keyI
        rw [List.map_map]
        rfl
      · exact j6.perm perm_take
  | _ :: _, [], _, h, _ => by simp at h
theorem c_dictGT : CallS K (rDictT K) dictGD := by
  intro H R vs ds d Q hl e j q
  match ds, e with
  | [.lst o xs], e =>
    obtain ⟨v, rfl⟩ := one_of hl
    have j1 : Joint K H ((v, .lst o xs) :: R) := j
    obtain ⟨p, rfl⟩ := j1.is_lst
    simp only [dictGD] at e
    split at e
    · rename_i l hp
      cases e
      obtain ⟨rfl, hpu⟩ := pairsG_map hp
      obtain ⟨us, hu, hul, k⟩ := j1.unlst
      obtain ⟨ps, as, ws, eu, ha, hw, hpr, j6⟩ := pairs_rowsG (by simpa using hul) k
      refine ⟨p, ps, _, rfl, .inl (.inl (by rw [hu, eu])), hpr, fun z hz => q _ _ ?_⟩
      exact merge_jG l as ws [] [] [] ha hw rfl hpu (j6.newT hz)
    · cases e
end
@[simp] theorem dictGD_lst {o : Bool} {xs : List D} : dictGD [.lst o xs] = (pairsG xs).map fun l => .dtk true (mgG [] [] l).1 (mgG [] [] l).2 := by
  simp only [dictGD]
  cases pairsG xs <;> rfl
end WF
namespace WF
open PySem PySem.Spec PyProof.Rows L2 PySem.HandSPX
structure BaseX (B newId initId : String) (bmB : List Value) : Prop where
  F : ExcBaseFacts B newId initId bmB
  S : StoreFacts B bmB "object.__setattr__" "object"
  ty : typeOf (.type B) = pure (.type "type")
  stub : Manifest.isStub B = false
  hin : PySem.W.handedIn (.builtin initId) = true
  bt : bootBuiltins (Str.ofString B) = some (.type B)
structure OexB (K : PySem.W.Frag) (C : Addr) (newId : String) (bmB : List Value) : Prop where
  cls : ∃ nm q N bs sn sub ab col dd k0 k1 k2 k3 k5, K.lookup C = some (excClassObj nm q C N bs bmB true sn sub ab col dd k0 k1 k2 k3 k5 newId)
  sa : PySem.W.findIn K (.ref C) "__setattr__" = some (some (.builtin "object.__setattr__"))
  exC : PySem.W.subIn K (.ref C) (.type "BaseException") = some true
  tyC : PySem.W.typeIn K (.ref C) = some (.type "type")
  kC : PySem.W.keepIn K (.ref C) = true
section
open Builtin Builtin.ObjectAttr
variable {prog : Program} {w : World} {A : Around} {E : Value → Shared → Prop} {R : Result → Shared → Prop} {hp : Heap} {g : Array GenState} {d : Drawn} {t : Nat} {os : OsState}
end
section
variable {X : Cx} {pins : List (Addr × Obj)} {σ : L2.St} {H : Hp} {s : Shared} {a C dx : Addr} {f : Str} {y : V} {u : Value} {fs : List (Str × V)} {Q : Unit → Shared → Prop} {E : Value → Shared → Prop} {A : Around} {B newId initId : String} {bmB : List Value}
end
section
variable {X : Cx} {o e : Expr} {es : List Expr} {to te : TE} {ta : TA} {f x : Str} {p p' p1 p2 pos : Pos} {B newId initId : String} {bmB : List Value}
end
end WF
namespace WF
open PySem PySem.Spec PyProof.Rows L2 PySem.HandSPX
def spIni (K : PySem.W.Frag) (newId : String) (bmB : List Value) (f : Str) : Sp := fun vs H Q _ => ∃ (a C : Addr) (y : V), vs = [.ref a, y] ∧ OexB K C newId bmB ∧ PySem.W.findIn K (.ref C) f = some none ∧ H a = some (exo a C none) ∧
  ∀ dx, H dx = none → dx ≠ a → Q .non (L2.upd (L2.upd H dx (exd dx [(f, y)])) a (exo a C (some dx)))
section
variable {P : Program} {w : World} {K : PySem.W.Frag} {mg : Str → Option Value} {base : Heap}
end
section
variable {X : Cx} {x f : Str} {C fI : Addr} {fd : FuncData} {B newId initId : String} {bmB : List Value} {e : Expr} {ta : TA} {p pos : Pos}
end
structure XcF (P : Program) (w : World) (K : PySem.W.Frag) (mg : Str → Option Value) (base : Heap) (x f : Str) : Prop where
  ex : ∃ (B newId initId : String) (bmB : List Value) (fI : Addr) (fd : FuncData), BaseX B newId initId bmB ∧ OexB K (He.ga K x) newId bmB ∧ PySem.W.findIn K (.ref (He.ga K x)) f = some none ∧ PySem.W.findIn K (.ref (He.ga K x)) "__init__" = some (some (.ref fI)) ∧
    PySem.W.typeIn K (.ref fI) = some (.type "function") ∧ FnOk P w K mg base (L2.CX P w) 1 fI fd ["self", f] (spIni K newId bmB f) ∧ Binds K fd ["self", f] []
  g : mg x = some (.ref (He.ga K x))
section
variable {c : Cfg} {X : Cx} {x f : Str} {e : Expr} {fe : EM} {p pos pos' : Pos}
end
end WF
namespace WF
open PySem PySem.Spec PyProof.Rows L2
def ExTest (X : Cx) (t : Expr) (cls : Value) (b : Bool) : Prop := ∀ (a : Addr) (pn pins : List (Addr × Obj)) (σ : L2.St) (H : Hp) (s : Shared) (Q : Bool → Shared → Prop) (E : Value → Shared → Prop), Inv (X.suite a pn) pins σ H s → PySem.W.Looks (model X.prog X.w) s.heap (typeOf (.ref a)) cls →
  (∀ h', (∀ q o, s.heap.get? q = some o → h'.get? q = some o) → Q b { s with heap := h' }) → wpAny (model X.prog X.w) (X.A.mark (some (.ref a))) (eval t X.env) (fun c s1 => wpAny (model X.prog X.w) (X.A.mark (some (.ref a))) (excMatches (.ref a) c) Q E s1) E s
section
variable {X : Cx} {cls : Value} {b : Bool} {x1 x2 x3 x4 : Str} {c1 c2 c3 c4 : Value} {p1 p2 p3 p4 tp : Pos} {kk : Nat}
end
section
variable {X : Cx} {pins : List (Addr × Obj)} {σ : L2.St} {H : Hp} {sI s s' : Shared} {B : Heap}
end
abbrev ClP := (Value → Bool → Prop) × Nat × (Addr → Value → Option Addr → TS)
inductive HdP (X : Cx) : List ExceptHandler → List ClP → Prop
  | nil : HdP X [] []
  | cons {t : Expr} {n : Str} {i : Nat} {m : Value → Bool → Prop} {ts : Addr → Value → Option Addr → TS} {b₀ : Stmt} {suite : List Stmt} {pos' : Pos} {hds : List ExceptHandler} {l : List ClP} (hi : X.N[i]? = some n) (hln : X.env.kindOf n = some .local)
      (ht : ∀ cls b, m cls b → ExTest X t cls b) (hsu : ∀ (a : Addr) (cls : Value) (d : Option Addr) (pn : List (Addr × Obj)), PSs (X.suite a pn) (b₀ :: suite) (ts a cls d)) (r : HdP X hds l) :
      HdP X (.ExceptHandler (some t) (some n) (b₀ :: suite) pos' :: hds) ((m, i, ts) :: l)
section
variable {X : Cx} {body : List Stmt} {h₀ : ExceptHandler} {hds : List ExceptHandler} {l : List ClP} {pos : Pos} {tb : WX → TS} {Wout : WX}
end
end WF
namespace WF
open PySem PySem.Spec PyProof.Rows L2
section
variable {K : PySem.W.Frag} {G H : Hp} {L R fv : List Pr}
theorem reps_ownX {fp : List Addr} (r : Reps K G H L fp) : ∀ a ∈ fp, (∀ φ, H a ≠ some (HO.ext φ)) ∧ ∀ fs, H a ≠ some (HO.xd fs) := by
  have two : ∀ {a : Addr} {u : HO}, H a = some u → (∀ φ, u ≠ .ext φ) → (∀ fs, u ≠ .xd fs) → (∀ φ, H a ≠ some (HO.ext φ)) ∧ ∀ fs, H a ≠ some (HO.xd fs) := fun e h1 h2 =>
    ⟨fun φ q => by rw [e] at q; exact h1 φ (Option.some.inj q), fun fs q => by rw [e] at q; exact h2 fs (Option.some.inj q)⟩
  induction r with
  | nil => intro a m; cases m
  | un _ ih => exact ih
  | non _ ih => exact ih
  | bl _ ih => exact ih
  | int _ ih => exact ih
  | str _ ih => exact ih
  | vl _ ih => exact ih
  | hld q h _ ih => intro a m; rcases List.mem_cons.mp m with rfl | m; exact two h q.2.2.1 q.2.2.2; exact ih a m
  | con _ _ _ ih => exact ih
  | tab h _ ih =>
    intro a m
    rcases List.mem_cons.mp m with rfl | m
    · obtain ⟨ps, h, _⟩ := h; exact two h (fun _ z => by cases z) fun _ z => by cases z
    · exact ih a m
  | of _ _ _ _ _ _ _ ih1 ih2 => exact ih2
  | oo h h2 _ _ _ _ _ ih1 ih2 =>
    intro a m
    rcases List.mem_cons.mp m with rfl | m
    · exact two h (fun _ z => by cases z) fun _ z => by cases z
    rcases List.mem_cons.mp m with rfl | m
    · exact two h2 (fun _ z => by cases z) fun _ z => by cases z
    rcases List.mem_append.mp m with m | m
    · exact ih1 a m
    · exact ih2 a m
  | scr _ _ ih => exact ih
  | tup _ _ _ _ _ ih1 ih2 => intro a m; rcases List.mem_append.mp m with m | m; exact ih1 a m; exact ih2 a m
  | exn _ _ _ _ _ _ _ ih1 ih2 => exact ih2
  | lf _ _ _ _ _ ih1 ih2 => exact ih2
  | lo h _ _ _ _ ih1 ih2 => intro a m; rcases List.mem_cons.mp m with rfl | m; exact two h (fun _ z => by cases z) (fun _ z => by cases z); rcases List.mem_append.mp m with m | m; exact ih1 a m; exact ih2 a m
  | kf _ _ _ _ _ _ ih1 ih2 => exact ih2
  | ko h _ _ _ _ _ ih1 ih2 => intro a m; rcases List.mem_cons.mp m with rfl | m; exact two h (fun _ z => by cases z) (fun _ z => by cases z); rcases List.mem_append.mp m with m | m; exact ih1 a m; exact ih2 a m
  | tf _ _ _ _ _ _ ih1 ih2 => exact ih2
  | to h _ _ _ _ _ ih1 ih2 => intro a m; rcases List.mem_cons.mp m with rfl | m; exact two h (fun _ z => by cases z) (fun _ z => by cases z); rcases List.mem_append.mp m with m | m; exact ih1 a m; exact ih2 a m
theorem Joint.exn {a : Addr} {C : Str} {fs : List Str} {dd : Option Addr} (j : Joint K H (fv ++ R)) (hd : (dd = none ∧ fv = [] ∧ fs = []) ∨ ∃ dx, dd = some dx ∧ H dx = some (.xd (fs.zip (fv.map Prod.fst)))) (hl : fs.length = fv.length) (na : H a = none) :
    Joint K (L2.upd H a (exk a (.ref (He.ga K C)) dd)) ((.ref a, .exn C fs (D.frzs (fv.map Prod.snd))) :: R) := by
  obtain ⟨G, fp, g, r, n, z⟩ := j.new (o := exk a (.ref (He.ga K C)) dd) na
  obtain ⟨f1, f2, rfl, r1, r2⟩ := r.unappend
  obtain ⟨n1, n2, n3⟩ := List.nodup_append.mp n
  generalize hH : L2.upd H a (exk a (.ref (He.ga K C)) dd) = H1 at *
  have ha : H1 a = some (exk a (.ref (He.ga K C)) dd) := by rw [← hH, L2.upd_same]
  have hx : ∀ dx, dd = some dx → H1 dx = some (.xd (fs.zip (fv.map Prod.fst))) := fun dx e => by
    rcases hd with ⟨e', _⟩ | ⟨dx', e', h⟩
    · rw [e] at e'; cases e'
    · rw [e] at e'; cases e'
      rw [← hH, L2.upd_ne (L2.ne_of_none h na)]; exact h
  let G' : Hp := fun b => if b = a ∨ b ∈ f1 ∨ dd = some b then H1 b else G b
  have gg : GSub G G' := fun b o e => by
    show (if b = a ∨ b ∈ f1 ∨ dd = some b then H1 b else G b) = some o
    split
    · exact g b o e
    · exact e
  have gH : GSub G' H1 := fun b o e => by
    have e : (if b = a ∨ b ∈ f1 ∨ dd = some b then H1 b else G b) = some o := e
    split at e
    · exact e
    · exact g b o e
  have fr : Reps K G' H1 (fv.map fun x => (x.1, x.2.frz)) [] := r1.freeze gg fun b o m e => by
    show (if b = a ∨ b ∈ f1 ∨ dd = some b then H1 b else G b) = some o
    rw [if_pos (.inr (.inl m))]; exact e
  refine ⟨G', f2, gH, Reps.exn (dd := dd) (kvs := fs.zip (fv.map Prod.fst)) (C := fv.map fun x => (x.1, x.2.frz)) ?_ ?_ ?_ ?_ ?_ fr (r2.mono gg fun _ _ _ h => h), n2, fun b m => ?_⟩
  · show (if a = a ∨ a ∈ f1 ∨ dd = some a then H1 a else G a) = _
    rw [if_pos (.inl rfl)]; exact ha
  · rcases hd with ⟨e, e2, e3⟩ | ⟨dx, e, h⟩
    · exact .inl ⟨e, by rw [e2, e3]; rfl⟩
    · refine .inr ⟨dx, e, ?_⟩
      show (if dx = a ∨ dx ∈ f1 ∨ dd = some dx then H1 dx else G dx) = _
      rw [if_pos (.inr (.inr e))]
      exact hx dx e
  · rw [List.map_fst_zip (by simp [hl])]
  · rw [List.map_snd_zip (by simp [hl]), List.map_map]; rfl
  · rw [List.map_map, D.frzs_map, List.map_map]; rfl
  · have ow := reps_ownX r2 b m
    show (if b = a ∨ b ∈ f1 ∨ dd = some b then H1 b else G b) = none
    rw [if_neg]
    · exact z b (List.mem_append_right _ m)
    · rintro (rfl | q | q)
      · exact ow.1 _ ha
      · exact n3 b q b m rfl
      · exact ow.2 _ (hx b q)
end
abbrev ClM := List Str × Nat × SM
section
variable {c : Cfg} {X : Cx}
inductive HdD (X : Cx) (c : Cfg) (dom : List Str) : List ExceptHandler → List ClM → Prop
  | nil : HdD X c dom [] []
  | cons {t : Expr} {n : Str} {i : Nat} {cs : List Str} {f : SM} {b₀ : Stmt} {suite : List Stmt} {pos' : Pos} {hds : List ExceptHandler} {l : List ClM} (hi : X.N[i]? = some n) (hln : X.env.kindOf n = some .local) (hp : c.PV[i]? = some none)
      (ht : ∀ C ∈ dom, ExTest X t (.ref (He.ga X.K C)) (decide (C ∈ cs))) (hsu : ∀ (a : Addr) (pn : List (Addr × Obj)), PSs (X.suite a pn) (b₀ :: suite) (U { c with W := fun _ _ _ _ => False } f)) (r : HdD X c dom hds l) :
      HdD X c dom (.ExceptHandler (some t) (some n) (b₀ :: suite) pos' :: hds) ((cs, i, f) :: l)
end
end WF
namespace PySem.W
open PySem PySem.Spec PySem.Calls PyProof.Rows
section
variable {prog : Program} {w : World} {A : Around} {E : Value → Shared → Prop} {s : Shared} {K : Frag} {x D : Addr} {ox : Obj} {od : Option Obj}
end
end PySem.W
namespace WF
open PySem PySem.Spec PyProof.Rows L2
def XIs (K : PySem.W.Frag) (H : Hp) (v : V) (C : Addr) : Prop := ∃ a dd, v = .ref a ∧ H a = some (exk a (.ref C) dd) ∧ (dd = none ∨ ∃ dx kvs, dd = some dx ∧ H dx = some (.xd kvs)) ∧ ExcC K C
def rIxE (K : PySem.W.Frag) : List V → Hp → VK → Prop := fun xs H Q => ∃ (x c : V) (C : Addr) (u : Value) (b : Bool), xs = [x, c] ∧ ClsV c u ∧ XIs K H x C ∧ PySem.W.kitOne K (.ref C) u = some b ∧ Q (.bl b) H
def rIxT (K : PySem.W.Frag) : List V → Hp → VK → Prop := fun xs H Q => ∃ (x : V) (tp : Addr) (cs : List V) (C : Addr) (us : List Value) (b : Bool), xs = [x, .ref tp] ∧ H tp = some (.tup cs) ∧ Paired ClsV cs us ∧ XIs K H x C ∧ PySem.W.kitAny K (.ref C) us = some b ∧ Q (.bl b) H
section
variable {X : Cx}
def rIx (K : PySem.W.Frag) : List V → Hp → VK → Prop := fun xs H Q => (rIsi K xs H Q ∨ rIsiT K xs H Q) ∨ (rIxE K xs H Q ∨ rIxT K xs H Q)
end
end WF
namespace WF
open PySem PySem.Spec PyProof.Rows L2
inductive XC where
  | own (y : Str) | ty (n : String)
  deriving DecidableEq
def xBases : List (Str × List String) := [("Unreachable", ["ValueError"]), ("InvalidCommand", ["ValueError"]), ("InvalidWord", ["ValueError"]), ("InvalidLine", ["ValueError"]), ("InvalidState", ["ValueError"]),
  ("UnknownGroup", ["LookupError"]), ("NoSuchSize", ["LookupError"]), ("BadIndex", ["LookupError"]), ("NoSuchDepth", ["LookupError"]), ("IllegalMove", ["RuntimeError"]), ("NotEnough", ["RuntimeError"]), ("LastPeople", ["RuntimeError"]),
  ("TooLong", ["OverflowError", "ArithmeticError"]), ("TooMany", ["OverflowError", "ArithmeticError"]), ("TooManyGroups", ["OverflowError", "ArithmeticError"])]
def xsub (c : Str) : XC → Bool
  | .own y => decide (c = y)
  | .ty n => ((xBases.lookup c).getD []).contains n
def XC.v (K : PySem.W.Frag) : XC → V
  | .own y => .ref (He.ga K y)
  | .ty n => .ty n
def XC.u (K : PySem.W.Frag) : XC → Value
  | .own y => .ref (He.ga K y)
  | .ty n => .type n
structure XDom (K : PySem.W.Frag) (dom : List Str) (cs : List XC) (fl : List Str) : Prop where
  is : ∀ c ∈ dom, ∀ y ∈ cs, PySem.W.kitOne K (.ref (He.ga K c)) (y.u K) = some (xsub c y)
  no : ∀ y ∈ cs, PySem.W.kitOne K (.type "NoneType") (y.u K) = some false
  ex : ∀ c ∈ dom, ExcC K (He.ga K c)
  fld : ∀ c ∈ dom, ∀ f ∈ fl, PySem.W.findIn K (.ref (He.ga K c)) f = some none
section
variable {c : Cfg} {X : Cx} {dom : List Str} {cs cs0 : List XC} {fl : List Str} {y : XC} {e ce : Expr} {fe : EM} {p pos cpos : Pos} {k : Nat} {ces : List Expr}
end
end WF
namespace WF
open PySem PySem.Spec PyProof.Rows L2
structure XrF (K : PySem.W.Frag) (x f : Str) (newId : String) (bmB : List Value) : Prop where
  o : OexB K (He.ga K x) newId bmB
  nf : PySem.W.findIn K (.ref (He.ga K x)) f = some none
  ini : PySem.W.findIn K (.ref (He.ga K x)) "__init__" = some (some (.ref (He.ma K (He.ga K x) "__init__")))
  ty : PySem.W.typeIn K (.ref (He.ma K (He.ga K x) "__init__")) = some (.type "function")
structure XCat (K : PySem.W.Frag) (mg : Str → Option Value) (dom cm : List Str) : Prop where
  ex : ∀ c ∈ dom, ∀ y ∈ cm, PySem.W.exmOne K (.ref (He.ga K c)) (.ref (He.ga K y)) = some (decide (c = y))
section
variable {X : Cx} {dom cm : List Str} {x1 x2 x3 x4 : Str} {p1 p2 p3 p4 tp : Pos} {kk : Nat}
end
end WF
namespace WC
open WF PySem
noncomputable def b__law_right_v46 : SM := (seqM (forM (rng1M (retM (.int 3))) (gSetM 1)
    (seqM (asgM (callM m__law_random_well [.s 0, .v (retM (.int 4)), .v (retM (.int 2))]) (gSetM 2))
    (seqM (asgM (cbM dictGD [(compM [9] (seqI (callM m__law_all_stands [.v (varM 2)])) (gSetM 9) none (tupM [(varM 9), (frzM (callM m__law_distances [.v (varM 2), .v (varM 9)]))]))]) (gSetM 3))
    (seqM (asgM (callM m__law_random_state [.s 0, .v (varM 2)]) (gSetM 4))
    (forM (seqI (tupM [(callM m__law_random_state [.s 0, .v (varM 2)]), (binM ixD (callM m__law_random_jumps [.s 0, .v (varM 2), .v (varM 4), .v (retM (.int 2))]) (retM (.int 0))), (varM 4)])) (gSetM 5)
    (seqM (asgM (compKGM [9] 3 (gSetM 9) (fun L1 => (andM (dinE false (varM 4) (hgetG L1 (varM 9))) (dinE false (varM 5) (hgetG L1 (varM 9))))) fun L1 => (varM 9)) (gSetM 6))
    (seqM (asgM (callM m_meet [.v (varM 2), .v (varM 4), .v (varM 5)]) (gSetM 7))
    (seqM (asgM (lstM [(callM m_meet [.v (varM 2), .v (varM 5), .v (varM 4)])]) (gSetM 8))
    (seqM (exprS (appM 8 (callM (pickF [2, 1, 0] [2, 1, 0] [] m_meet) [.v (frzM (cbM listD [(varM 5)])), .v (frzM (cbM listD [(varM 4)])), .v (frzM (callM (m__law_as_lists 8) [.v (varM 2)]))])))
    (seqM (ifS (orM (notM (callM (m__law_same 8) [.s 8, .v (frzM (lstM [(varM 7), (varM 7)]))])) (roM (op2 (eqD true)) [.v (roM (op2 (isD false)) [.s 7, .v (retM .non)]), .v (roM (op2 (eqD false)) [.s 6, .v (lstM [])])])) (retS (retM (.bl false))) skipM)
    (seqM (ifS (roM (op2 (eqD true)) [.v (callM m_are_compatible [.v (varM 2), .v (varM 4), .v (varM 5)]), .v (roM (op2 (eqD true)) [.s 6, .v (lstM [])])]) (retS (retM (.bl false))) skipM)
    (seqM (ifS (andM (roM (op2 (isD true)) [.s 7, .v (retM .non)]) (notM (roM isiD [.s 7, .v (retM (.vl (.ty "tuple")))]))) (retS (retM (.bl false))) skipM)
    (seqM (ifS (andM (roM (op2 (isD true)) [.s 7, .v (retM .non)]) (roM (op2 (inD true)) [.s 7, .s 6])) (retS (retM (.bl false))) skipM)
    (ifS (andM (roM (op2 (isD true)) [.s 7, .v (retM .non)]) (notM (roM allD [.v (compM [9] (walkM comb1 [.s 6]) (gSetM 9) none (dinE false (varM 7) (dgetM 3 (varM 9))))]))) (retS (retM (.bl false))) skipM))))))))))))))
    (retS (retM (.bl true))))
noncomputable def m__law_right_v46 : Fn := defM [true] 10 b__law_right_v46
noncomputable def b_law_v52 : SM := (seqM (asgM (callM m__law_fold [.v (varM 0), .v (retM (.int 2))]) (gSetM 1))
    (retS (roM allD [.v (compM [2] (rng1M (roM maxD2 [.v (retM (.int 1)), .v (roM lenD [.s 1])])) (gSetM 2) none (callM m__law_right_v46 [.v (callM m__law_stream [.v (varM 1), .v (varM 2)])]))])))
noncomputable def m_law_v52 : Fn := defM [true] 3 b_law_v52
end WC
namespace Wk12
open WF WC PySem PySem.Spec PyProof.Rows L2
def top (i : Nat) : Stmt := PySem.Challenge.pw_wellfolk_k12_meets.main.body.getD i (.Pass ⟨0, 0, 0, 0⟩)
structure Tx (K : PySem.W.Frag) (mg : Str → Option Value) (fa : Nat → Addr) (fdd : Nat → FuncData) : Prop where
  F__law_fold : FnP K "_law_fold" (top 14) [] (fa 14) (fdd 14)
  g__law_fold : mg "_law_fold" = some (.ref (fa 14))
  F__law_draw : FnP K "_law_draw" (top 13) [] (fa 13) (fdd 13)
  g__law_draw : mg "_law_draw" = some (.ref (fa 13))
  F__law_pick : FnP K "_law_pick" (top 16) [] (fa 16) (fdd 16)
  g__law_pick : mg "_law_pick" = some (.ref (fa 16))
  F__law_random_well : FnP K "_law_random_well" (top 18) [] (fa 18) (fdd 18)
  g__law_random_well : mg "_law_random_well" = some (.ref (fa 18))
  F__law_random_state : FnP K "_law_random_state" (top 19) [] (fa 19) (fdd 19)
  g__law_random_state : mg "_law_random_state" = some (.ref (fa 19))
  F_segment_starts : FnP K "segment_starts" (top 1) [] (fa 1) (fdd 1)
  g_segment_starts : mg "segment_starts" = some (.ref (fa 1))
  F_state_from_counts : FnP K "state_from_counts" (top 6) [] (fa 6) (fdd 6)
  g_state_from_counts : mg "state_from_counts" = some (.ref (fa 6))
  F_suffix_counts : FnP K "suffix_counts" (top 5) [] (fa 5) (fdd 5)
  g_suffix_counts : mg "suffix_counts" = some (.ref (fa 5))
  F_segments : FnP K "segments" (top 2) [] (fa 2) (fdd 2)
  g_segments : mg "segments" = some (.ref (fa 2))
  F_is_grounded : FnP K "is_grounded" (top 3) [] (fa 3) (fdd 3)
  g_is_grounded : mg "is_grounded" = some (.ref (fa 3))
  F_conserved_starts : FnP K "conserved_starts" (top 4) [] (fa 4) (fdd 4)
  g_conserved_starts : mg "conserved_starts" = some (.ref (fa 4))
  F_are_compatible : FnP K "are_compatible" (top 8) [] (fa 8) (fdd 8)
  g_are_compatible : mg "are_compatible" = some (.ref (fa 8))
  F_combine : FnP K "combine" (top 9) [] (fa 9) (fdd 9)
  g_combine : mg "combine" = some (.ref (fa 9))
  F_meet : FnP K "meet" (top 10) [] (fa 10) (fdd 10)
  g_meet : mg "meet" = some (.ref (fa 10))
  F__law_weight : FnP K "_law_weight" (top 20) [] (fa 20) (fdd 20)
  g__law_weight : mg "_law_weight" = some (.ref (fa 20))
  F__law_all_moves : FnP K "_law_all_moves" (top 21) [] (fa 21) (fdd 21)
  g__law_all_moves : mg "_law_all_moves" = some (.ref (fa 21))
  F__law_legal_moves : FnP K "_law_legal_moves" (top 22) [] (fa 22) (fdd 22)
  g__law_legal_moves : mg "_law_legal_moves" = some (.ref (fa 22))
  F__law_applied : FnP K "_law_applied" (top 23) [] (fa 23) (fdd 23)
  g__law_applied : mg "_law_applied" = some (.ref (fa 23))
  F__law_random_jumps : FnP K "_law_random_jumps" (top 24) [] (fa 24) (fdd 24)
  g__law_random_jumps : mg "_law_random_jumps" = some (.ref (fa 24))
  F__law_distances : FnP K "_law_distances" (top 25) [] (fa 25) (fdd 25)
  g__law_distances : mg "_law_distances" = some (.ref (fa 25))
  F__law_all_stands : FnP K "_law_all_stands" (top 26) [] (fa 26) (fdd 26)
  g__law_all_stands : mg "_law_all_stands" = some (.ref (fa 26))
  F__law_same : FnP K "_law_same" (top 15) [] (fa 15) (fdd 15)
  g__law_same : mg "_law_same" = some (.ref (fa 15))
  F__law_as_lists : FnP K "_law_as_lists" (top 17) [] (fa 17) (fdd 17)
  g__law_as_lists : mg "_law_as_lists" = some (.ref (fa 17))
  F__law_right : FnP K "_law_right" (top 27) [] (fa 27) (fdd 27)
  g__law_right : mg "_law_right" = some (.ref (fa 27))
  F__law_stream : FnP K "_law_stream" (top 12) [] (fa 12) (fdd 12)
  g__law_stream : mg "_law_stream" = some (.ref (fa 12))
  F_law : FnP K "law" (top 28) [] (fa 28) (fdd 28)
  g_law : mg "law" = some (.ref (fa 28))
  n_abs : mg "abs" = none
  n_all : mg "all" = none
  n_bool : mg "bool" = none
  n_dict : mg "dict" = none
  n_divmod : mg "divmod" = none
  n_enumerate : mg "enumerate" = none
  n_int : mg "int" = none
  n_isinstance : mg "isinstance" = none
  n_len : mg "len" = none
  n_list : mg "list" = none
  n_max : mg "max" = none
  n_min : mg "min" = none
  n_range : mg "range" = none
  n_str : mg "str" = none
  n_sum : mg "sum" = none
  n_tuple : mg "tuple" = none
  n_zip : mg "zip" = none
variable {P : Program} {w : World} {K : PySem.W.Frag} {mg : Str → Option Value} {base : Heap} {fa : Nat → Addr} {fdd : Nat → FuncData}
theorem sc__law_fold : FnScope ["_law_script", "_law_span", "_law_cells", "_law_k", "_law_cell"] ["_law_script", "_law_span"] (defScope (top 14)) := ⟨rfl, rfl, rfl, by decide +kernel, rfl, by decide +kernel, by decide +kernel⟩
theorem bd__law_fold (T : Tx K mg fa fdd) : Binds K (fdd 14) ["_law_script", "_law_span"] [] := T.F__law_fold.bindsN fun _ _ _ _ _ _ us hl => match us, hl with | [_, _], _ => rfl
theorem ok__law_fold (T : Tx K mg fa fdd) : FnOk P w K mg base (L2.CX P w) 1 (fa 14) (fdd 14) ["_law_script", "_law_span"] (spOf K 2 m__law_fold) :=
  def_okD (N := ["_law_script", "_law_span", "_law_cells", "_law_k", "_law_cell"]) (mask := [true, true]) (fb := b__law_fold) T.F__law_fold sc__law_fold rfl (by decide) fun cdv A outer s H vs rs E hr hl => match vs, hl with
    | [v0, v1], _ => (ws_cons (w_set (i := 2) (w_callTy call_list_of c_list rfl T.n_list bt_list (wa_cons (w_slice rfl (w_var (pv 0)) wo_none (wo_some (w_var (pv 1)))) wa_nil)) sc__law_fold.nd rfl (by first | exact .inl rfl | exact .inr rfl) rfl)
    (ws_cons (w_for (passes_of rfl) rfl (wi_enum rfl rfl T.n_enumerate (wA_v (w_slice rfl (w_var (pv 0)) (wo_some (w_var (pv 1))) (wo_some w_int)) wA_nil)) (wg_tup rfl rfl (wgs_cons (wg_name (i := 3) sc__law_fold.nd rfl (by first | exact .inl rfl | exact .inr rfl) rfl) (wgs_cons (wg_name (i := 4) sc__law_fold.nd rfl (by first | exact .inl rfl | exact .inr rfl) rfl) wgs_nil)))
    (ws_one (w_asg (w_bin op_addA s_add (w_ixS rfl (pv 2) (w_bin op_mod s_mod (w_var (pv 3)) (w_var (pv 1)))) (w_bin op_mulB s_mulB (w_var (pv 4)) (w_bin op_addA s_add (w_var (pv 3)) w_int))) (wg_sub (pg_sub (pv 2) (w_bin op_mod s_mod (w_var (pv 3)) (w_var (pv 1))) set_list)))))
    (ws_one (w_ret (w_take (pv 2))))))
theorem sc__law_draw : FnScope ["_law_rng", "_law_span", "_law_found", "_law_stir", "_law_once", "_law_twice"] ["_law_rng", "_law_span"] (defScope (top 13)) := ⟨rfl, rfl, rfl, by decide +kernel, rfl, by decide +kernel, by decide +kernel⟩
theorem bd__law_draw (T : Tx K mg fa fdd) : Binds K (fdd 13) ["_law_rng", "_law_span"] [] := T.F__law_draw.bindsN fun _ _ _ _ _ _ us hl => match us, hl with | [_, _], _ => rfl
theorem ok__law_draw_n (T : Tx K mg fa fdd) : ∀ n, FnOk P w K mg base (L2.CX P w) (0 + n) (fa 13) (fdd 13) ["_law_rng", "_law_span"] (spOf K 2 (m__law_draw n))
  | 0 => fn_none
  | n + 1 => def_okD (N := ["_law_rng", "_law_span", "_law_found", "_law_stir", "_law_once", "_law_twice"]) (mask := [true, true]) (fb := b__law_draw (m__law_draw n)) T.F__law_draw sc__law_draw rfl (by decide) fun cdv A outer s H vs rs E hr hl => match vs, hl with
    | [v0, v1], _ => (ws_cons (w_if (wt_cmpR op_gt s_gt (wr_v (w_ixS rfl (pv 0) w_int)) (wr_v w_int)) (ws_cons (w_asg (w_callB call_divmodW c_divmod rfl T.n_divmod bb_divmod (wa_cons (w_ixS rfl (pv 0) w_int) (wa_cons (w_var (pv 1)) wa_nil))) (wg_tup rfl rfl (wgs_cons (wg_sub (pg_sub (pv 0) w_int set_list)) (wgs_cons (wg_name (i := 2) sc__law_draw.nd rfl (by first | exact .inl rfl | exact .inr rfl) rfl) wgs_nil))))
    (ws_one (w_ret (w_take (pv 2))))) ws_nil)
    (ws_cons (w_if (wt_cmpR op_gt s_gt (wr_s (pv 1)) (wr_v (w_bin op_pow s_pow w_int w_int))) (ws_one (w_ret (w_bin op_mod s_mod (w_bin op_addA s_add (w_call (ok__law_draw_n T n) hr rfl T.g__law_draw T.F__law_draw.kp (bd__law_draw T) (takes_of rfl rfl rfl rfl) (wA_s (pv 0) (wA_v (w_frz (w_bin op_pow s_pow w_int w_int)) wA_nil))) (w_bin op_mulB s_mulB (w_bin op_pow s_pow w_int w_int) (w_call (ok__law_draw_n T n) hr rfl T.g__law_draw T.F__law_draw.kp (bd__law_draw T) (takes_of rfl rfl rfl rfl) (wA_s (pv 0) (wA_v (w_frz (w_bin op_addA s_add (w_bin op_fdivW s_fdiv (w_bin op_sub s_sub (w_var (pv 1)) w_int) (w_bin op_pow s_pow w_int w_int)) w_int)) wA_nil))))) (w_var (pv 1))))) ws_nil)
    (ws_cons (w_asg (w_bin op_addA s_add (w_ixS rfl (pv 0) w_int) w_int) (wg_sub (pg_sub (pv 0) w_int set_list)))
    (ws_cons (w_set (i := 3) (w_bin op_addA s_add w_int (w_bin op_mulB s_mulB (w_ixS rfl (pv 0) w_int) (w_ixS rfl (pv 0) w_int))) sc__law_draw.nd rfl (by first | exact .inl rfl | exact .inr rfl) rfl)
    (ws_cons (w_set (i := 4) (w_bin op_mod s_mod (w_bin op_mulB s_mulB (w_bin op_addA s_add (w_ixS rfl (pv 0) w_int) (w_bin op_mulB s_mulB w_int (w_ixS rfl (pv 0) w_int))) (w_var (pv 3))) w_int) sc__law_draw.nd rfl (by first | exact .inl rfl | exact .inr rfl) rfl)
    (ws_cons (w_set (i := 5) (w_bin op_mod s_mod (w_bin op_addA s_add (w_bin op_mulB s_mulB (w_var (pv 4)) (w_bin op_addA s_add (w_bin op_mod s_mod (w_var (pv 4)) w_int) w_int)) (w_ixS rfl (pv 0) w_int)) w_int) sc__law_draw.nd rfl (by first | exact .inl rfl | exact .inr rfl) rfl)
    (ws_one (w_ret (w_bin op_mod s_mod (w_bin op_fdivW s_fdiv (w_bin op_mod s_mod (w_bin op_mulB s_mulB (w_var (pv 5)) (w_bin op_addA s_add (w_bin op_mod s_mod (w_var (pv 5)) w_int) w_int)) w_int) w_int) (w_var (pv 1)))))))))))
theorem ok__law_draw (T : Tx K mg fa fdd) : FnOk P w K mg base (L2.CX P w) 12 (fa 13) (fdd 13) ["_law_rng", "_law_span"] (spOf K 2 (m__law_draw 12)) := ok__law_draw_n T 12
theorem sc__law_pick : FnScope ["_law_rng", "_law_some"] ["_law_rng", "_law_some"] (defScope (top 16)) := ⟨rfl, rfl, rfl, by decide +kernel, rfl, by decide +kernel, by decide +kernel⟩
theorem bd__law_pick (T : Tx K mg fa fdd) : Binds K (fdd 16) ["_law_rng", "_law_some"] [] := T.F__law_pick.bindsN fun _ _ _ _ _ _ us hl => match us, hl with | [_, _], _ => rfl
theorem ok__law_pick (T : Tx K mg fa fdd) : FnOk P w K mg base (L2.CX P w) 13 (fa 16) (fdd 16) ["_law_rng", "_law_some"] (spOf K 2 m__law_pick) :=
  def_okD (N := ["_law_rng", "_law_some"]) (mask := [true, true]) (fb := b__law_pick) T.F__law_pick sc__law_pick rfl (by decide) fun cdv A outer s H vs rs E hr hl => match vs, hl with
    | [v0, v1], _ => (ws_one (w_ret (w_ixS rfl (pv 1) (w_call (ok__law_draw T) (hr.mono (by decide)) rfl T.g__law_draw T.F__law_draw.kp (bd__law_draw T) (takes_of rfl rfl rfl rfl) (wA_s (pv 0) (wA_v (w_frz (w_roB call_len_seq c_len rfl T.n_len bb_len (wA_s (pv 1) wA_nil))) wA_nil))))))
theorem sc__law_random_well : FnScope ["_law_rng", "_law_length", "_law_crowd", "_law_gap_top", "_law_lots", "_law_heavy", "_law_k", "_law_gaps", "_law_tops", "_law_pair", "_law_ahead"] ["_law_rng", "_law_length", "_law_crowd"] (defScope (top 18)) := ⟨rfl, rfl, rfl, by decide +kernel, rfl, by decide +kernel, by decide +kernel⟩
theorem bd__law_random_well (T : Tx K mg fa fdd) : Binds K (fdd 18) ["_law_rng", "_law_length", "_law_crowd"] [] := T.F__law_random_well.bindsN fun _ _ _ _ _ _ us hl => match us, hl with | [_, _, _], _ => rfl
theorem ok__law_random_well (T : Tx K mg fa fdd) : FnOk P w K mg base (L2.CX P w) 14 (fa 18) (fdd 18) ["_law_rng", "_law_length", "_law_crowd"] (spOf K 3 m__law_random_well) :=
  def_okD (N := ["_law_rng", "_law_length", "_law_crowd", "_law_gap_top", "_law_lots", "_law_heavy", "_law_k", "_law_gaps", "_law_tops", "_law_pair", "_law_ahead"]) (mask := [true, true, true]) (fb := b__law_random_well) T.F__law_random_well sc__law_random_well rfl (by decide) fun cdv A outer s H vs rs E hr hl => match vs, hl with
    | [v0, v1, v2], _ => (ws_cons (w_par3 (i := 3) (j := 4) (l := 5) rfl sc__law_random_well.nd rfl rfl rfl (by decide) (by decide) (by decide) rfl rfl rfl rfl rfl rfl (wa_cons (w_call (ok__law_pick T) (hr.mono (by decide)) rfl T.g__law_pick T.F__law_pick.kp (bd__law_pick T) (takes_of rfl rfl rfl rfl) (wA_s (pv 0) (wA_v (w_frz (w_lst (wa_cons w_int (wa_cons w_int (wa_cons w_int (wa_cons (w_bin op_pow s_pow w_int w_int) wa_nil)))))) wA_nil))) (wa_cons (w_lst wa_nil) (wa_cons w_int wa_nil))) rfl)
    (ws_cons (w_for (passes_of rfl) rfl (wi_rng1 rfl T.n_range (w_bin op_addA s_add w_int (w_call (ok__law_draw T) (hr.mono (by decide)) rfl T.g__law_draw T.F__law_draw.kp (bd__law_draw T) (takes_of rfl rfl rfl rfl) (wA_s (pv 0) (wA_v (w_var (pv 1)) wA_nil))))) (wg_name (i := 6) sc__law_random_well.nd rfl (by first | exact .inl rfl | exact .inr rfl) rfl)
    (ws_cons (w_set (i := 5) (w_bin op_addA s_add (w_bin op_addA s_add (w_var (pv 5)) w_int) (w_call (ok__law_draw T) (hr.mono (by decide)) rfl T.g__law_draw T.F__law_draw.kp (bd__law_draw T) (takes_of rfl rfl rfl rfl) (wA_s (pv 0) (wA_v (w_var (pv 3)) wA_nil)))) sc__law_random_well.nd rfl (by first | exact .inl rfl | exact .inr rfl) rfl)
    (ws_one (w_expr (w_app (pe_bm PySem.F.plainAttrs_list PySem.F.slot_list_append PySem.F.type_list_append mt_append (pv 4) (pa_cons (w_tup (wa_cons (w_var (pv 5)) (wa_cons (w_call (ok__law_pick T) (hr.mono (by decide)) rfl T.g__law_pick T.F__law_pick.kp (bd__law_pick T) (takes_of rfl rfl rfl rfl) (wA_s (pv 0) (wA_v (w_frz (w_lst (wa_cons w_int (wa_cons w_int (wa_cons (w_bin op_addA s_add w_int (w_call (ok__law_draw T) (hr.mono (by decide)) rfl T.g__law_draw T.F__law_draw.kp (bd__law_draw T) (takes_of rfl rfl rfl rfl) (wA_s (pv 0) (wA_v (w_var (pv 2)) wA_nil)))) wa_nil))))) wA_nil))) wa_nil))) pa_nil)))))))
    (ws_cons (w_setLc rfl sc__law_random_well.nd (i := 7) rfl rfl rfl (sw_true rfl rfl rfl rfl) (wi_zip2 rfl rfl T.n_zip (wA_s (pv 4) (wA_v (w_bin op_addA s_add (w_lst (wa_cons w_int wa_nil)) (w_lc rfl sc__law_random_well.nd (wi_seqS rfl (pv 4)) (ow := [("_law_pair", 9)]) (blkOk_by (by rfl)) (by decide) (fun PV1 hP1 s1 H1 C1 cl1 fp1 => (wg_name (i := 9) sc__law_random_well.nd rfl (by first | exact .inl rfl | exact .inr rfl) (hP1 9 (by decide)))) (fun PV1 hP1 s1 H1 C1 cl1 fp1 => pts_nil) (fun PV1 hP1 s1 H1 C1 cl1 fp1 => (w_ixS rfl (pv 9) w_int)))) wA_nil))) (ow := [("_law_pair", 9), ("_law_ahead", 10)]) (blkOk_by (by rfl)) (by decide) (fun PV1 hP1 s1 H1 C1 cl1 fp1 => (wg_tup rfl rfl (wgs_cons (wg_name (i := 9) sc__law_random_well.nd rfl (by first | exact .inl rfl | exact .inr rfl) (hP1 9 (by decide))) (wgs_cons (wg_name (i := 10) sc__law_random_well.nd rfl (by first | exact .inl rfl | exact .inr rfl) (hP1 10 (by decide))) wgs_nil)))) (fun PV1 hP1 s1 H1 C1 cl1 fp1 => pts_nil) (fun PV1 hP1 s1 H1 C1 cl1 fp1 => (w_bin op_sub s_sub (w_ixS rfl (pv 9) w_int) (w_var (pv 10)))))
    (ws_cons (w_set (i := 8) (w_lst (wa_cons (w_roB (cr_max rfl) c_max1 rfl T.n_max bb_max (wA_s (pv 7) wA_nil)) (wa_cons (w_roB (cr_max rfl) c_max1 rfl T.n_max bb_max (wA_s (pv 7) wA_nil)) (wa_cons (w_call (ok__law_pick T) (hr.mono (by decide)) rfl T.g__law_pick T.F__law_pick.kp (bd__law_pick T) (takes_of rfl rfl rfl rfl) (wA_s (pv 0) (wA_v (w_var (pv 7)) wA_nil))) (wa_cons (w_bin op_addA s_add w_int (w_call (ok__law_draw T) (hr.mono (by decide)) rfl T.g__law_draw T.F__law_draw.kp (bd__law_draw T) (takes_of rfl rfl rfl rfl) (wA_s (pv 0) (wA_v (w_var (pv 5)) wA_nil)))) (wa_cons (w_bin op_mulB s_mulB w_int (w_roB (cr_max rfl) c_max1 rfl T.n_max bb_max (wA_s (pv 7) wA_nil))) (wa_cons (w_var (pv 5)) wa_nil))))))) sc__law_random_well.nd rfl (by first | exact .inl rfl | exact .inr rfl) rfl)
    (ws_one (w_ret (w_tup (wa_cons (w_call (ok__law_pick T) (hr.mono (by decide)) rfl T.g__law_pick T.F__law_pick.kp (bd__law_pick T) (takes_of rfl rfl rfl rfl) (wA_s (pv 0) (wA_v (w_var (pv 8)) wA_nil))) (wa_cons (w_callTy call_tuple_of c_tuple rfl T.n_tuple bt_tuple (wa_cons (w_var (pv 4)) wa_nil)) wa_nil)))))))))
theorem sc__law_random_state : FnScope ["_law_rng", "_law_shaft", "_law_heavy", "_law_full"] ["_law_rng", "_law_shaft"] (defScope (top 19)) := ⟨rfl, rfl, rfl, by decide +kernel, rfl, by decide +kernel, by decide +kernel⟩
theorem bd__law_random_state (T : Tx K mg fa fdd) : Binds K (fdd 19) ["_law_rng", "_law_shaft"] [] := T.F__law_random_state.bindsN fun _ _ _ _ _ _ us hl => match us, hl with | [_, _], _ => rfl
theorem ok__law_random_state (T : Tx K mg fa fdd) : FnOk P w K mg base (L2.CX P w) 14 (fa 19) (fdd 19) ["_law_rng", "_law_shaft"] (spOf K 2 m__law_random_state) :=
  def_okD (N := ["_law_rng", "_law_shaft", "_law_heavy", "_law_full"]) (mask := [true, true]) (fb := b__law_random_state) T.F__law_random_state sc__law_random_state rfl (by decide) fun cdv A outer s H vs rs E hr hl => match vs, hl with
    | [v0, v1], _ => (ws_one (w_ret (w_callTy call_tuple_of c_tuple rfl T.n_tuple bt_tuple (wa_cons (w_lc rfl sc__law_random_state.nd (wi_seq rfl (w_ixS rfl (pv 1) w_int)) (ow := [("_law_heavy", 2), ("_law_full", 3)]) (blkOk_by (by rfl)) (by decide) (fun PV1 hP1 s1 H1 C1 cl1 fp1 => (wg_tup rfl rfl (wgs_cons (wg_name (i := 2) sc__law_random_state.nd rfl (by first | exact .inl rfl | exact .inr rfl) (hP1 2 (by decide))) (wgs_cons (wg_name (i := 3) sc__law_random_state.nd rfl (by first | exact .inl rfl | exact .inr rfl) (hP1 3 (by decide))) wgs_nil)))) (fun PV1 hP1 s1 H1 C1 cl1 fp1 => pts_nil) (fun PV1 hP1 s1 H1 C1 cl1 fp1 => (w_call (ok__law_pick T) (hr.mono (by decide)) rfl T.g__law_pick T.F__law_pick.kp (bd__law_pick T) takes0 (wA_s (pv 0) (wA_v (w_frz (w_lst (wa_cons w_int (wa_cons (w_var (pv 3)) (wa_cons (w_call (ok__law_draw T) (hr.mono (by decide)) rfl T.g__law_draw T.F__law_draw.kp (bd__law_draw T) takes0 (wA_s (pv 0) (wA_v (w_frz (w_bin op_addA s_add (w_var (pv 3)) w_int)) wA_nil))) wa_nil))))) wA_nil))))) wa_nil))))
theorem sc_segment_starts : FnScope ["well", "starts", "group", "weight", "size", "continues"] ["well"] (defScope (top 1)) := ⟨rfl, rfl, rfl, by decide +kernel, rfl, by decide +kernel, by decide +kernel⟩
theorem bd_segment_starts (T : Tx K mg fa fdd) : Binds K (fdd 1) ["well"] [] := T.F_segment_starts.bindsN fun _ _ _ _ _ _ us hl => match us, hl with | [_], _ => rfl
theorem ok_segment_starts (T : Tx K mg fa fdd) : FnOk P w K mg base (L2.CX P w) 1 (fa 1) (fdd 1) ["well"] (spOf K 1 m_segment_starts) :=
  def_okD (N := ["well", "starts", "group", "weight", "size", "continues"]) (mask := [true]) (fb := b_segment_starts) T.F_segment_starts sc_segment_starts rfl (by decide) fun cdv A outer s H vs rs E hr hl => match vs, hl with
    | [v0], _ => (ws_cons (w_set (i := 1) (w_lst wa_nil) sc_segment_starts.nd rfl (by first | exact .inl rfl | exact .inr rfl) rfl)
    (ws_cons (w_for (passes_of rfl) rfl (wi_enum rfl rfl T.n_enumerate (wA_v (w_ixS rfl (pv 0) w_int) wA_nil)) (wg_tup rfl rfl (wgs_cons (wg_name (i := 2) sc_segment_starts.nd rfl (by first | exact .inl rfl | exact .inr rfl) rfl) (wgs_cons (wg_tup rfl rfl (wgs_cons (wg_name (i := 3) sc_segment_starts.nd rfl (by first | exact .inl rfl | exact .inr rfl) rfl) (wgs_cons (wg_name (i := 4) sc_segment_starts.nd rfl (by first | exact .inl rfl | exact .inr rfl) rfl) wgs_nil))) wgs_nil)))
    (ws_cons (w_set (i := 5) (w_and (w_cmpR op_gt s_gt (wr_s (pv 2)) (wr_v w_int)) (w_one (w_cmpR op_le s_le (wr_v (w_bin op_sub s_sub (w_var (pv 3)) (w_ix rfl (w_ix rfl (w_ixS rfl (pv 0) w_int) (w_bin op_sub s_sub (w_var (pv 2)) w_int)) w_int))) (wr_v (w_ixS rfl (pv 0) w_int))))) sc_segment_starts.nd rfl (by first | exact .inl rfl | exact .inr rfl) rfl)
    (ws_one (w_expr (w_app (pe_bm PySem.F.plainAttrs_list PySem.F.slot_list_append PySem.F.type_list_append mt_append (pv 1) (pa_cons (w_ifE (wt_val (w_var (pv 5))) (w_ixS rfl (pv 1) (w_un un_neg s_neg w_int)) (w_var (pv 2))) pa_nil)))))))
    (ws_one (w_ret (w_take (pv 1))))))
theorem sc_state_from_counts : FnScope ["well", "counts", "starts", "found", "group", "start", "is_last"] ["well", "counts"] (defScope (top 6)) := ⟨rfl, rfl, rfl, by decide +kernel, rfl, by decide +kernel, by decide +kernel⟩
theorem bd_state_from_counts (T : Tx K mg fa fdd) : Binds K (fdd 6) ["well", "counts"] [] := T.F_state_from_counts.bindsN fun _ _ _ _ _ _ us hl => match us, hl with | [_, _], _ => rfl
theorem ok_state_from_counts (T : Tx K mg fa fdd) : FnOk P w K mg base (L2.CX P w) 2 (fa 6) (fdd 6) ["well", "counts"] (spOf K 2 m_state_from_counts) :=
  def_okD (N := ["well", "counts", "starts", "found", "group", "start", "is_last"]) (mask := [true, true]) (fb := b_state_from_counts) T.F_state_from_counts sc_state_from_counts rfl (by decide) fun cdv A outer s H vs rs E hr hl => match vs, hl with
    | [v0, v1], _ => (ws_cons (w_par2 (i := 2) (j := 3) rfl sc_state_from_counts.nd rfl rfl (by decide) rfl rfl rfl rfl (wa_cons (w_call (ok_segment_starts T) (hr.mono (by decide)) rfl T.g_segment_starts T.F_segment_starts.kp (bd_segment_starts T) (takes_of rfl rfl rfl rfl) (wA_v (w_var (pv 0)) wA_nil)) (wa_cons (w_lst wa_nil) wa_nil)) rfl)
    (ws_cons (w_for (passes_of rfl) rfl (wi_enum rfl rfl T.n_enumerate (wA_v (w_var (pv 2)) wA_nil)) (wg_tup rfl rfl (wgs_cons (wg_name (i := 4) sc_state_from_counts.nd rfl (by first | exact .inl rfl | exact .inr rfl) rfl) (wgs_cons (wg_name (i := 5) sc_state_from_counts.nd rfl (by first | exact .inl rfl | exact .inr rfl) rfl) wgs_nil)))
    (ws_cons (w_set (i := 6) (w_or (w_cmpR (op_eqD hr.units) s_eq (wr_v (w_bin op_addA s_add (w_var (pv 4)) w_int)) (wr_v (w_roB call_len_seq c_len rfl T.n_len bb_len (wA_s (pv 2) wA_nil)))) (w_one (w_cmpR (op_neD hr.units) s_ne (wr_v (w_ixS rfl (pv 2) (w_bin op_addA s_add (w_var (pv 4)) w_int))) (wr_s (pv 5))))) sc_state_from_counts.nd rfl (by first | exact .inl rfl | exact .inr rfl) rfl)
    (ws_one (w_expr (w_app (pe_bm PySem.F.plainAttrs_list PySem.F.slot_list_append PySem.F.type_list_append mt_append (pv 3) (pa_cons (w_bin op_sub s_sub (w_ixS rfl (pv 1) (w_var (pv 4))) (w_ifE (wt_val (w_var (pv 6))) w_int (w_ixS rfl (pv 1) (w_bin op_addA s_add (w_var (pv 4)) w_int)))) pa_nil)))))))
    (ws_one (w_ret (w_callTy call_tuple_of c_tuple rfl T.n_tuple bt_tuple (wa_cons (w_var (pv 3)) wa_nil))))))
theorem sc_suffix_counts : FnScope ["well", "state", "starts", "group", "start", "later", "count"] ["well", "state"] (defScope (top 5)) := ⟨rfl, rfl, rfl, by decide +kernel, rfl, by decide +kernel, by decide +kernel⟩
theorem bd_suffix_counts (T : Tx K mg fa fdd) : Binds K (fdd 5) ["well", "state"] [] := T.F_suffix_counts.bindsN fun _ _ _ _ _ _ us hl => match us, hl with | [_, _], _ => rfl
theorem ok_suffix_counts (T : Tx K mg fa fdd) : FnOk P w K mg base (L2.CX P w) 2 (fa 5) (fdd 5) ["well", "state"] (spOf K 2 m_suffix_counts) :=
  def_okD (N := ["well", "state", "starts", "group", "start", "later", "count"]) (mask := [true, true]) (fb := b_suffix_counts) T.F_suffix_counts sc_suffix_counts rfl (by decide) fun cdv A outer s H vs rs E hr hl => match vs, hl with
    | [v0, v1], _ => (ws_cons (w_set (i := 2) (w_call (ok_segment_starts T) (hr.mono (by decide)) rfl T.g_segment_starts T.F_segment_starts.kp (bd_segment_starts T) (takes_of rfl rfl rfl rfl) (wA_v (w_var (pv 0)) wA_nil)) sc_suffix_counts.nd rfl (by first | exact .inl rfl | exact .inr rfl) rfl)
    (ws_one (w_ret (w_callTy call_tuple_of c_tuple rfl T.n_tuple bt_tuple (wa_cons (w_lc rfl sc_suffix_counts.nd (wi_enum rfl rfl T.n_enumerate (wA_v (w_var (pv 2)) wA_nil)) (ow := [("group", 3), ("start", 4)]) (blkOk_by (by rfl)) (by decide) (fun PV1 hP1 s1 H1 C1 cl1 fp1 => (wg_tup rfl rfl (wgs_cons (wg_name (i := 3) sc_suffix_counts.nd rfl (by first | exact .inl rfl | exact .inr rfl) (hP1 3 (by decide))) (wgs_cons (wg_name (i := 4) sc_suffix_counts.nd rfl (by first | exact .inl rfl | exact .inr rfl) (hP1 4 (by decide))) wgs_nil)))) (fun PV1 hP1 s1 H1 C1 cl1 fp1 => pts_nil) (fun PV1 hP1 s1 H1 C1 cl1 fp1 => (w_roB (cr_sum rfl) c_sum rfl T.n_sum bb_sum (wA_v (w_lc rfl sc_suffix_counts.nd (wi_enum rfl rfl T.n_enumerate (wA_s (pv 1) wA_nil)) (ow := [("later", 5), ("count", 6)]) (blkOk_by (by rfl)) (by decide) (fun PV2 hP2 s2 H2 C2 cl2 fp2 => (wg_tup rfl rfl (wgs_cons (wg_name (i := 5) sc_suffix_counts.nd rfl (by first | exact .inl rfl | exact .inr rfl) (hP2 5 (by decide))) (wgs_cons (wg_name (i := 6) sc_suffix_counts.nd rfl (by first | exact .inl rfl | exact .inr rfl) (hP2 6 (by decide))) wgs_nil)))) (fun PV2 hP2 s2 H2 C2 cl2 fp2 => (pts_one (wt_w (ww_and (wt_cmpR op_ge s_ge (wr_s (pv 5)) (wr_s (pv 3))) (ww_and1 (wt_cmpR (op_eqD hr.units) s_eq (wr_v (w_ixS rfl (pv 2) (w_var (pv 5)))) (wr_s (pv 4)))))))) (fun PV2 hP2 s2 H2 C2 cl2 fp2 => (w_var (pv 6)))) wA_nil)))) wa_nil)))))
theorem sc_segments : FnScope ["well", "found", "group", "start"] ["well"] (defScope (top 2)) := ⟨rfl, rfl, rfl, by decide +kernel, rfl, by decide +kernel, by decide +kernel⟩
theorem bd_segments (T : Tx K mg fa fdd) : Binds K (fdd 2) ["well"] [] := T.F_segments.bindsN fun _ _ _ _ _ _ us hl => match us, hl with | [_], _ => rfl
theorem ok_segments (T : Tx K mg fa fdd) : FnOk P w K mg base (L2.CX P w) 2 (fa 2) (fdd 2) ["well"] (spOf K 1 m_segments) :=
  def_okD (N := ["well", "found", "group", "start"]) (mask := [true]) (fb := b_segments) T.F_segments sc_segments rfl (by decide) fun cdv A outer s H vs rs E hr hl => match vs, hl with
    | [v0], _ => (ws_cons (w_set (i := 1) (w_lst wa_nil) sc_segments.nd rfl (by first | exact .inl rfl | exact .inr rfl) rfl)
    (ws_cons (w_for (passes_of rfl) rfl (wi_enum rfl rfl T.n_enumerate (wA_v (w_call (ok_segment_starts T) (hr.mono (by decide)) rfl T.g_segment_starts T.F_segment_starts.kp (bd_segment_starts T) (takes_of rfl rfl rfl rfl) (wA_v (w_var (pv 0)) wA_nil)) wA_nil)) (wg_tup rfl rfl (wgs_cons (wg_name (i := 2) sc_segments.nd rfl (by first | exact .inl rfl | exact .inr rfl) rfl) (wgs_cons (wg_name (i := 3) sc_segments.nd rfl (by first | exact .inl rfl | exact .inr rfl) rfl) wgs_nil)))
    (ws_cons (w_if (wt_cmpR (op_eqD hr.units) s_eq (wr_s (pv 2)) (wr_s (pv 3))) (ws_one (w_expr (w_app (pe_bm PySem.F.plainAttrs_list PySem.F.slot_list_append PySem.F.type_list_append mt_append (pv 1) (pa_cons (w_lst wa_nil) pa_nil))))) ws_nil)
    (ws_one (w_expr (w_app2 rfl (pe_bm PySem.F.plainAttrs_list PySem.F.slot_list_append PySem.F.type_list_append mt_append (pe_ix ix_seq (pv 1) (w_un un_neg s_neg w_int) (fun _ _ => rfl)) (pa_cons (pv 2) pa_nil)))))))
    (ws_one (w_ret (w_take (pv 1))))))
theorem sc_is_grounded : FnScope ["well"] ["well"] (defScope (top 3)) := ⟨rfl, rfl, rfl, by decide +kernel, rfl, by decide +kernel, by decide +kernel⟩
theorem bd_is_grounded (T : Tx K mg fa fdd) : Binds K (fdd 3) ["well"] [] := T.F_is_grounded.bindsN fun _ _ _ _ _ _ us hl => match us, hl with | [_], _ => rfl
theorem ok_is_grounded (T : Tx K mg fa fdd) : FnOk P w K mg base (L2.CX P w) 1 (fa 3) (fdd 3) ["well"] (spOf K 1 m_is_grounded) :=
  def_okD (N := ["well"]) (mask := [true]) (fb := b_is_grounded) T.F_is_grounded sc_is_grounded rfl (by decide) fun cdv A outer s H vs rs E hr hl => match vs, hl with
    | [v0], _ => (ws_one (w_ret (w_cmpR op_le s_le (wr_v (w_ix rfl (w_ix rfl (w_ixS rfl (pv 0) w_int) w_int) w_int)) (wr_v (w_ixS rfl (pv 0) w_int)))))
theorem sc_conserved_starts : FnScope ["well", "groups"] ["well"] (defScope (top 4)) := ⟨rfl, rfl, rfl, by decide +kernel, rfl, by decide +kernel, by decide +kernel⟩
theorem bd_conserved_starts (T : Tx K mg fa fdd) : Binds K (fdd 4) ["well"] [] := T.F_conserved_starts.bindsN fun _ _ _ _ _ _ us hl => match us, hl with | [_], _ => rfl
theorem ok_conserved_starts (T : Tx K mg fa fdd) : FnOk P w K mg base (L2.CX P w) 3 (fa 4) (fdd 4) ["well"] (spOf K 1 m_conserved_starts) :=
  def_okD (N := ["well", "groups"]) (mask := [true]) (fb := b_conserved_starts) T.F_conserved_starts sc_conserved_starts rfl (by decide) fun cdv A outer s H vs rs E hr hl => match vs, hl with
    | [v0], _ => (ws_one (w_ret (w_lc rfl sc_conserved_starts.nd (wi_seq rfl (w_call (ok_segments T) (hr.mono (by decide)) rfl T.g_segments T.F_segments.kp (bd_segments T) (takes_of rfl rfl rfl rfl) (wA_v (w_var (pv 0)) wA_nil))) (ow := [("groups", 1)]) (blkOk_by (by rfl)) (by decide) (fun PV1 hP1 s1 H1 C1 cl1 fp1 => (wg_name (i := 1) sc_conserved_starts.nd rfl (by first | exact .inl rfl | exact .inr rfl) (hP1 1 (by decide)))) (fun PV1 hP1 s1 H1 C1 cl1 fp1 => (pts_one (wt_w (ww_or (wt_cmpR op_gt s_gt (wr_v (w_ixS rfl (pv 1) w_int)) (wr_v w_int)) (ww_or1 (wt_not (wt_val (w_call (ok_is_grounded T) (hr.mono (by decide)) rfl T.g_is_grounded T.F_is_grounded.kp (bd_is_grounded T) takes0 (wA_v (w_var (pv 0)) wA_nil))))))))) (fun PV1 hP1 s1 H1 C1 cl1 fp1 => (w_ixS rfl (pv 1) w_int)))))
theorem sc_are_compatible : FnScope ["well", "first", "second", "ours", "theirs", "group"] ["well", "first", "second"] (defScope (top 8)) := ⟨rfl, rfl, rfl, by decide +kernel, rfl, by decide +kernel, by decide +kernel⟩
theorem bd_are_compatible (T : Tx K mg fa fdd) : Binds K (fdd 8) ["well", "first", "second"] [] := T.F_are_compatible.bindsN fun _ _ _ _ _ _ us hl => match us, hl with | [_, _, _], _ => rfl
theorem ok_are_compatible (T : Tx K mg fa fdd) : FnOk P w K mg base (L2.CX P w) 4 (fa 8) (fdd 8) ["well", "first", "second"] (spOf K 3 m_are_compatible) :=
  def_okD (N := ["well", "first", "second", "ours", "theirs", "group"]) (mask := [true, true, true]) (fb := b_are_compatible) T.F_are_compatible sc_are_compatible rfl (by decide) fun cdv A outer s H vs rs E hr hl => match vs, hl with
    | [v0, v1, v2], _ => (ws_cons (w_asg (w_tup (wa_cons (w_call (ok_suffix_counts T) (hr.mono (by decide)) rfl T.g_suffix_counts T.F_suffix_counts.kp (bd_suffix_counts T) (takes_of rfl rfl rfl rfl) (wA_v (w_var (pv 0)) (wA_v (w_var (pv 1)) wA_nil))) (wa_cons (w_call (ok_suffix_counts T) (hr.mono (by decide)) rfl T.g_suffix_counts T.F_suffix_counts.kp (bd_suffix_counts T) (takes_of rfl rfl rfl rfl) (wA_v (w_var (pv 0)) (wA_v (w_var (pv 2)) wA_nil))) wa_nil))) (wg_tup rfl rfl (wgs_cons (wg_name (i := 3) sc_are_compatible.nd rfl (by first | exact .inl rfl | exact .inr rfl) rfl) (wgs_cons (wg_name (i := 4) sc_are_compatible.nd rfl (by first | exact .inl rfl | exact .inr rfl) rfl) wgs_nil))))
    (ws_one (w_ret (w_roB (cr_all rfl) c_all rfl T.n_all bb_all (wA_v (w_lc rfl sc_are_compatible.nd (wi_seq rfl (w_call (ok_conserved_starts T) (hr.mono (by decide)) rfl T.g_conserved_starts T.F_conserved_starts.kp (bd_conserved_starts T) (takes_of rfl rfl rfl rfl) (wA_v (w_var (pv 0)) wA_nil))) (ow := [("group", 5)]) (blkOk_by (by rfl)) (by decide) (fun PV1 hP1 s1 H1 C1 cl1 fp1 => (wg_name (i := 5) sc_are_compatible.nd rfl (by first | exact .inl rfl | exact .inr rfl) (hP1 5 (by decide)))) (fun PV1 hP1 s1 H1 C1 cl1 fp1 => pts_nil) (fun PV1 hP1 s1 H1 C1 cl1 fp1 => (w_cmpR (op_eqD hr.units) s_eq (wr_v (w_ixS rfl (pv 3) (w_var (pv 5)))) (wr_v (w_ixS rfl (pv 4) (w_var (pv 5))))))) wA_nil)))))
theorem sc_combine : FnScope ["well", "first", "second", "is_join", "counts", "ours", "theirs"] ["well", "first", "second", "is_join"] (defScope (top 9)) := ⟨rfl, rfl, rfl, by decide +kernel, rfl, by decide +kernel, by decide +kernel⟩
theorem bd_combine (T : Tx K mg fa fdd) : Binds K (fdd 9) ["well", "first", "second", "is_join"] [] := T.F_combine.bindsN fun _ _ _ _ _ _ us hl => match us, hl with | [_, _, _, _], _ => rfl
theorem ok_combine (T : Tx K mg fa fdd) : FnOk P w K mg base (L2.CX P w) 5 (fa 9) (fdd 9) ["well", "first", "second", "is_join"] (spOf K 4 m_combine) :=
  def_okD (N := ["well", "first", "second", "is_join", "counts", "ours", "theirs"]) (mask := [true, true, true, true]) (fb := b_combine) T.F_combine sc_combine rfl (by decide) fun cdv A outer s H vs rs E hr hl => match vs, hl with
    | [v0, v1, v2, v3], _ => (ws_cons (w_if (wt_not (wt_val (w_call (ok_are_compatible T) (hr.mono (by decide)) rfl T.g_are_compatible T.F_are_compatible.kp (bd_are_compatible T) (takes_of rfl rfl rfl rfl) (wA_v (w_var (pv 0)) (wA_v (w_var (pv 1)) (wA_v (w_var (pv 2)) wA_nil)))))) (ws_one (w_ret w_non)) ws_nil)
    (ws_cons (w_set (i := 4) (w_lst wa_nil) sc_combine.nd rfl (by first | exact .inl rfl | exact .inr rfl) rfl)
    (ws_cons (w_for (passes_of rfl) rfl (wi_zip2s rfl rfl T.n_zip (wA_v (w_call (ok_suffix_counts T) (hr.mono (by decide)) rfl T.g_suffix_counts T.F_suffix_counts.kp (bd_suffix_counts T) (takes_of rfl rfl rfl rfl) (wA_v (w_var (pv 0)) (wA_v (w_var (pv 1)) wA_nil))) (wA_v (w_call (ok_suffix_counts T) (hr.mono (by decide)) rfl T.g_suffix_counts T.F_suffix_counts.kp (bd_suffix_counts T) (takes_of rfl rfl rfl rfl) (wA_v (w_var (pv 0)) (wA_v (w_var (pv 2)) wA_nil))) wA_nil))) (wg_tup rfl rfl (wgs_cons (wg_name (i := 5) sc_combine.nd rfl (by first | exact .inl rfl | exact .inr rfl) rfl) (wgs_cons (wg_name (i := 6) sc_combine.nd rfl (by first | exact .inl rfl | exact .inr rfl) rfl) wgs_nil)))
    (ws_one (w_expr (w_app (pe_bm PySem.F.plainAttrs_list PySem.F.slot_list_append PySem.F.type_list_append mt_append (pv 4) (pa_cons (w_ifE (wt_val (w_var (pv 3))) (w_roB (call_max2 rfl) c_max2 rfl T.n_max bb_max (wA_s (pv 5) (wA_s (pv 6) wA_nil))) (w_roB (call_min2 rfl) c_min2 rfl T.n_min bb_min (wA_s (pv 5) (wA_s (pv 6) wA_nil)))) pa_nil))))))
    (ws_one (w_ret (w_call (ok_state_from_counts T) (hr.mono (by decide)) rfl T.g_state_from_counts T.F_state_from_counts.kp (bd_state_from_counts T) (takes_of rfl rfl rfl rfl) (wA_v (w_var (pv 0)) (wA_v (w_var (pv 4)) wA_nil))))))))
theorem sc_meet : FnScope ["well", "first", "second"] ["well", "first", "second"] (defScope (top 10)) := ⟨rfl, rfl, rfl, by decide +kernel, rfl, by decide +kernel, by decide +kernel⟩
theorem bd_meet (T : Tx K mg fa fdd) : Binds K (fdd 10) ["well", "first", "second"] [] := T.F_meet.bindsN fun _ _ _ _ _ _ us hl => match us, hl with | [_, _, _], _ => rfl
theorem kb_meet_0_second_first_well (T : Tx K mg fa fdd) : KB K (fdd 10) ["well", "first", "second"] ["second", "first", "well"] 0 [2, 1, 0] [] := kb_none T.F_meet fun _ _ _ _ _ _ us ws h1 h2 => match us, ws, h1, h2 with | [], [_, _, _], _, _ => rfl
theorem ok_meet (T : Tx K mg fa fdd) : FnOk P w K mg base (L2.CX P w) 6 (fa 10) (fdd 10) ["well", "first", "second"] (spOf K 3 m_meet) :=
  def_okD (N := ["well", "first", "second"]) (mask := [true, true, true]) (fb := b_meet) T.F_meet sc_meet rfl (by decide) fun cdv A outer s H vs rs E hr hl => match vs, hl with
    | [v0, v1, v2], _ => (ws_one (w_ret (w_call (ok_combine T) (hr.mono (by decide)) rfl T.g_combine T.F_combine.kp (bd_combine T) (takes_of rfl rfl rfl rfl) (wA_v (w_var (pv 0)) (wA_v (w_var (pv 1)) (wA_v (w_var (pv 2)) (wA_v w_bl wA_nil)))))))
theorem sc__law_weight : FnScope ["_law_shaft", "_law_k"] ["_law_shaft", "_law_k"] (defScope (top 20)) := ⟨rfl, rfl, rfl, by decide +kernel, rfl, by decide +kernel, by decide +kernel⟩
theorem bd__law_weight (T : Tx K mg fa fdd) : Binds K (fdd 20) ["_law_shaft", "_law_k"] [] := T.F__law_weight.bindsN fun _ _ _ _ _ _ us hl => match us, hl with | [_, _], _ => rfl
theorem ok__law_weight (T : Tx K mg fa fdd) : FnOk P w K mg base (L2.CX P w) 1 (fa 20) (fdd 20) ["_law_shaft", "_law_k"] (spOf K 2 m__law_weight) :=
  def_okD (N := ["_law_shaft", "_law_k"]) (mask := [true, true]) (fb := b__law_weight) T.F__law_weight sc__law_weight rfl (by decide) fun cdv A outer s H vs rs E hr hl => match vs, hl with
    | [v0, v1], _ => (ws_one (w_ret (w_ifE (wt_cmpR (op_ltA hr.units0) s_lt (wr_s (pv 1)) (wr_v w_int)) w_int (w_ix rfl (w_ix rfl (w_ixS rfl (pv 0) w_int) (w_var (pv 1))) w_int))))
theorem sc__law_all_moves : FnScope ["_law_shaft", "_law_found", "_law_k", "_law_least", "_law_low"] ["_law_shaft"] (defScope (top 21)) := ⟨rfl, rfl, rfl, by decide +kernel, rfl, by decide +kernel, by decide +kernel⟩
theorem bd__law_all_moves (T : Tx K mg fa fdd) : Binds K (fdd 21) ["_law_shaft"] [] := T.F__law_all_moves.bindsN fun _ _ _ _ _ _ us hl => match us, hl with | [_], _ => rfl
theorem ok__law_all_moves (T : Tx K mg fa fdd) : FnOk P w K mg base (L2.CX P w) 2 (fa 21) (fdd 21) ["_law_shaft"] (spOf K 1 m__law_all_moves) :=
  def_okD (N := ["_law_shaft", "_law_found", "_law_k", "_law_least", "_law_low"]) (mask := [true]) (fb := b__law_all_moves) T.F__law_all_moves sc__law_all_moves rfl (by decide) fun cdv A outer s H vs rs E hr hl => match vs, hl with
    | [v0], _ => (ws_cons (w_set (i := 1) (w_lst wa_nil) sc__law_all_moves.nd rfl (by first | exact .inl rfl | exact .inr rfl) rfl)
    (ws_cons (w_for (passes_of rfl) rfl (wi_rng1 rfl T.n_range (w_roB call_len_seq c_len rfl T.n_len bb_len (wA_v (w_ixS rfl (pv 0) w_int) wA_nil))) (wg_name (i := 2) sc__law_all_moves.nd rfl (by first | exact .inl rfl | exact .inr rfl) rfl)
    (ws_cons (w_set (i := 3) (w_bin op_sub s_sub (w_call (ok__law_weight T) (hr.mono (by decide)) rfl T.g__law_weight T.F__law_weight.kp (bd__law_weight T) (takes_of rfl rfl rfl rfl) (wA_v (w_var (pv 0)) (wA_v (w_var (pv 2)) wA_nil))) (w_ixS rfl (pv 0) w_int)) sc__law_all_moves.nd rfl (by first | exact .inl rfl | exact .inr rfl) rfl)
    (ws_one (w_set (i := 1) (w_bin op_addA s_add (w_var (pv 1)) (w_lc rfl sc__law_all_moves.nd (wi_rng2 rfl T.n_range (w_un un_neg s_neg w_int) (w_var (pv 2))) (ow := [("_law_low", 4)]) (blkOk_by (by rfl)) (by decide) (fun PV1 hP1 s1 H1 C1 cl1 fp1 => (wg_name (i := 4) sc__law_all_moves.nd rfl (by first | exact .inl rfl | exact .inr rfl) (hP1 4 (by decide)))) (fun PV1 hP1 s1 H1 C1 cl1 fp1 => (pts_one (wt_cmpR op_ge s_ge (wr_v (w_call (ok__law_weight T) (hr.mono (by decide)) rfl T.g__law_weight T.F__law_weight.kp (bd__law_weight T) takes0 (wA_v (w_var (pv 0)) (wA_v (w_var (pv 4)) wA_nil)))) (wr_s (pv 3))))) (fun PV1 hP1 s1 H1 C1 cl1 fp1 => (w_tup (wa_cons (w_var (pv 2)) (wa_cons (w_var (pv 4)) wa_nil)))))) sc__law_all_moves.nd rfl (by first | exact .inl rfl | exact .inr rfl) rfl))))
    (ws_one (w_ret (w_take (pv 1))))))
theorem sc__law_legal_moves : FnScope ["_law_shaft", "_law_here", "_law_found", "_law_k", "_law_low"] ["_law_shaft", "_law_here"] (defScope (top 22)) := ⟨rfl, rfl, rfl, by decide +kernel, rfl, by decide +kernel, by decide +kernel⟩
theorem bd__law_legal_moves (T : Tx K mg fa fdd) : Binds K (fdd 22) ["_law_shaft", "_law_here"] [] := T.F__law_legal_moves.bindsN fun _ _ _ _ _ _ us hl => match us, hl with | [_, _], _ => rfl
theorem ok__law_legal_moves (T : Tx K mg fa fdd) : FnOk P w K mg base (L2.CX P w) 3 (fa 22) (fdd 22) ["_law_shaft", "_law_here"] (spOf K 2 m__law_legal_moves) :=
  def_okD (N := ["_law_shaft", "_law_here", "_law_found", "_law_k", "_law_low"]) (mask := [true, true]) (fb := b__law_legal_moves) T.F__law_legal_moves sc__law_legal_moves rfl (by decide) fun cdv A outer s H vs rs E hr hl => match vs, hl with
    | [v0, v1], _ => (ws_cons (w_set (i := 2) (w_lst wa_nil) sc__law_legal_moves.nd rfl (by first | exact .inl rfl | exact .inr rfl) rfl)
    (ws_cons (w_for (passes_of rfl) rfl (wi_seq rfl (w_call (ok__law_all_moves T) (hr.mono (by decide)) rfl T.g__law_all_moves T.F__law_all_moves.kp (bd__law_all_moves T) (takes_of rfl rfl rfl rfl) (wA_v (w_var (pv 0)) wA_nil))) (wg_tup rfl rfl (wgs_cons (wg_name (i := 3) sc__law_legal_moves.nd rfl (by first | exact .inl rfl | exact .inr rfl) rfl) (wgs_cons (wg_name (i := 4) sc__law_legal_moves.nd rfl (by first | exact .inl rfl | exact .inr rfl) rfl) wgs_nil)))
    (ws_one (w_if (wt_w (ww_and (wt_cmpR (op_ltA hr.units0) s_lt (wr_v (w_ixS rfl (pv 1) (w_var (pv 3)))) (wr_v (w_ix rfl (w_ix rfl (w_ixS rfl (pv 0) w_int) (w_var (pv 3))) w_int))) (ww_and1 (wt_w (ww_or (wt_cmpR (op_ltA hr.units0) s_lt (wr_s (pv 4)) (wr_v w_int)) (ww_or1 (wt_cmpR op_gt s_gt (wr_v (w_ixS rfl (pv 1) (w_var (pv 4)))) (wr_v w_int)))))))) (ws_one (w_expr (w_app (pe_bm PySem.F.plainAttrs_list PySem.F.slot_list_append PySem.F.type_list_append mt_append (pv 2) (pa_cons (w_tup (wa_cons (w_var (pv 3)) (wa_cons (w_var (pv 4)) wa_nil))) pa_nil))))) ws_nil)))
    (ws_one (w_ret (w_take (pv 2))))))
theorem sc__law_applied : FnScope ["_law_here", "_law_hop", "_law_often", "_law_found"] ["_law_here", "_law_hop", "_law_often"] (defScope (top 23)) := ⟨rfl, rfl, rfl, by decide +kernel, rfl, by decide +kernel, by decide +kernel⟩
theorem bd__law_applied (T : Tx K mg fa fdd) : Binds K (fdd 23) ["_law_here", "_law_hop", "_law_often"] [] := T.F__law_applied.bindsN fun _ _ _ _ _ _ us hl => match us, hl with | [_, _, _], _ => rfl
theorem ok__law_applied (T : Tx K mg fa fdd) : FnOk P w K mg base (L2.CX P w) 1 (fa 23) (fdd 23) ["_law_here", "_law_hop", "_law_often"] (spOf K 3 m__law_applied) :=
  def_okD (N := ["_law_here", "_law_hop", "_law_often", "_law_found"]) (mask := [true, true, true]) (fb := b__law_applied) T.F__law_applied sc__law_applied rfl (by decide) fun cdv A outer s H vs rs E hr hl => match vs, hl with
    | [v0, v1, v2], _ => (ws_cons (w_set (i := 3) (w_callTy call_list_of c_list rfl T.n_list bt_list (wa_cons (w_var (pv 0)) wa_nil)) sc__law_applied.nd rfl (by first | exact .inl rfl | exact .inr rfl) rfl)
    (ws_cons (w_asg (w_bin op_addA s_add (w_ixS rfl (pv 3) (w_ixS rfl (pv 1) w_int)) (w_var (pv 2))) (wg_sub (pg_sub (pv 3) (w_ixS rfl (pv 1) w_int) set_list)))
    (ws_cons (w_if (wt_cmpR op_ge s_ge (wr_v (w_ixS rfl (pv 1) w_int)) (wr_v w_int)) (ws_one (w_asg (w_bin op_sub s_sub (w_ixS rfl (pv 3) (w_ixS rfl (pv 1) w_int)) (w_var (pv 2))) (wg_sub (pg_sub (pv 3) (w_ixS rfl (pv 1) w_int) set_list)))) ws_nil)
    (ws_one (w_ret (w_callTy call_tuple_of c_tuple rfl T.n_tuple bt_tuple (wa_cons (w_var (pv 3)) wa_nil)))))))
theorem sc__law_random_jumps : FnScope ["_law_rng", "_law_shaft", "_law_here", "_law_often", "_law_made", "_law_turn", "_law_some", "_law_k", "_law_low", "_law_free", "_law_times"] ["_law_rng", "_law_shaft", "_law_here", "_law_often"] (defScope (top 24)) := ⟨rfl, rfl, rfl, by decide +kernel, rfl, by decide +kernel, by decide +kernel⟩
theorem bd__law_random_jumps (T : Tx K mg fa fdd) : Binds K (fdd 24) ["_law_rng", "_law_shaft", "_law_here", "_law_often"] [] := T.F__law_random_jumps.bindsN fun _ _ _ _ _ _ us hl => match us, hl with | [_, _, _, _], _ => rfl
theorem ok__law_random_jumps (T : Tx K mg fa fdd) : FnOk P w K mg base (L2.CX P w) 14 (fa 24) (fdd 24) ["_law_rng", "_law_shaft", "_law_here", "_law_often"] (spOf K 4 m__law_random_jumps) :=
  def_okD (N := ["_law_rng", "_law_shaft", "_law_here", "_law_often", "_law_made", "_law_turn", "_law_some", "_law_k", "_law_low", "_law_free", "_law_times"]) (mask := [true, true, false, true]) (fb := b__law_random_jumps) T.F__law_random_jumps sc__law_random_jumps rfl (by decide) fun cdv A outer s H vs rs E hr hl => match vs, hl with
    | [v0, v1, v2, v3], _ => (ws_cons (w_set (i := 4) (w_lst wa_nil) sc__law_random_jumps.nd rfl (by first | exact .inl rfl | exact .inr rfl) rfl)
    (ws_cons (w_for (passes_of rfl) rfl (wi_rng1 rfl T.n_range (w_var (pv 3))) (wg_name (i := 5) sc__law_random_jumps.nd rfl (by first | exact .inl rfl | exact .inr rfl) rfl)
    (ws_cons (w_set (i := 6) (w_call (ok__law_legal_moves T) (hr.mono (by decide)) rfl T.g__law_legal_moves T.F__law_legal_moves.kp (bd__law_legal_moves T) (takes_of rfl rfl rfl rfl) (wA_v (w_var (pv 1)) (wA_v (w_var (pv 2)) wA_nil))) sc__law_random_jumps.nd rfl (by first | exact .inl rfl | exact .inr rfl) rfl)
    (ws_one (w_if (wt_cmpR (op_neD hr.units) s_ne (wr_s (pv 6)) (wr_v (w_lst wa_nil))) (ws_cons (w_asg (w_call (ok__law_pick T) (hr.mono (by decide)) rfl T.g__law_pick T.F__law_pick.kp (bd__law_pick T) (takes_of rfl rfl rfl rfl) (wA_s (pv 0) (wA_v (w_var (pv 6)) wA_nil))) (wg_tup rfl rfl (wgs_cons (wg_name (i := 7) sc__law_random_jumps.nd rfl (by first | exact .inl rfl | exact .inr rfl) rfl) (wgs_cons (wg_name (i := 8) sc__law_random_jumps.nd rfl (by first | exact .inl rfl | exact .inr rfl) rfl) wgs_nil))))
    (ws_cons (w_set (i := 9) (w_bin op_sub s_sub (w_ix rfl (w_ix rfl (w_ixS rfl (pv 1) w_int) (w_var (pv 7))) w_int) (w_ixS rfl (pv 2) (w_var (pv 7)))) sc__law_random_jumps.nd rfl (by first | exact .inl rfl | exact .inr rfl) rfl)
    (ws_cons (w_set (i := 9) (w_ifE (wt_cmpR (op_ltA hr.units0) s_lt (wr_s (pv 8)) (wr_v w_int)) (w_var (pv 9)) (w_roB (call_min2 rfl) c_min2 rfl T.n_min bb_min (wA_s (pv 9) (wA_v (w_ixS rfl (pv 2) (w_var (pv 8))) wA_nil)))) sc__law_random_jumps.nd rfl (by first | exact .inl rfl | exact .inr rfl) rfl)
    (ws_cons (w_set (i := 10) (w_call (ok__law_pick T) (hr.mono (by decide)) rfl T.g__law_pick T.F__law_pick.kp (bd__law_pick T) (takes_of rfl rfl rfl rfl) (wA_s (pv 0) (wA_v (w_frz (w_lst (wa_cons w_int (wa_cons (w_var (pv 9)) (wa_cons (w_bin op_addA s_add w_int (w_call (ok__law_draw T) (hr.mono (by decide)) rfl T.g__law_draw T.F__law_draw.kp (bd__law_draw T) (takes_of rfl rfl rfl rfl) (wA_s (pv 0) (wA_v (w_var (pv 9)) wA_nil)))) wa_nil))))) wA_nil))) sc__law_random_jumps.nd rfl (by first | exact .inl rfl | exact .inr rfl) rfl)
    (ws_cons (w_set (i := 2) (w_call (ok__law_applied T) (hr.mono (by decide)) rfl T.g__law_applied T.F__law_applied.kp (bd__law_applied T) (takes_of rfl rfl rfl rfl) (wA_v (w_var (pv 2)) (wA_v (w_tup (wa_cons (w_var (pv 7)) (wa_cons (w_var (pv 8)) wa_nil))) (wA_v (w_var (pv 10)) wA_nil)))) sc__law_random_jumps.nd rfl (by first | exact .inl rfl | exact .inr rfl) rfl)
    (ws_one (w_expr (w_app (pe_bm PySem.F.plainAttrs_list PySem.F.slot_list_append PySem.F.type_list_append mt_append (pv 4) (pa_cons (w_tup (wa_cons (w_var (pv 7)) (wa_cons (w_var (pv 8)) (wa_cons (w_var (pv 10)) wa_nil)))) pa_nil)))))))))) ws_nil))))
    (ws_one (w_ret (w_tup (wa_cons (w_var (pv 2)) (wa_cons (w_var (pv 4)) wa_nil)))))))
theorem sc__law_distances : FnScope ["_law_shaft", "_law_here", "_law_found", "_law_layer", "_law_far", "_law_further", "_law_mine", "_law_hop", "_law_there"] ["_law_shaft", "_law_here"] (defScope (top 25)) := ⟨rfl, rfl, rfl, by decide +kernel, rfl, by decide +kernel, by decide +kernel⟩
theorem bd__law_distances (T : Tx K mg fa fdd) : Binds K (fdd 25) ["_law_shaft", "_law_here"] [] := T.F__law_distances.bindsN fun _ _ _ _ _ _ us hl => match us, hl with | [_, _], _ => rfl
theorem ok__law_distances (T : Tx K mg fa fdd) : FnOk P w K mg base (L2.CX P w) 4 (fa 25) (fdd 25) ["_law_shaft", "_law_here"] (spOf K 2 m__law_distances) :=
  def_okD (N := ["_law_shaft", "_law_here", "_law_found", "_law_layer", "_law_far", "_law_further", "_law_mine", "_law_hop", "_law_there"]) (mask := [true, true]) (fb := b__law_distances) T.F__law_distances sc__law_distances rfl (by decide) fun cdv A outer s H vs rs E hr hl => match vs, hl with
    | [v0, v1], _ => (ws_cons (w_par3 (i := 2) (j := 3) (l := 4) rfl sc__law_distances.nd rfl rfl rfl (by decide) (by decide) (by decide) rfl rfl rfl rfl rfl rfl (wa_cons (w_dispT (hu1 hr) (w_var (pv 1)) w_int) (wa_cons (w_lst (wa_cons (w_var (pv 1)) wa_nil)) (wa_cons w_int wa_nil))) rfl)
    (ws_cons (w_while (passes_of rfl) (wt_cmpR (op_neD hr.units) s_ne (wr_s (pv 3)) (wr_v (w_lst wa_nil)))
    (ws_cons (w_par2 (i := 5) (j := 4) rfl sc__law_distances.nd rfl rfl (by decide) rfl rfl rfl rfl (wa_cons (w_lst wa_nil) (wa_cons (w_bin op_addA s_add (w_var (pv 4)) w_int) wa_nil)) rfl)
    (ws_cons (w_for (passes_of rfl) rfl (wi_seq rfl (w_var (pv 3))) (wg_name (i := 6) sc__law_distances.nd rfl (by first | exact .inl rfl | exact .inr rfl) rfl)
    (ws_one (w_for (passes_of rfl) rfl (wi_seq rfl (w_call (ok__law_legal_moves T) (hr.mono (by decide)) rfl T.g__law_legal_moves T.F__law_legal_moves.kp (bd__law_legal_moves T) (takes_of rfl rfl rfl rfl) (wA_v (w_var (pv 0)) (wA_v (w_var (pv 6)) wA_nil)))) (wg_name (i := 7) sc__law_distances.nd rfl (by first | exact .inl rfl | exact .inr rfl) rfl)
    (ws_cons (w_set (i := 8) (w_call (ok__law_applied T) (hr.mono (by decide)) rfl T.g__law_applied T.F__law_applied.kp (bd__law_applied T) (takes_of rfl rfl rfl rfl) (wA_v (w_var (pv 6)) (wA_v (w_var (pv 7)) (wA_v w_int wA_nil)))) sc__law_distances.nd rfl (by first | exact .inl rfl | exact .inr rfl) rfl)
    (ws_one (w_if (wt_dnotin (hu1 hr) (pv 2) (w_var (pv 8))) (ws_cons (w_dput (hu1 hr) (pv 2) (w_var (pv 8)) (w_var (pv 4)))
    (ws_one (w_expr (w_app (pe_bm PySem.F.plainAttrs_list PySem.F.slot_list_append PySem.F.type_list_append mt_append (pv 5) (pa_cons (w_var (pv 8)) pa_nil)))))) ws_nil))))))
    (ws_one (w_set (i := 3) (w_var (pv 5)) sc__law_distances.nd rfl (by first | exact .inl rfl | exact .inr rfl) rfl)))))
    (ws_one (w_ret (w_take (pv 2))))))
theorem sc__law_all_stands : FnScope ["_law_shaft", "_law_found", "_law_heavy", "_law_many", "_law_wider", "_law_here", "_law_below"] ["_law_shaft"] (defScope (top 26)) := ⟨rfl, rfl, rfl, by decide +kernel, rfl, by decide +kernel, by decide +kernel⟩
theorem bd__law_all_stands (T : Tx K mg fa fdd) : Binds K (fdd 26) ["_law_shaft"] [] := T.F__law_all_stands.bindsN fun _ _ _ _ _ _ us hl => match us, hl with | [_], _ => rfl
theorem ok__law_all_stands (T : Tx K mg fa fdd) : FnOk P w K mg base (L2.CX P w) 1 (fa 26) (fdd 26) ["_law_shaft"] (spOf K 1 m__law_all_stands) :=
  def_okD (N := ["_law_shaft", "_law_found", "_law_heavy", "_law_many", "_law_wider", "_law_here", "_law_below"]) (mask := [true]) (fb := b__law_all_stands) T.F__law_all_stands sc__law_all_stands rfl (by decide) fun cdv A outer s H vs rs E hr hl => match vs, hl with
    | [v0], _ => (ws_cons (w_set (i := 1) (w_lst (wa_cons (w_tup wa_nil) wa_nil)) sc__law_all_stands.nd rfl (by first | exact .inl rfl | exact .inr rfl) rfl)
    (ws_cons (w_for (passes_of rfl) rfl (wi_seq rfl (w_ixS rfl (pv 0) w_int)) (wg_tup rfl rfl (wgs_cons (wg_name (i := 2) sc__law_all_stands.nd rfl (by first | exact .inl rfl | exact .inr rfl) rfl) (wgs_cons (wg_name (i := 3) sc__law_all_stands.nd rfl (by first | exact .inl rfl | exact .inr rfl) rfl) wgs_nil)))
    (ws_cons (w_set (i := 4) (w_lst wa_nil) sc__law_all_stands.nd rfl (by first | exact .inl rfl | exact .inr rfl) rfl)
    (ws_cons (w_for (passes_of rfl) rfl (wi_seq rfl (w_var (pv 1))) (wg_name (i := 5) sc__law_all_stands.nd rfl (by first | exact .inl rfl | exact .inr rfl) rfl)
    (ws_one (w_set (i := 4) (w_bin op_addA s_add (w_var (pv 4)) (w_lc rfl sc__law_all_stands.nd (wi_rng1 rfl T.n_range (w_bin op_addA s_add (w_var (pv 3)) w_int)) (ow := [("_law_below", 6)]) (blkOk_by (by rfl)) (by decide) (fun PV1 hP1 s1 H1 C1 cl1 fp1 => (wg_name (i := 6) sc__law_all_stands.nd rfl (by first | exact .inl rfl | exact .inr rfl) (hP1 6 (by decide)))) (fun PV1 hP1 s1 H1 C1 cl1 fp1 => pts_nil) (fun PV1 hP1 s1 H1 C1 cl1 fp1 => (w_bin op_addA s_add (w_var (pv 5)) (w_tup (wa_cons (w_var (pv 6)) wa_nil)))))) sc__law_all_stands.nd rfl (by first | exact .inl rfl | exact .inr rfl) rfl)))
    (ws_one (w_set (i := 1) (w_var (pv 4)) sc__law_all_stands.nd rfl (by first | exact .inl rfl | exact .inr rfl) rfl)))))
    (ws_one (w_ret (w_take (pv 1))))))
theorem sc__law_same : FnScope ["_law_found", "_law_wanted", "_law_mine", "_law_its"] ["_law_found", "_law_wanted"] (defScope (top 15)) := ⟨rfl, rfl, rfl, by decide +kernel, rfl, by decide +kernel, by decide +kernel⟩
theorem bd__law_same (T : Tx K mg fa fdd) : Binds K (fdd 15) ["_law_found", "_law_wanted"] [] := T.F__law_same.bindsN fun _ _ _ _ _ _ us hl => match us, hl with | [_, _], _ => rfl
theorem ok__law_same_n (T : Tx K mg fa fdd) : ∀ n, FnOk P w K mg base (L2.CX P w) (0 + n) (fa 15) (fdd 15) ["_law_found", "_law_wanted"] (spOf K 2 (m__law_same n))
  | 0 => fn_none
  | n + 1 => def_okD (N := ["_law_found", "_law_wanted", "_law_mine", "_law_its"]) (mask := [true, true]) (fb := b__law_same (m__law_same n)) T.F__law_same sc__law_same rfl (by decide) fun cdv A outer s H vs rs E hr hl => match vs, hl with
    | [v0, v1], _ => (ws_cons (w_if (wt_val (w_roB call_isiA c_isi rfl T.n_isinstance bb_isinstance (wA_s (pv 1) (wA_v (w_tup (wa_cons (w_ty rfl T.n_list bt_list) (wa_cons (w_ty rfl T.n_tuple bt_tuple) wa_nil))) wA_nil)))) (ws_cons (w_if (wt_w (ww_or (wt_cmpR (op_neD hr.units) s_ne (wr_v (w_roB call_isiA c_isi rfl T.n_isinstance bb_isinstance (wA_s (pv 0) (wA_v (w_ty rfl T.n_list bt_list) wA_nil)))) (wr_v (w_roB call_isiA c_isi rfl T.n_isinstance bb_isinstance (wA_s (pv 1) (wA_v (w_ty rfl T.n_list bt_list) wA_nil))))) (ww_or1 (wt_cmpR (op_neD hr.units) s_ne (wr_v (w_roB call_isiA c_isi rfl T.n_isinstance bb_isinstance (wA_s (pv 0) (wA_v (w_ty rfl T.n_tuple bt_tuple) wA_nil)))) (wr_v (w_roB call_isiA c_isi rfl T.n_isinstance bb_isinstance (wA_s (pv 1) (wA_v (w_ty rfl T.n_tuple bt_tuple) wA_nil)))))))) (ws_one (w_ret w_bl)) ws_nil)
    (ws_one (w_ret (w_and (w_cmpR (op_eqD hr.units) s_eq (wr_v (w_roB call_len_seq c_len rfl T.n_len bb_len (wA_s (pv 0) wA_nil))) (wr_v (w_roB call_len_seq c_len rfl T.n_len bb_len (wA_s (pv 1) wA_nil)))) (w_one (w_roB (cr_all rfl) c_all rfl T.n_all bb_all (wA_v (w_lc rfl sc__law_same.nd (wi_zip2 rfl rfl T.n_zip (wA_s (pv 0) (wA_s (pv 1) wA_nil))) (ow := [("_law_mine", 2), ("_law_its", 3)]) (blkOk_by (by rfl)) (by decide) (fun PV1 hP1 s1 H1 C1 cl1 fp1 => (wg_tup rfl rfl (wgs_cons (wg_name (i := 2) sc__law_same.nd rfl (by first | exact .inl rfl | exact .inr rfl) (hP1 2 (by decide))) (wgs_cons (wg_name (i := 3) sc__law_same.nd rfl (by first | exact .inl rfl | exact .inr rfl) (hP1 3 (by decide))) wgs_nil)))) (fun PV1 hP1 s1 H1 C1 cl1 fp1 => pts_nil) (fun PV1 hP1 s1 H1 C1 cl1 fp1 => (w_call (ok__law_same_n T n) hr rfl T.g__law_same T.F__law_same.kp (bd__law_same T) takes0 (wA_v (w_var (pv 2)) (wA_v (w_var (pv 3)) wA_nil))))) wA_nil))))))) ws_nil)
    (ws_cons (w_if (wt_w (ww_or (wt_cmpR op_isN s_is (wr_s (pv 1)) (wr_v w_non)) (ww_or1 (wt_val (w_roB call_isiA c_isi rfl T.n_isinstance bb_isinstance (wA_s (pv 1) (wA_v (w_ty rfl T.n_str bt_str) wA_nil))))))) (ws_one (w_ret (w_and (w_cmpR (op_eqD hr.units) s_eq (wr_s (pv 0)) (wr_s (pv 1))) (w_one (w_cmpR (op_eqD hr.units) s_eq (wr_v (w_roB call_isiA c_isi rfl T.n_isinstance bb_isinstance (wA_s (pv 0) (wA_v (w_ty rfl T.n_str bt_str) wA_nil)))) (wr_v (w_roB call_isiA c_isi rfl T.n_isinstance bb_isinstance (wA_s (pv 1) (wA_v (w_ty rfl T.n_str bt_str) wA_nil))))))))) ws_nil)
    (ws_one (w_ret (w_and (w_roB call_isiA c_isi rfl T.n_isinstance bb_isinstance (wA_s (pv 0) (wA_v (w_ty rfl T.n_int bt_int) wA_nil))) (w_and (w_cmpR (op_eqD hr.units) s_eq (wr_v (w_roB call_isiA c_isi rfl T.n_isinstance bb_isinstance (wA_s (pv 0) (wA_v (w_ty rfl T.n_bool bt_bool) wA_nil)))) (wr_v (w_roB call_isiA c_isi rfl T.n_isinstance bb_isinstance (wA_s (pv 1) (wA_v (w_ty rfl T.n_bool bt_bool) wA_nil))))) (w_one (w_cmpR (op_eqD hr.units) s_eq (wr_s (pv 0)) (wr_s (pv 1))))))))))
theorem ok__law_same (T : Tx K mg fa fdd) : FnOk P w K mg base (L2.CX P w) 8 (fa 15) (fdd 15) ["_law_found", "_law_wanted"] (spOf K 2 (m__law_same 8)) := ok__law_same_n T 8
theorem sc__law_as_lists : FnScope ["_law_matter", "_law_part"] ["_law_matter"] (defScope (top 17)) := ⟨rfl, rfl, rfl, by decide +kernel, rfl, by decide +kernel, by decide +kernel⟩
theorem bd__law_as_lists (T : Tx K mg fa fdd) : Binds K (fdd 17) ["_law_matter"] [] := T.F__law_as_lists.bindsN fun _ _ _ _ _ _ us hl => match us, hl with | [_], _ => rfl
theorem ok__law_as_lists_n (T : Tx K mg fa fdd) : ∀ n, FnOk P w K mg base (L2.CX P w) (0 + n) (fa 17) (fdd 17) ["_law_matter"] (spOf K 1 (m__law_as_lists n))
  | 0 => fn_none
  | n + 1 => def_okD (N := ["_law_matter", "_law_part"]) (mask := [true]) (fb := b__law_as_lists (m__law_as_lists n)) T.F__law_as_lists sc__law_as_lists rfl (by decide) fun cdv A outer s H vs rs E hr hl => match vs, hl with
    | [v0], _ => (ws_one (w_ret (w_ifE (wt_val (w_roB call_isiA c_isi rfl T.n_isinstance bb_isinstance (wA_s (pv 0) (wA_v (w_tup (wa_cons (w_ty rfl T.n_list bt_list) (wa_cons (w_ty rfl T.n_tuple bt_tuple) wa_nil))) wA_nil)))) (w_lc rfl sc__law_as_lists.nd (wi_seqS rfl (pv 0)) (ow := [("_law_part", 1)]) (blkOk_by (by rfl)) (by decide) (fun PV1 hP1 s1 H1 C1 cl1 fp1 => (wg_name (i := 1) sc__law_as_lists.nd rfl (by first | exact .inl rfl | exact .inr rfl) (hP1 1 (by decide)))) (fun PV1 hP1 s1 H1 C1 cl1 fp1 => pts_nil) (fun PV1 hP1 s1 H1 C1 cl1 fp1 => (w_call (ok__law_as_lists_n T n) hr rfl T.g__law_as_lists T.F__law_as_lists.kp (bd__law_as_lists T) takes0 (wA_v (w_var (pv 1)) wA_nil)))) (w_var (pv 0)))))
theorem ok__law_as_lists (T : Tx K mg fa fdd) : FnOk P w K mg base (L2.CX P w) 8 (fa 17) (fdd 17) ["_law_matter"] (spOf K 1 (m__law_as_lists 8)) := ok__law_as_lists_n T 8
theorem sc__law_right : FnScope ["_law_rng", "_law_turn", "_law_shaft", "_law_layers", "_law_here", "_law_there", "_law_both", "_law_found", "_law_again", "_law_now"] ["_law_rng"] (defScope (top 27)) := ⟨rfl, rfl, rfl, by decide +kernel, rfl, by decide +kernel, by decide +kernel⟩
theorem bd__law_right (T : Tx K mg fa fdd) : Binds K (fdd 27) ["_law_rng"] [] := T.F__law_right.bindsN fun _ _ _ _ _ _ us hl => match us, hl with | [_], _ => rfl
theorem ok__law_right (T : Tx K mg fa fdd) : FnOk P w K mg base (L2.CX P w) 15 (fa 27) (fdd 27) ["_law_rng"] (spOf K 1 m__law_right_v46) :=
  def_okD (N := ["_law_rng", "_law_turn", "_law_shaft", "_law_layers", "_law_here", "_law_there", "_law_both", "_law_found", "_law_again", "_law_now"]) (mask := [true]) (fb := b__law_right_v46) T.F__law_right sc__law_right rfl (by decide) fun cdv A outer s H vs rs E hr hl => match vs, hl with
    | [v0], _ => (ws_cons (w_for (passes_of rfl) rfl (wi_rng1 rfl T.n_range w_int) (wg_name (i := 1) sc__law_right.nd rfl (by first | exact .inl rfl | exact .inr rfl) rfl)
    (ws_cons (w_set (i := 2) (w_call (ok__law_random_well T) (hr.mono (by decide)) rfl T.g__law_random_well T.F__law_random_well.kp (bd__law_random_well T) (takes_of rfl rfl rfl rfl) (wA_s (pv 0) (wA_v w_int (wA_v w_int wA_nil)))) sc__law_right.nd rfl (by first | exact .inl rfl | exact .inr rfl) rfl)
    (ws_cons (w_set (i := 3) (w_callTy (cr_dictT hr.units rfl) c_dictGT rfl T.n_dict bt_dict (wa_cons (w_lc rfl sc__law_right.nd (wi_seq rfl (w_call (ok__law_all_stands T) (hr.mono (by decide)) rfl T.g__law_all_stands T.F__law_all_stands.kp (bd__law_all_stands T) (takes_of rfl rfl rfl rfl) (wA_v (w_var (pv 2)) wA_nil))) (ow := [("_law_now", 9)]) (blkOk_by (by rfl)) (by decide) (fun PV1 hP1 s1 H1 C1 cl1 fp1 => (wg_name (i := 9) sc__law_right.nd rfl (by first | exact .inl rfl | exact .inr rfl) (hP1 9 (by decide)))) (fun PV1 hP1 s1 H1 C1 cl1 fp1 => pts_nil) (fun PV1 hP1 s1 H1 C1 cl1 fp1 => (w_tup (wa_cons (w_var (pv 9)) (wa_cons (w_frz (w_call (ok__law_distances T) (hr.mono (by decide)) rfl T.g__law_distances T.F__law_distances.kp (bd__law_distances T) takes0 (wA_v (w_var (pv 2)) (wA_v (w_var (pv 9)) wA_nil)))) wa_nil))))) wa_nil)) sc__law_right.nd rfl (by first | exact .inl rfl | exact .inr rfl) rfl)
    (ws_cons (w_set (i := 4) (w_call (ok__law_random_state T) (hr.mono (by decide)) rfl T.g__law_random_state T.F__law_random_state.kp (bd__law_random_state T) (takes_of rfl rfl rfl rfl) (wA_s (pv 0) (wA_v (w_var (pv 2)) wA_nil))) sc__law_right.nd rfl (by first | exact .inl rfl | exact .inr rfl) rfl)
    (ws_one (w_for (passes_of rfl) rfl (wi_seq rfl (w_tup (wa_cons (w_call (ok__law_random_state T) (hr.mono (by decide)) rfl T.g__law_random_state T.F__law_random_state.kp (bd__law_random_state T) (takes_of rfl rfl rfl rfl) (wA_s (pv 0) (wA_v (w_var (pv 2)) wA_nil))) (wa_cons (w_ix rfl (w_call (ok__law_random_jumps T) (hr.mono (by decide)) rfl T.g__law_random_jumps T.F__law_random_jumps.kp (bd__law_random_jumps T) (takes_of rfl rfl rfl rfl) (wA_s (pv 0) (wA_v (w_var (pv 2)) (wA_v (w_var (pv 4)) (wA_v w_int wA_nil))))) w_int) (wa_cons (w_var (pv 4)) wa_nil))))) (wg_name (i := 5) sc__law_right.nd rfl (by first | exact .inl rfl | exact .inr rfl) rfl)
    (ws_cons (w_setLcKG rfl sc__law_right.nd (i := 6) rfl rfl rfl (sw_true rfl rfl rfl rfl) rfl (pv 3) (by decide) (ow := [("_law_now", 9)]) (blkOk_by (by rfl)) (by decide) (fun PV1 hP1 s1 H1 C1 cl1 fp1 => (wg_name (i := 9) sc__law_right.nd rfl (by first | exact .inl rfl | exact .inr rfl) (hP1 9 (by decide)))) (fun PV1 hP1 dd1 oo1 L1 vs1 hv1 pd1 s1 H1 C1 cl1 fp1 => (wt_w (ww_and (wt_dinE (hu1 hr) (w_hgetG hv1 (hu1 hr) (pv 3) pd1 (w_var (pv 9))) (w_var (pv 4))) (ww_and1 (wt_dinE (hu1 hr) (w_hgetG hv1 (hu1 hr) (pv 3) pd1 (w_var (pv 9))) (w_var (pv 5))))))) (fun PV1 hP1 dd1 oo1 L1 vs1 hv1 pd1 s1 H1 C1 cl1 fp1 => (w_var (pv 9))))
    (ws_cons (w_set (i := 7) (w_call (ok_meet T) (hr.mono (by decide)) rfl T.g_meet T.F_meet.kp (bd_meet T) (takes_of rfl rfl rfl rfl) (wA_v (w_var (pv 2)) (wA_v (w_var (pv 4)) (wA_v (w_var (pv 5)) wA_nil)))) sc__law_right.nd rfl (by first | exact .inl rfl | exact .inr rfl) rfl)
    (ws_cons (w_set (i := 8) (w_lst (wa_cons (w_call (ok_meet T) (hr.mono (by decide)) rfl T.g_meet T.F_meet.kp (bd_meet T) (takes_of rfl rfl rfl rfl) (wA_v (w_var (pv 2)) (wA_v (w_var (pv 5)) (wA_v (w_var (pv 4)) wA_nil)))) wa_nil)) sc__law_right.nd rfl (by first | exact .inl rfl | exact .inr rfl) rfl)
    (ws_cons (w_expr (w_app (pe_bm PySem.F.plainAttrs_list PySem.F.slot_list_append PySem.F.type_list_append mt_append (pv 8) (pa_cons (w_callK0 (n := 3) (dd := []) (ok_meet T) (hr.mono (by decide)) (by rfl) T.g_meet T.F_meet.kp (kb_meet_0_second_first_well T) ⟨by decide, rfl, by decide⟩ .nil (by rfl) (fun _ _ j => j) (takes_of rfl rfl rfl rfl) (wk_v (w_frz (w_callTy call_list_of c_list rfl T.n_list bt_list (wa_cons (w_var (pv 5)) wa_nil))) (wk_v (w_frz (w_callTy call_list_of c_list rfl T.n_list bt_list (wa_cons (w_var (pv 4)) wa_nil))) (wk_v (w_frz (w_call (ok__law_as_lists T) (hr.mono (by decide)) rfl T.g__law_as_lists T.F__law_as_lists.kp (bd__law_as_lists T) (takes_of rfl rfl rfl rfl) (wA_v (w_var (pv 2)) wA_nil))) wk_nil)))) pa_nil))))
    (ws_cons (w_if (wt_w (ww_or (wt_not (wt_val (w_call (ok__law_same T) (hr.mono (by decide)) rfl T.g__law_same T.F__law_same.kp (bd__law_same T) (takes_of rfl rfl rfl rfl) (wA_s (pv 8) (wA_v (w_frz (w_lst (wa_cons (w_var (pv 7)) (wa_cons (w_var (pv 7)) wa_nil)))) wA_nil))))) (ww_or1 (wt_cmpR (op_neD hr.units) s_ne (wr_v (w_cmpR op_isN s_is (wr_s (pv 7)) (wr_v w_non))) (wr_v (w_cmpR (op_eqD hr.units) s_eq (wr_s (pv 6)) (wr_v (w_lst wa_nil)))))))) (ws_one (w_ret w_bl)) ws_nil)
    (ws_cons (w_if (wt_cmpR (op_neD hr.units) s_ne (wr_v (w_call (ok_are_compatible T) (hr.mono (by decide)) rfl T.g_are_compatible T.F_are_compatible.kp (bd_are_compatible T) (takes_of rfl rfl rfl rfl) (wA_v (w_var (pv 2)) (wA_v (w_var (pv 4)) (wA_v (w_var (pv 5)) wA_nil))))) (wr_v (w_cmpR (op_neD hr.units) s_ne (wr_s (pv 6)) (wr_v (w_lst wa_nil))))) (ws_one (w_ret w_bl)) ws_nil)
    (ws_cons (w_if (wt_w (ww_and (wt_cmpR op_notN s_isNot (wr_s (pv 7)) (wr_v w_non)) (ww_and1 (wt_not (wt_val (w_roB call_isiA c_isi rfl T.n_isinstance bb_isinstance (wA_s (pv 7) (wA_v (w_ty rfl T.n_tuple bt_tuple) wA_nil)))))))) (ws_one (w_ret w_bl)) ws_nil)
    (ws_cons (w_if (wt_w (ww_and (wt_cmpR op_notN s_isNot (wr_s (pv 7)) (wr_v w_non)) (ww_and1 (wt_cmpR (op_notInD (hu65 hr)) s_notIn (wr_s (pv 7)) (wr_s (pv 6)))))) (ws_one (w_ret w_bl)) ws_nil)
    (ws_one (w_if (wt_w (ww_and (wt_cmpR op_notN s_isNot (wr_s (pv 7)) (wr_v w_non)) (ww_and1 (wt_not (wt_val (w_roB (cr_all rfl) c_all rfl T.n_all bb_all (wA_v (w_lc rfl sc__law_right.nd (wi_seqS rfl (pv 6)) (ow := [("_law_now", 9)]) (blkOk_by (by rfl)) (by decide) (fun PV1 hP1 s1 H1 C1 cl1 fp1 => (wg_name (i := 9) sc__law_right.nd rfl (by first | exact .inl rfl | exact .inr rfl) (hP1 9 (by decide)))) (fun PV1 hP1 s1 H1 C1 cl1 fp1 => pts_nil) (fun PV1 hP1 s1 H1 C1 cl1 fp1 => (w_dinE (hu1 hr) (w_dget (hu1 hr) (pv 3) (w_var (pv 9))) (w_var (pv 7))))) wA_nil))))))) (ws_one (w_ret w_bl)) ws_nil))))))))))))))))
    (ws_one (w_ret w_bl)))
theorem sc__law_stream : FnScope ["_law_script", "_law_k", "_law_cell"] ["_law_script", "_law_k"] (defScope (top 12)) := ⟨rfl, rfl, rfl, by decide +kernel, rfl, by decide +kernel, by decide +kernel⟩
theorem bd__law_stream (T : Tx K mg fa fdd) : Binds K (fdd 12) ["_law_script", "_law_k"] [] := T.F__law_stream.bindsN fun _ _ _ _ _ _ us hl => match us, hl with | [_, _], _ => rfl
theorem ok__law_stream (T : Tx K mg fa fdd) : FnOk P w K mg base (L2.CX P w) 1 (fa 12) (fdd 12) ["_law_script", "_law_k"] (spOf K 2 m__law_stream) :=
  def_okD (N := ["_law_script", "_law_k", "_law_cell"]) (mask := [true, true]) (fb := b__law_stream) T.F__law_stream sc__law_stream rfl (by decide) fun cdv A outer s H vs rs E hr hl => match vs, hl with
    | [v0, v1], _ => (ws_cons (w_set (i := 2) (w_ifE (wt_cmpR (op_ltA hr.units0) s_lt (wr_s (pv 1)) (wr_v (w_roB call_len_seq c_len rfl T.n_len bb_len (wA_s (pv 0) wA_nil)))) (w_ixS rfl (pv 0) (w_var (pv 1))) w_int) sc__law_stream.nd rfl (by first | exact .inl rfl | exact .inr rfl) rfl)
    (ws_one (w_ret (w_lst (wa_cons (w_bin op_mulB s_mulB (w_roB call_abs c_abs rfl T.n_abs bb_abs (wA_s (pv 2) wA_nil)) (w_roTy call_int1 c_int rfl T.n_int bt_int (wA_v (w_cmpR op_ge s_ge (wr_v (w_roB call_abs c_abs rfl T.n_abs bb_abs (wA_s (pv 2) wA_nil))) (wr_v (w_bin op_pow s_pow w_int w_int))) wA_nil))) (wa_cons (w_bin op_mod s_mod (w_bin op_mulB s_mulB (w_bin op_addA s_add (w_bin op_addA s_add (w_bin op_mod s_mod (w_var (pv 2)) w_int) (w_bin op_mulB s_mulB w_int (w_var (pv 1)))) w_int) w_int) w_int) (wa_cons w_int wa_nil)))))))
theorem sc_law : FnScope ["_law_script", "_law_cells", "_law_k"] ["_law_script"] (defScope (top 28)) := ⟨rfl, rfl, rfl, by decide +kernel, rfl, by decide +kernel, by decide +kernel⟩
theorem bd_law (T : Tx K mg fa fdd) : Binds K (fdd 28) ["_law_script"] [] := T.F_law.bindsN fun _ _ _ _ _ _ us hl => match us, hl with | [_], _ => rfl
theorem ok_law (T : Tx K mg fa fdd) : FnOk P w K mg base (L2.CX P w) 16 (fa 28) (fdd 28) ["_law_script"] (spOf K 1 m_law_v52) :=
  def_okD (N := ["_law_script", "_law_cells", "_law_k"]) (mask := [true]) (fb := b_law_v52) T.F_law sc_law rfl (by decide) fun cdv A outer s H vs rs E hr hl => match vs, hl with
    | [v0], _ => (ws_cons (w_set (i := 1) (w_call (ok__law_fold T) (hr.mono (by decide)) rfl T.g__law_fold T.F__law_fold.kp (bd__law_fold T) (takes_of rfl rfl rfl rfl) (wA_v (w_var (pv 0)) (wA_v w_int wA_nil))) sc_law.nd rfl (by first | exact .inl rfl | exact .inr rfl) rfl)
    (ws_one (w_ret (w_roB (cr_all rfl) c_all rfl T.n_all bb_all (wA_v (w_lc rfl sc_law.nd (wi_rng1 rfl T.n_range (w_roB (call_max2 rfl) c_max2 rfl T.n_max bb_max (wA_v w_int (wA_v (w_roB call_len_seq c_len rfl T.n_len bb_len (wA_s (pv 1) wA_nil)) wA_nil)))) (ow := [("_law_k", 2)]) (blkOk_by (by rfl)) (by decide) (fun PV1 hP1 s1 H1 C1 cl1 fp1 => (wg_name (i := 2) sc_law.nd rfl (by first | exact .inl rfl | exact .inr rfl) (hP1 2 (by decide)))) (fun PV1 hP1 s1 H1 C1 cl1 fp1 => pts_nil) (fun PV1 hP1 s1 H1 C1 cl1 fp1 => (w_call (ok__law_right T) (hr.mono (by decide)) rfl T.g__law_right T.F__law_right.kp (bd__law_right T) takes0 (wA_v (w_call (ok__law_stream T) (hr.mono (by decide)) rfl T.g__law_stream T.F__law_stream.kp (bd__law_stream T) takes0 (wA_v (w_var (pv 1)) (wA_v (w_var (pv 2)) wA_nil))) wA_nil)))) wA_nil)))))
end Wk12
namespace WC
open WF PySem L2
abbrev rngE (a b c : Int) : D := .lst true [.int a, .int b, .int c]
theorem pow_split {n : Nat} {s : Int} (h : s ≤ 10 ^ (7 * (n + 1))) : (s - 1) / 10000000 + 1 ≤ 10 ^ (7 * n) := by
  have e : (10 : Int) ^ (7 * (n + 1)) = 10 ^ (7 * n) * 10000000 := by rw [Nat.mul_add, Int.pow_add]; rfl
  rw [e] at h
  generalize (10 : Int) ^ (7 * n) = p at *
  omega
theorem pow_ge {n : Nat} (h : 1 ≤ n) : (10000000 : Int) ≤ 10 ^ (7 * n) := by
  obtain ⟨m, rfl⟩ : ∃ m, n = m + 1 := ⟨n - 1, by omega⟩
  have e : (10 : Int) ^ (7 * (m + 1)) = 10 ^ (7 * m) * 10000000 := by rw [Nat.mul_add, Int.pow_add]; rfl
  have p : (0 : Int) < 10 ^ (7 * m) := Int.pow_pos (by decide)
  omega
theorem draw_n {Q : D → List D → Prop} : ∀ (n : Nat) {span a b c : Int}, 0 ≤ a → 0 ≤ b → b < 2 ^ 31 → 0 ≤ c → c + 2 ^ n ≤ 2 ^ 40 → 1 ≤ span → span ≤ 10 ^ (7 * n) → span < 2 ^ 64 → 1 ≤ n →
    (∀ v a' c', 0 ≤ v → v < span → 0 ≤ a' → c ≤ c' → c' ≤ c + 2 ^ n → Q (.int v) [rngE a' b c', .int span]) → wF (m__law_draw n) [rngE a b c, .int span] Q
  | 0, span, a, b, c, ha, hb, hb2, hc, hcn, h1, h2, h3, hn, q => by omega
  | n + 1, span, a, b, c, ha, hb, hb2, hc, hcn, h1, h2, h3, hn, q => by
    have e2 : (2 : Int) ^ (n + 1) = 2 * 2 ^ n := by rw [Int.pow_succ]; omega
    have p2 : (0 : Int) < 2 ^ n := Int.pow_pos (by decide)
    rw [m__law_draw, wF_def]
    simp [b__law_draw]
    split
    · exact ⟨⟨by omega, by omega⟩, q _ _ _ (Int.emod_nonneg _ (by omega)) (Int.emod_lt_of_pos _ (by omega)) (Int.ediv_nonneg ha (by omega)) (by omega) (by omega)⟩
    · split
      · have hn1 : 1 ≤ n := by
          rcases Nat.eq_zero_or_pos n with e | e
          · subst e; simp at h2; omega
          · exact e
        refine draw_n n ha hb hb2 hc (by omega) (by omega) (pow_ge hn1) (by decide) hn1 fun v a' c' v0 v1 a0 c0 c1 => ?_
        simp
        refine draw_n n a0 hb hb2 (by omega) (by omega) (by omega) (pow_split h2) (by omega) hn1 fun v' a'' c'' v0' v1' a0' c0' c1' => ?_
        simp
        exact ⟨by omega, q _ _ _ (Int.emod_nonneg _ (by omega)) (Int.emod_lt_of_pos _ (by omega)) a0' (by omega) (by omega)⟩
      · exact ⟨by omega, .inl (by omega), .inl (by omega), .inl (by omega), by omega, q _ _ _ (Int.emod_nonneg _ (by omega)) (Int.emod_lt_of_pos _ (by omega)) ha (by omega) (by omega)⟩
structure Rg (k : Nat) (a b c : Int) : Prop where
  a0 : 0 ≤ a
  b0 : 0 ≤ b
  b1 : b < 2 ^ 31
  c0 : 0 ≤ c
  c1 : c ≤ 4096 * k
theorem Rg.mono {k k' : Nat} {a b c : Int} (r : Rg k a b c) (h : k ≤ k') : Rg k' a b c := ⟨r.a0, r.b0, r.b1, r.c0, by have := r.c1; omega⟩
theorem draw_sp {Q : D → List D → Prop} {k : Nat} {span a b c : Int} (r : Rg k a b c) (hk : k ≤ 200000000) (h1 : 1 ≤ span) (h3 : span < 2 ^ 64)
    (q : ∀ v a' c', 0 ≤ v → v < span → Rg (k + 1) a' b c' → Q (.int v) [rngE a' b c', .int span]) : wF (m__law_draw 12) [rngE a b c, .int span] Q := by
  have hc := r.c1
  refine draw_n 12 r.a0 r.b0 r.b1 r.c0 (by omega) h1 (by omega) h3 (by omega) fun v a' c' v0 v1 a0 c0 c1 => q v a' c' v0 v1 ⟨a0, r.b0, r.b1, by have := r.c0; omega, by omega⟩
end WC
namespace WC
open WF PySem L2
theorem atI_mem {α : Type} {xs : List α} {v : Int} (h0 : 0 ≤ v) (h1 : v < xs.length) : ∃ x ∈ xs, atI xs v = some x := by
  obtain ⟨k, rfl⟩ := Int.eq_ofNat_of_zero_le h0
  rw [WF.atI_nat]
  have hk : k < xs.length := by omega
  exact ⟨xs[k], List.getElem_mem hk, List.getElem?_eq_getElem hk⟩
theorem atI_map {α β : Type} {f : α → β} {xs : List α} {v : Int} : atI (xs.map f) v = (atI xs v).map f := by
  unfold atI
  rw [List.length_map]
  cases ixN xs.length v <;> simp
theorem pick_sp {Q : D → List D → Prop} {k : Nat} {ns : List Int} {o : Bool} {a b c : Int} (r : Rg k a b c) (hk : k ≤ 200000000) (h1 : ns ≠ []) (h3 : ns.length < 1000000)
    (q : ∀ v a' c', v ∈ ns → Rg (k + 1) a' b c' → Q (.int v) [rngE a' b c', .lst o (ns.map .int)]) : wF m__law_pick [rngE a b c, .lst o (ns.map .int)] Q := by
  have hl : 0 < ns.length := List.length_pos_iff.mpr h1
  rw [m__law_pick, wF_def]
  simp [b__law_pick]
  refine draw_sp r hk (by omega) (by omega) fun v a' c' v0 v1 r' => ?_
  obtain ⟨x, hx, e⟩ := atI_mem v0 v1
  cases o <;> simp [atI_map, e] <;> exact q _ _ _ hx r'
theorem mod_rg {x : Int} : 0 ≤ x % 2147483647 ∧ x % 2147483647 < 2 ^ 31 := ⟨by omega, by omega⟩
theorem stream_sp {Q : D → List D → Prop} {ns : List Int} {o : Bool} {i : Int} (h0 : 0 ≤ i)
    (q : ∀ a b, Rg 0 a b 0 → Q (rngE a b 0) [.lst o (ns.map .int), .int i]) : wF m__law_stream [.lst o (ns.map .int), .int i] Q := by
  have fin : ∀ x : Int, ((if x < 0 then -x else x).natAbs < 18446744073709551616 ∨
      (if 1000000000000000000 ≤ if x < 0 then -x else x then (1 : Int) else 0).natAbs < 18446744073709551616) ∧
    Q
      (D.lst true
        [D.int ((if x < 0 then -x else x) * if 1000000000000000000 ≤ if x < 0 then -x else x then 1 else 0),
          D.int ((x % 2147483629 + 32452843 * i + 61) * 48271 % 2147483647), D.int 0])
      [D.lst o (List.map D.int ns), D.int i] := fun x => by
    refine ⟨.inr ?_, q _ _ ⟨?_, mod_rg.1, mod_rg.2, by omega, by omega⟩⟩
    · split <;> omega
    · refine Int.mul_nonneg ?_ ?_
      · split <;> omega
      · split <;> omega
  rw [m__law_stream, wF_def]
  simp [b__law_stream]
  by_cases h : i < (ns.length : Int)
  · obtain ⟨x, hx, e⟩ := atI_mem h0 h
    cases o
    · simp [h, atI_map, e]
      exact fin x
    · simp [h, atI_map, e]
      exact fin x
  · simp [h]
    exact q _ _ ⟨by omega, mod_rg.1, mod_rg.2, by omega, by omega⟩
def cutG {α : Type} (xs : List α) (lo hi : Option Int) : List α := (xs.drop (HT.sIx xs.length 0 lo)).take (HT.sIx xs.length xs.length hi - HT.sIx xs.length 0 lo)
theorem cutD_map {α : Type} {f : α → D} {xs : List α} {lo hi : Option Int} : cutD (xs.map f) lo hi = (cutG xs lo hi).map f := by
  simp [cutD, cutG, List.map_take, List.map_drop]
theorem enumD_one {xs : List D} : enumD [xs] = some (xs.zipIdx.map fun p => .tup [.int (p.2 : Nat), p.1]) := rfl
theorem fold_sp {Q : D → List D → Prop} {ns : List Int} {m : Int} (h0 : 1 ≤ m) (h1 : m ≤ 60)
    (q : ∀ cs : List Int, cs.length ≤ m → Q (.lst true (cs.map .int)) [.scr ns, .int m]) : wF m__law_fold [.scr ns, .int m] Q := by
  rw [m__law_fold, wF_def]
  simp [b__law_fold, cutD_map, enumD_one]
  have l0 : (cutG ns none (some m)).length = min m.toNat ns.length := by
    simp [cutG, HT.sIx]
    rw [if_neg (by omega)]
    omega
  have l1 : (cutG ns (some m) (some 63)).length ≤ 63 := by
    simp [cutG, HT.sIx]
    omega
  have l2 : cutG ns (some m) (some 63) ≠ [] → m.toNat ≤ ns.length := fun h => by
    have := List.length_pos_iff.mpr h
    simp [cutG, HT.sIx] at this
    rw [if_neg (by omega)] at this
    omega
  refine loop_ind (fun ds S => ∃ (cs : List Int) (x y : D), S = [.scr ns, .int m, .lst true (cs.map .int), x, y] ∧ cs.length ≤ m ∧ (ds ≠ [] → (cs.length : Int) = m) ∧ ∀ d ∈ ds, ∃ (i : Nat), i < 1000 ∧ ∃ (v : Int), d = .tup [.int i, .int v]) ?_ ?_ ?_
  · rintro d ds S ⟨cs, x, y, rfl, c1, c2, c3⟩
    obtain ⟨i, hi, v, rfl⟩ := c3 d List.mem_cons_self
    have cl := c2 (by simp)
    have hm0 : 0 ≤ (i : Int) % m := Int.emod_nonneg _ (by omega)
    have hm1 : (i : Int) % m < cs.length := by rw [cl]; exact Int.emod_lt_of_pos _ (by omega)
    obtain ⟨z, hz, e⟩ := atI_mem hm0 hm1
    obtain ⟨j, hj⟩ : ∃ j, ixN cs.length ((i : Int) % m) = some j := by
      unfold atI at e
      cases h : ixN cs.length ((i : Int) % m) with
      | none => rw [h] at e; cases e
      | some j => exact ⟨j, rfl⟩
    simp [atI_map, e, hj]
    refine ⟨by omega, .inr (by omega), by omega, cs.set j (z + v * (↑i + 2)), ?_, by simpa using c1, fun _ => by simpa using cl, fun d hd => c3 d (List.mem_cons_of_mem _ hd)⟩
    simp [List.map_set]
  · rintro S ⟨cs, x, y, rfl, c1, c2, c3⟩
    simp
    exact q cs c1
  · refine ⟨_, _, _, rfl, by rw [l0]; omega, fun h => ?_, fun d hd => ?_⟩
    · rw [l0]
      have := l2 (fun z => h (by simp [z]))
      omega
    · simp only [List.mem_map, Prod.exists] at hd
      obtain ⟨x, i, hx, rfl⟩ := hd
      have h2 := List.mem_zipIdx hx
      simp at h2
      refine ⟨i, by omega, ?_⟩
      obtain ⟨h3, h4⟩ := h2
      rw [h4]
      exact ⟨_, rfl⟩
end WC
namespace WC
open WF PySem
open L2 (atI ixN)
@[simp] theorem frzs_intf {α : Type} {l : List α} {f : α → Int} : D.frzs (l.map fun x => .int (f x)) = l.map fun x => .int (f x) := frzs_id fun _ => rfl
abbrev wellD (lim : Int) (gs : List (Int × Int)) : D := .tup [.int lim, .tup (gs.map prD)]
def Rise (m : Int) : Int → List (Int × Int) → Prop
  | _, [] => True
  | w, p :: r => w < p.1 ∧ 1 ≤ p.2 ∧ p.2 ≤ m ∧ Rise m p.1 r
def lastW : Int → List (Int × Int) → Int
  | w, [] => w
  | _, p :: r => lastW p.1 r
theorem Rise.snoc {m : Int} {p : Int × Int} : ∀ {gs : List (Int × Int)} {w : Int}, Rise m w gs → lastW w gs < p.1 → 1 ≤ p.2 → p.2 ≤ m → Rise m w (gs ++ [p])
  | [], w, h, h1, h2, h3 => ⟨h1, h2, h3, trivial⟩
  | q :: r, w, h, h1, h2, h3 => ⟨h.1, h.2.1, h.2.2.1, Rise.snoc h.2.2.2 h1 h2 h3⟩
theorem lastW_snoc {p : Int × Int} : ∀ {gs : List (Int × Int)} {w : Int}, lastW w (gs ++ [p]) = p.1
  | [], w => rfl
  | q :: r, w => lastW_snoc (gs := r)
theorem Rise.last {m : Int} : ∀ {gs : List (Int × Int)} {w : Int}, Rise m w gs → gs ≠ [] → w < lastW w gs
  | [p], w, h, _ => h.1
  | p :: q :: r, w, h, _ => Int.lt_trans h.1 (Rise.last (gs := q :: r) h.2.2.2 (by simp))
theorem comp_map0 {α : Type} {own : List Nat} {g : GM} {fe : EM} {S : S0} {Q : List D → S0 → Prop} {enc φ : α → D} (xs : List α) {acc : List D} (h : ∀ x ∈ xs, wG g (enc x) S fun S1 => wE fe S1 fun y S2 => y = φ x ∧ wipeS S2 own = S) (hl : acc.length + xs.length ≤ 1000000)
    (q : Q (acc ++ xs.map φ) S) : wC own g none fe (xs.map enc) S acc Q := by
  refine comp_ind0 (fun ds acc' T => T = S ∧ ∃ ys zs, xs = ys ++ zs ∧ ds = zs.map enc ∧ acc' = acc ++ ys.map φ) ?_ ?_ ⟨rfl, [], xs, rfl, rfl, by simp⟩
  · rintro d ds acc' T ⟨rfl, ys, zs, rfl, e, rfl⟩
    cases zs with
    | nil => simp at e
    | cons z zs =>
      simp only [List.map_cons, List.cons.injEq] at e
      obtain ⟨rfl, rfl⟩ := e
      refine (h z (by simp)).mono fun S1 q => q.mono fun y S2 ⟨e1, e2⟩ => ⟨?_, e2, ys ++ [z], zs, by simp, rfl, by simp [e1]⟩
      simp at hl ⊢
      omega
  · rintro acc' T ⟨rfl, ys, zs, rfl, e, rfl⟩
    cases zs with
    | nil => simpa using q
    | cons z zs => simp at e
theorem comp_map1 {α : Type} {own : List Nat} {g : GM} {f fe : EM} {S : S0} {Q : List D → S0 → Prop} {enc φ : α → D} {t : α → Bool} (xs : List α) {acc : List D} (h : ∀ x ∈ xs, wG g (enc x) S fun S1 => wE f S1 fun b S2 => b = .bl (t x) ∧ if t x = true then (wE fe S2 fun y S3 => y = φ x ∧ wipeS S3 own = S) else wipeS S2 own = S) (hl : acc.length + xs.length ≤ 1000000)
    (q : Q (acc ++ (xs.filter t).map φ) S) : wC own g (some f) fe (xs.map enc) S acc Q := by
  refine comp_ind1 (fun ds acc' T => T = S ∧ ∃ ys zs, xs = ys ++ zs ∧ ds = zs.map enc ∧ acc' = acc ++ (ys.filter t).map φ) ?_ ?_ ⟨rfl, [], xs, rfl, rfl, by simp⟩
  · rintro d ds acc' T ⟨rfl, ys, zs, rfl, e, rfl⟩
    cases zs with
    | nil => simp at e
    | cons z zs =>
      simp only [List.map_cons, List.cons.injEq] at e
      obtain ⟨rfl, rfl⟩ := e
      refine (h z (by simp)).mono fun S1 q => q.mono fun b S2 ⟨e1, e2⟩ => ?_
      subst e1
      simp only [asB, WF0.asB_bl, rd_some]
      have fl := List.length_filter_le t ys
      by_cases ht : t z = true
      · rw [if_pos ht] at e2 ⊢
        refine e2.mono fun y S3 ⟨e3, e4⟩ => ⟨?_, e4, ys ++ [z], zs, by simp, rfl, by simp [e3, ht]⟩
        simp at hl ⊢
        omega
      · rw [if_neg ht] at e2 ⊢
        exact ⟨e2, ys ++ [z], zs, by simp, rfl, by simp [ht]⟩
  · rintro acc' T ⟨rfl, ys, zs, rfl, e, rfl⟩
    cases zs with
    | nil => simpa using q
    | cons z zs => simp at e
def gapsL : Int → List (Int × Int) → List Int
  | _, [] => []
  | w, p :: r => (p.1 - w) :: gapsL p.1 r
theorem gapsL_len : ∀ {w : Int} {gs : List (Int × Int)}, (gapsL w gs).length = gs.length
  | _, [] => rfl
  | _, p :: r => by simp [gapsL, gapsL_len (gs := r)]
theorem gapsL_pos {m : Int} : ∀ {w : Int} {gs : List (Int × Int)}, Rise m w gs → ∀ x ∈ gapsL w gs, 1 ≤ x
  | _, [], _, x, h => by simp [gapsL] at h
  | w, p :: r, h, x, hx => by
    simp only [gapsL, List.mem_cons] at hx
    rcases hx with rfl | hx
    · have := h.1; omega
    · exact gapsL_pos h.2.2.2 x hx
theorem gaps_zip : ∀ {w : Int} {gs : List (Int × Int)}, List.zipWith (fun x y => D.tup [x, y]) (gs.map prD) (D.int w :: gs.map fun p => D.int p.1) = (gs.zip (w :: gs.map Prod.fst)).map fun z => D.tup [prD z.1, .int z.2]
  | _, [] => rfl
  | w, p :: r => by
    simp only [List.map_cons, List.zipWith_cons_cons, List.zip_cons_cons]
    rw [gaps_zip (w := p.1) (gs := r)]
theorem gaps_map : ∀ {w : Int} {gs : List (Int × Int)}, (gs.zip (w :: gs.map Prod.fst)).map (fun z => D.int (z.1.1 - z.2)) = (gapsL w gs).map D.int
  | _, [] => rfl
  | w, p :: r => by simp [gapsL, gaps_map (w := p.1) (gs := r)]
theorem maxI_mem : ∀ {ns : List Int} {n : Int}, maxI (n :: ns) ∈ n :: ns
  | [], n => by simp [maxI]
  | m :: ns, n => by
    have h := maxI_mem (ns := ns) (n := m)
    simp only [maxI]
    by_cases c : n ≤ maxI (m :: ns)
    · rw [Int.max_eq_right c]; exact List.mem_cons_of_mem _ h
    · rw [Int.max_eq_left (by omega)]; exact List.mem_cons_self
theorem maxI_mem' {ns : List Int} (h : ns ≠ []) : maxI ns ∈ ns := by
  cases ns with
  | nil => exact absurd rfl h
  | cons n ns => exact maxI_mem
theorem maxD1_lst {o : Bool} {ns : List Int} (h : ns ≠ []) : maxD1 [.lst o (ns.map .int)] = some (.int (maxI ns)) := by
  cases ns with
  | nil => exact absurd rfl h
  | cons n ns => simp [maxD1]
def RwI (b len crowd g v : Int) (k : Nat) (ds : List D) (S : S0) : Prop := ∃ (kk : Nat) (gs : List (Int × Int)) (a c : Int) (x : D), S = [rngE a b c, .int len, .int crowd, .int g, .lst true (gs.map prD), .int (lastW 0 gs), x, .un, .un, .un, .un] ∧ Rg kk a b c ∧ kk + 3 * ds.length ≤ k + 3010 ∧ Rise crowd 0 gs ∧ 0 ≤ lastW 0 gs ∧ lastW 0 gs ≤ 10000000000 * gs.length ∧ gs.length + ds.length = 1 + v
theorem Rise.lastGe {m : Int} : ∀ {gs : List (Int × Int)} {w : Int}, Rise m w gs → w ≤ lastW w gs
  | [], _, _ => Int.le_refl _
  | p :: r, w, h => Int.le_trans (Int.le_of_lt h.1) (Rise.lastGe (gs := r) h.2.2.2)
theorem gapsL_le {m : Int} : ∀ {w : Int} {gs : List (Int × Int)}, Rise m w gs → ∀ x ∈ gapsL w gs, x ≤ lastW w gs - w
  | _, [], _, x, h => by simp [gapsL] at h
  | w, p :: r, h, x, hx => by
    simp only [gapsL, List.mem_cons] at hx
    have g1 := Rise.lastGe h.2.2.2
    have g0 := h.1
    show x ≤ lastW p.1 r - w
    rcases hx with rfl | hx
    · omega
    · have := gapsL_le h.2.2.2 x hx; omega
theorem random_well_spC {Q : D → List D → Prop} {k : Nat} {len crowd : Int} {a b c : Int} (r : Rg k a b c) (hk : k ≤ 100000000) (h1 : 1 ≤ len) (h2 : len ≤ 1000) (h3 : 1 ≤ crowd) (h4 : crowd < 2 ^ 62)
    (q : ∀ lim gs a' c', 1 ≤ lim → gs ≠ [] → (gs.length : Int) ≤ len → Rise crowd 0 gs → lastW 0 gs ≤ 10000000000 * gs.length → lim ≤ 2 * lastW 0 gs → Rg (k + 5000) a' b c' → Q (wellD lim gs) [rngE a' b c', .int len, .int crowd]) : wF m__law_random_well [rngE a b c, .int len, .int crowd] Q := by
  rw [m__law_random_well, wF_def]
  simp [b__law_random_well]
  refine pick_sp (ns := [2, 4, 9, 10000000000]) r (by omega) (by simp) (by simp) fun g a c hg r => ?_
  simp
  have hg1 : 2 ≤ g ∧ g ≤ 10000000000 := by simp at hg; omega
  refine draw_sp r (by omega) h1 (by omega) fun v a c v0 v1 r => ?_
  simp
  refine ⟨by omega, ?_⟩
  refine loop_ind (RwI b len crowd g v k) ?_ ?_ ?_
  · rintro d ds S ⟨kk, gs, a, c, x, rfl, r, hkk, hr, hw0, hw1, hlen⟩
    simp only [List.length_cons] at hkk hlen
    simp
    refine draw_sp r (by omega) (by omega) (by omega) fun u a c u0 u1 r => ?_
    simp
    refine draw_sp r (by omega) h3 (by omega) fun t a c t0 t1 r => ?_
    simp
    refine pick_sp (ns := [1, 1, 1 + t]) r (by omega) (by simp) (by simp) fun y a c hy r => ?_
    have hy1 : 1 ≤ y ∧ y ≤ crowd := by simp at hy; omega
    simp
    refine ⟨by omega, kk + 3, gs ++ [(lastW 0 gs + 1 + u, y)], a, c, d, ?_, r, by omega, hr.snoc (by show lastW 0 gs < lastW 0 gs + 1 + u; omega) hy1.1 hy1.2, ?_, ?_, ?_⟩
    · rw [lastW_snoc, List.map_append]; rfl
    · rw [lastW_snoc]; show 0 ≤ lastW 0 gs + 1 + u; omega
    · rw [lastW_snoc, List.length_append]; show lastW 0 gs + 1 + u ≤ _; simp; omega
    · rw [List.length_append]; simp; omega
  · rintro S ⟨kk, gs, a, c, x, rfl, r, hkk, hr, hw0, hw1, hlen⟩
    have gne : gs ≠ [] := fun e => by subst e; simp at hlen; omega
    have gl : (gs.length : Int) ≤ len := by simp at hlen; omega
    have hgp := gapsL_pos hr
    have gpe : gapsL 0 gs ≠ [] := fun e => by
      have := gapsL_len (w := 0) (gs := gs)
      rw [e] at this
      exact gne (List.length_eq_zero_iff.mp this.symm)
    have hmx := hgp _ (maxI_mem' gpe)
    simp at hkk
    simp
    refine comp_map0 (enc := prD) (φ := fun p => .int p.1) gs (fun x _ => by simp [prD]) (by simp; omega) ?_
    simp
    refine ⟨by omega, ?_⟩
    rw [gaps_zip]
    refine comp_map0 (enc := fun z : (Int × Int) × Int => D.tup [prD z.1, .int z.2]) (φ := fun z => .int (z.1.1 - z.2)) _ (fun x _ => by simp [prD]) (by simp; omega) ?_
    rw [List.nil_append, gaps_map]
    simp [maxD1_lst gpe]
    refine pick_sp r (by omega) gpe (by rw [gapsL_len]; omega) fun y a c hy r => ?_
    simp
    have hlw : 1 ≤ lastW 0 gs := by have := hr.last gne; omega
    refine draw_sp r (by omega) hlw (by omega) fun z a c z0 z1 r => ?_
    simp [maxD1_lst gpe]
    refine pick_sp (ns := [maxI (gapsL 0 gs), maxI (gapsL 0 gs), y, 1 + z, 2 * maxI (gapsL 0 gs), lastW 0 gs]) r (by omega) (by simp) (by simp) fun lim a c hl r => ?_
    simp
    have hy1 := hgp y hy
    have hy2 := gapsL_le hr y hy
    have hm2 := gapsL_le hr _ (maxI_mem' gpe)
    refine q lim gs a c ?_ gne gl hr hw1 ?_ (r.mono (by omega)) <;> simp at hl <;> omega
  · exact ⟨k + 2, [], a, c, .un, by simp [lastW], r, by simp [rngD]; omega, trivial, by simp [lastW], by simp [lastW], by simp [rngD]; omega⟩
theorem random_well_spB {Q : D → List D → Prop} {k : Nat} {len crowd : Int} {a b c : Int} (r : Rg k a b c) (hk : k ≤ 100000000) (h1 : 1 ≤ len) (h2 : len ≤ 1000) (h3 : 1 ≤ crowd) (h4 : crowd < 2 ^ 62)
    (q : ∀ lim gs a' c', 1 ≤ lim → gs ≠ [] → (gs.length : Int) ≤ len → Rise crowd 0 gs → lastW 0 gs ≤ 10000000000 * gs.length → Rg (k + 5000) a' b c' → Q (wellD lim gs) [rngE a' b c', .int len, .int crowd]) : wF m__law_random_well [rngE a b c, .int len, .int crowd] Q :=
  random_well_spC r hk h1 h2 h3 h4 fun lim gs a' c' e1 e2 e3 e4 e5 _ r' => q lim gs a' c' e1 e2 e3 e4 e5 r'
theorem random_well_sp {Q : D → List D → Prop} {k : Nat} {len crowd : Int} {a b c : Int} (r : Rg k a b c) (hk : k ≤ 100000000) (h1 : 1 ≤ len) (h2 : len ≤ 1000) (h3 : 1 ≤ crowd) (h4 : crowd < 2 ^ 62)
    (q : ∀ lim gs a' c', 1 ≤ lim → gs ≠ [] → (gs.length : Int) ≤ len → Rise crowd 0 gs → Rg (k + 5000) a' b c' → Q (wellD lim gs) [rngE a' b c', .int len, .int crowd]) : wF m__law_random_well [rngE a b c, .int len, .int crowd] Q :=
  random_well_spB r hk h1 h2 h3 h4 fun lim gs a' c' e1 e2 e3 e4 _ r' => q lim gs a' c' e1 e2 e3 e4 r'
end WC
namespace WC
open WF PySem
open L2 (atI ixN)
def StOk : List (Int × Int) → List Int → Prop
  | [], [] => True
  | p :: r, x :: xs => 0 ≤ x ∧ x ≤ p.2 ∧ StOk r xs
  | _, _ => False
abbrev stD (xs : List Int) : D := .tup (xs.map .int)
theorem StOk.len : ∀ {gs : List (Int × Int)} {xs : List Int}, StOk gs xs → xs.length = gs.length
  | [], [], _ => rfl
  | p :: r, x :: xs, h => by simp [StOk.len h.2.2]
def RsI (b lim : Int) (gs0 : List (Int × Int)) (k : Nat) (ds acc : List D) (S : S0) : Prop := ∃ (gs1 gs : List (Int × Int)) (xs : List Int) (kk : Nat) (a c : Int), gs0 = gs1 ++ gs ∧ ds = gs.map prD ∧ acc = xs.map .int ∧ StOk gs1 xs ∧ Rg kk a b c ∧ kk + 2 * gs.length ≤ k + 2 * gs0.length ∧ S = [rngE a b c, wellD lim gs0, .un, .un]
theorem StOk.snoc {p : Int × Int} {x : Int} : ∀ {gs : List (Int × Int)} {xs : List Int}, StOk gs xs → 0 ≤ x → x ≤ p.2 → StOk (gs ++ [p]) (xs ++ [x])
  | [], [], _, h1, h2 => ⟨h1, h2, trivial⟩
  | q :: r, y :: ys, h, h1, h2 => ⟨h.1, h.2.1, StOk.snoc h.2.2 h1 h2⟩
theorem random_state_sp {Q : D → List D → Prop} {k : Nat} {lim w m : Int} {gs : List (Int × Int)} {a b c : Int} (r : Rg k a b c) (hk : k ≤ 100000000) (hr : Rise m w gs) (hm : m < 2 ^ 62) (hl : gs.length ≤ 1000)
    (q : ∀ xs a' c', StOk gs xs → Rg (k + 2000) a' b c' → Q (stD xs) [rngE a' b c', wellD lim gs]) : wF m__law_random_state [rngE a b c, wellD lim gs] Q := by
  have hmem : ∀ {gs : List (Int × Int)} {w : Int}, Rise m w gs → ∀ p ∈ gs, 1 ≤ p.2 ∧ p.2 ≤ m := by
    intro gs
    induction gs with
    | nil => intro w h p hp; cases hp
    | cons p r ih =>
      intro w h q hq
      rcases List.mem_cons.mp hq with rfl | hq
      · exact ⟨h.2.1, h.2.2.1⟩
      · exact ih h.2.2.2 q hq
  rw [m__law_random_state, wF_def]
  simp [b__law_random_state]
  refine comp_ind0 (RsI b lim gs k) ?_ ?_ ⟨[], gs, [], k, a, c, rfl, rfl, rfl, trivial, r, by omega, rfl⟩
  · rintro d ds acc S ⟨gs1, gs2, xs, kk, a, c, rfl, e, rfl, st, r, hkk, rfl⟩
    cases gs2 with
    | nil => cases e
    | cons p gs2 =>
      cases e
      obtain ⟨p1, p2⟩ := p
      have hp := hmem hr (p1, p2) (by simp)
      simp only at hp
      have sl := st.len
      simp at hkk hl
      simp [prD]
      refine draw_sp r (by omega) (by omega) (by omega) fun u a c u0 u1 r => ?_
      simp
      refine pick_sp (ns := [0, p2, u]) r (by omega) (by simp) (by simp) fun y a c hy r => ?_
      simp at hy
      simp
      refine ⟨by omega, gs1 ++ [(p1, p2)], gs2, xs ++ [y], kk + 2, a, c, by simp, rfl, by simp, st.snoc (by omega) (by simp only; omega), r, by simp; omega, rfl⟩
  · rintro acc S ⟨gs1, gs2, xs, kk, a, c, rfl, e, rfl, st, r, hkk, rfl⟩
    cases gs2 with
    | cons p gs2 => cases e
    | nil =>
      simp at hkk hl q ⊢
      exact q xs a c st (r.mono (by omega))
end WC
namespace WC
open WF PySem
open L2 (atI ixN)
@[simp] theorem isi_list {o : Bool} {xs : List D} : isiD [.lst o xs, .vl (.ty "list")] = some (.bl true) := rfl
@[simp] theorem isi_listT {xs : List D} : isiD [.tup xs, .vl (.ty "list")] = some (.bl false) := rfl
@[simp] theorem isi_tup {xs : List D} : isiD [.tup xs, .vl (.ty "tuple")] = some (.bl true) := rfl
@[simp] theorem isi_tupL {o : Bool} {xs : List D} : isiD [.lst o xs, .vl (.ty "tuple")] = some (.bl false) := rfl
@[simp] theorem isi_seqL {o : Bool} {xs : List D} : isiD [.lst o xs, .tup [.vl (.ty "list"), .vl (.ty "tuple")]] = some (.bl true) := rfl
@[simp] theorem isi_seqT {xs : List D} : isiD [.tup xs, .tup [.vl (.ty "list"), .vl (.ty "tuple")]] = some (.bl true) := rfl
@[simp] theorem isi_seqI {a : Int} : isiD [.int a, .tup [.vl (.ty "list"), .vl (.ty "tuple")]] = some (.bl false) := rfl
@[simp] theorem isi_seqB {a : Bool} : isiD [.bl a, .tup [.vl (.ty "list"), .vl (.ty "tuple")]] = some (.bl false) := rfl
@[simp] theorem isi_seqN : isiD [.non, .tup [.vl (.ty "list"), .vl (.ty "tuple")]] = some (.bl false) := rfl
@[simp] theorem isi_seqS {x : Str} : isiD [.str x, .tup [.vl (.ty "list"), .vl (.ty "tuple")]] = some (.bl false) := rfl
@[simp] theorem isi_strI {a : Int} : isiD [.int a, .vl (.ty "str")] = some (.bl false) := rfl
@[simp] theorem isi_strB {a : Bool} : isiD [.bl a, .vl (.ty "str")] = some (.bl false) := rfl
@[simp] theorem isi_strN : isiD [.non, .vl (.ty "str")] = some (.bl false) := rfl
@[simp] theorem isi_strS {x : Str} : isiD [.str x, .vl (.ty "str")] = some (.bl true) := rfl
@[simp] theorem isi_intI {a : Int} : isiD [.int a, .vl (.ty "int")] = some (.bl true) := rfl
@[simp] theorem isi_intB {a : Bool} : isiD [.bl a, .vl (.ty "int")] = some (.bl true) := rfl
@[simp] theorem isi_boolI {a : Int} : isiD [.int a, .vl (.ty "bool")] = some (.bl false) := rfl
@[simp] theorem isi_boolB {a : Bool} : isiD [.bl a, .vl (.ty "bool")] = some (.bl true) := rfl
@[simp] theorem isD_int {a : Int} {n : Bool} : isD n (.int a) .non = some (.bl n) := by cases n <;> rfl
@[simp] theorem isD_bl {a : Bool} {n : Bool} : isD n (.bl a) .non = some (.bl n) := by cases n <;> rfl
@[simp] theorem isD_tup {a : List D} {n : Bool} : isD n (.tup a) .non = some (.bl n) := by cases n <;> rfl
@[simp] theorem isD_non {n : Bool} : isD n .non .non = some (.bl !n) := by cases n <;> rfl
@[simp] theorem isD_str {x : Str} {n : Bool} : isD n (.str x) .non = some (.bl n) := by cases n <;> rfl
@[simp] theorem eqD_int {a b : Int} {n : Bool} : eqD n (.int a) (.int b) = some (.bl (if n = true then !decide (a = b) else decide (a = b))) := by
  have e : ∀ x : Int, SeqAt.shaped (.int x) = true := fun x => rfl
  cases n <;> simp [eqD, D.py, e, PyData.eqv] <;> exact decide_eq_decide.mpr Iff.rfl
@[simp] theorem eqD_bl {a b : Bool} {n : Bool} : eqD n (.bl a) (.bl b) = some (.bl (if n = true then a != b else a == b)) := by
  cases n <;> cases a <;> cases b <;> rfl
@[simp] theorem boolsD_mapf {α : Type} {f : α → Bool} {l : List α} : boolsD (l.map fun x => D.bl (f x)) = some (l.map f) := by
  have := boolsD_map' (l := l.map f)
  rwa [List.map_map] at this
theorem all_true {α : Type} {xs : List α} : (xs.all fun _ => true) = true := List.all_eq_true.mpr fun _ _ => rfl
theorem zipWith_map_self {α : Type} {enc : α → D} : ∀ {xs : List α}, List.zipWith (fun x y => D.tup [x, y]) (xs.map enc) (xs.map enc) = xs.map fun x => .tup [enc x, enc x]
  | [] => rfl
  | x :: xs => by simp [zipWith_map_self (xs := xs)]
theorem asl_int {Q : D → List D → Prop} {n : Nat} {a : Int} (q : Q (.int a) [.int a]) : wF (m__law_as_lists (n + 1)) [.int a] Q := by
  rw [m__law_as_lists, wF_def]
  simp [b__law_as_lists]
  exact q
theorem asl_tup {α : Type} {Q : D → List D → Prop} {n : Nat} {enc φ : α → D} {xs : List α} (hf : ∀ x, (enc x).frz = enc x) (hu : ∀ x, isUn (enc x) = false) (hl : xs.length ≤ 1000000)
    (h : ∀ x ∈ xs, ∀ Q : D → List D → Prop, Q (φ x) [enc x] → wF (m__law_as_lists n) [enc x] Q) (q : Q (.lst true (xs.map φ)) [.tup (xs.map enc)]) : wF (m__law_as_lists (n + 1)) [.tup (xs.map enc)] Q := by
  rw [m__law_as_lists, wF_def]
  simp [b__law_as_lists, frzs_id hf]
  refine comp_map0 (φ := φ) xs (fun x hx => ?_) (by simpa using hl) ?_
  · simp [hu, hf]
    refine h x hx _ ?_
    simp
  · simp
    exact q
def prL (p : Int × Int) : D := .lst true [.int p.1, .int p.2]
theorem asl_pr {Q : D → List D → Prop} {n : Nat} {p : Int × Int} (q : Q (prL p) [prD p]) : wF (m__law_as_lists (n + 2)) [prD p] Q :=
  asl_tup (Q := Q) (n := n + 1) (enc := D.int) (φ := D.int) (xs := [p.1, p.2]) (fun _ => rfl) (fun _ => rfl) (by simp) (fun x _ Q q => asl_int (n := n) q) q
theorem asl_prs {Q : D → List D → Prop} {n : Nat} {gs : List (Int × Int)} (hl : gs.length ≤ 1000000) (q : Q (.lst true (gs.map prL)) [.tup (gs.map prD)]) : wF (m__law_as_lists (n + 3)) [.tup (gs.map prD)] Q :=
  asl_tup (Q := Q) (n := n + 2) (enc := prD) (φ := prL) (xs := gs) (fun _ => rfl) (fun _ => rfl) hl (fun x _ Q q => asl_pr (n := n) q) q
abbrev wellL (lim : Int) (gs : List (Int × Int)) : D := .lst true [.int lim, .lst true (gs.map prL)]
theorem asl_well {Q : D → List D → Prop} {n : Nat} {lim : Int} {gs : List (Int × Int)} (hl : gs.length ≤ 1000000) (q : Q (wellL lim gs) [wellD lim gs]) : wF (m__law_as_lists (n + 4)) [wellD lim gs] Q :=
  asl_tup (α := Bool) (Q := Q) (n := n + 3) (enc := fun b => if b = true then .int lim else .tup (gs.map prD)) (φ := fun b => if b = true then .int lim else .lst true (gs.map prL)) (xs := [true, false]) (fun b => by cases b <;> simp) (fun b => by cases b <;> rfl) (by simp)
    (fun b _ Q q => by
      cases b with
      | true => exact asl_int (n := n + 2) q
      | false => exact asl_prs (n := n) hl q) q
end WC
namespace WC
open WF PySem
open L2 (atI ixN)
theorem wF_iff {m : Fn} {as as' : List D} {r : D} (h : ∀ Q : D → List D → Prop, Q r as' → wF m as Q) {Q : D → List D → Prop} : wF m as Q ↔ Q r as' := by
  refine ⟨fun w => ?_, h Q⟩
  have h1 := h (fun d S => d = r ∧ S = as') ⟨rfl, rfl⟩
  unfold wF at w h1
  have w : WF0.oE (m as) Q := w
  have h1 : WF0.oE (m as) (fun d S => d = r ∧ S = as') := h1
  obtain ⟨d, S, e, e1, e2⟩ := WF0.oE_ex.mp h1
  rw [e] at w
  rw [← e1, ← e2]
  exact w
theorem wF_eq {m : Fn} {as as' : List D} {r : D} (h : ∀ Q : D → List D → Prop, wF m as Q ↔ Q r as') : m as = some (.ok r, as') := by
  have h1 := (h (fun d S => d = r ∧ S = as')).mpr ⟨rfl, rfl⟩
  unfold wF at h1
  have h1 : WF0.oE (m as) (fun d S => d = r ∧ S = as') := h1
  obtain ⟨d, S, e, e1, e2⟩ := WF0.oE_ex.mp h1
  rw [e, e1, e2]
@[simp] theorem frzs_rep {n : Nat} {d : D} : D.frzs (List.replicate n d) = List.replicate n d.frz := by simp [D.frzs_map]
theorem loop_pre {α : Type} {g : GM} {body : SM} {Q : Fl → S0 → Prop} (enc : α → D) (st : List α → S0 → Prop) (xs : List α) (step : ∀ pre x post, xs = pre ++ x :: post → ∀ S, st pre S → wG g (enc x) S fun S => wS body S fun fl S => match fl with
      | .nx => st (pre ++ [x]) S
      | .ct => st (pre ++ [x]) S
      | .bk => Q .nx S
      | fl => Q fl S) {S : S0} (h0 : st [] S) (fin : ∀ S, st xs S → Q .nx S) : wS (loopM g body (xs.map enc)) S Q := by
  refine loop_ind (fun ds S => ∃ pre post, xs = pre ++ post ∧ ds = post.map enc ∧ st pre S) ?_ ?_ ⟨[], xs, rfl, rfl, h0⟩
  · rintro d ds S ⟨pre, post, e, e1, h⟩
    cases post with
    | nil => cases e1
    | cons x post =>
      cases e1
      refine wG.mono (step pre x post e S h) fun S q => wS.mono q fun fl S q => ?_
      cases fl with
      | nx => exact ⟨pre ++ [x], post, by simp [e], rfl, q⟩
      | ct => exact ⟨pre ++ [x], post, by simp [e], rfl, q⟩
      | bk => exact q
      | rt d => exact q
      | ex x => exact q
  · rintro S ⟨pre, post, e, e1, h⟩
    cases post with
    | nil => rw [List.append_nil] at e; exact fin S (e ▸ h)
    | cons x post => cases e1
theorem loop_rng {g : GM} {body : SM} {Q : Fl → S0 → Prop} (st : Nat → S0 → Prop) {lo : Int} {n : Nat} (step : ∀ k, k < n → ∀ S, st k S → wG g (.int (lo + (k : Int))) S fun S => wS body S fun fl S => match fl with
      | .nx => st (k + 1) S
      | .ct => st (k + 1) S
      | .bk => Q .nx S
      | fl => Q fl S) {S : S0} (h0 : st 0 S) (fin : ∀ S, st n S → Q .nx S) : wS (loopM g body (rngD lo n)) S Q := by
  refine loop_pre (fun k : Nat => D.int (lo + (k : Int))) (fun pre S => st pre.length S) (List.range n) ?_ h0 (fun S h => fin S (by simpa using h))
  intro pre x post e S h
  have hx : x = pre.length := by
    have := congrArg (fun l => l[pre.length]?) e
    simp at this
    have hl : pre.length < n := by
      have := congrArg List.length e
      simp at this
      omega
    simp [hl] at this
    omega
  have hl : pre.length < n := by
    have := congrArg List.length e
    simp at this
    omega
  subst hx
  refine wG.mono (step _ hl S h) fun S q => wS.mono q fun fl S q => ?_
  cases fl with
  | nx => simpa using q
  | ct => simpa using q
  | bk => exact q
  | rt d => exact q
  | ex x => exact q
theorem comp_rng0 {own : List Nat} {g : GM} {fe : EM} {Q : List D → S0 → Prop} (st : Nat → List D → S0 → Prop) {lo : Int} {n : Nat} (step : ∀ k, k < n → ∀ acc S, st k acc S → wG g (.int (lo + (k : Int))) S fun S => wE fe S fun y S => acc.length < 1000000 ∧ st (k + 1) (acc ++ [y]) (wipeS S own)) {S : S0} (h0 : st 0 [] S) (fin : ∀ acc S, st n acc S → Q acc S) : wC own g none fe (rngD lo n) S [] Q := by
  refine comp_ind0 (fun ds acc S => ∃ k, k ≤ n ∧ ds = (List.range' k (n - k)).map (fun k : Nat => D.int (lo + (k : Int))) ∧ st k acc S) ?_ ?_ ⟨0, by omega, by simp [rngD, List.range_eq_range'], h0⟩
  · rintro d ds acc S ⟨k, hk, e, h⟩
    by_cases hn : k < n
    · have e2 : n - k = (n - (k + 1)) + 1 := by omega
      rw [e2, List.range'_succ, List.map_cons] at e
      cases e
      exact wG.mono (step k hn acc S h) fun S q => wE.mono q fun y S ⟨q1, q2⟩ => ⟨q1, k + 1, by omega, rfl, q2⟩
    · have : n - k = 0 := by omega
      rw [this] at e
      cases e
  · rintro acc S ⟨k, hk, e, h⟩
    have : n - k = 0 := by
      have := congrArg List.length e
      simp at this
      omega
    have : k = n := by omega
    exact fin acc S (this ▸ h)
def sq : Bool → List D → D
  | true, xs => .tup xs
  | false, xs => .lst false xs
section
variable {t : Bool} {xs ys : List D} {a : Int} {d : D}
@[simp] theorem isUn_sq : isUn (sq t xs) = false := by cases t <;> rfl
@[simp] theorem frz_sq : D.frz (sq t xs) = sq t (D.frzs xs) := by cases t <;> rfl
@[simp] theorem lenD_sq : lenD [sq t xs] = some (.int xs.length) := by cases t <;> rfl
@[simp] theorem ixD_sq : ixD (sq t xs) (.int a) = atI (D.frzs xs) a := by cases t <;> rfl
theorem ixO_sq (h : D.frzs xs = xs) : ixO (sq t xs) (.int a) = (atI xs a).map fun x => (x, sq t xs) := by
  cases t
  · rfl
  · show (atI (D.frzs xs) a).map (fun x => (x, D.tup (D.frzs xs))) = _
    rw [h]; rfl
@[simp] theorem tupleD_sq : tupleD [sq t xs] = some (.tup xs) := by cases t <;> rfl
@[simp] theorem listD_sq : listD [sq t xs] = some (.lst true xs) := by cases t <;> rfl
@[simp] theorem itemsD_sq : itemsD (sq t xs) = some (D.frzs xs) := by cases t <;> rfl
@[simp] theorem seqV_sq : seqV (sq t xs) = some (D.frzs xs, sq t (D.frzs xs)) := by cases t <;> rfl
@[simp] theorem wG_sq {n : Nat} {gs : GMs} {S : S0} {QG : S0 → Prop} : wG (gTupM n gs) (sq t xs) S QG ↔ xs.length = n ∧ wGs gs xs S QG := by cases t <;> simp [sq]
end
abbrev stS (t : Bool) (xs : List Int) : D := sq t (xs.map .int)
theorem st_of {xs : List Int} : D.lst false (xs.map .int) = stS false xs := rfl
theorem tp_of {xs : List Int} : D.tup (xs.map .int) = stS true xs := rfl
@[simp] theorem ixO_stS {t : Bool} {xs : List Int} {a : Int} : ixO (stS t xs) (.int a) = (atI xs a).map fun x => (.int x, stS t xs) := by
  rw [ixO_sq (by simp), atI_map, Option.map_map]; rfl
def gpD (t : Bool) (p : Int × Int) : D := sq t [.int p.1, .int p.2]
def wlD (t : Bool) (lim : Int) (gs : List (Int × Int)) : D := sq t [.int lim, sq t (gs.map (gpD t))]
section
variable {t : Bool} {lim : Int} {gs : List (Int × Int)} {p : Int × Int} {S : S0} {QG : S0 → Prop}
@[simp] theorem frz_gpD : D.frz (gpD t p) = gpD t p := by cases t <;> rfl
@[simp] theorem isUn_gpD : isUn (gpD t p) = false := by cases t <;> rfl
@[simp] theorem frzs_gpD : D.frzs (gs.map (gpD t)) = gs.map (gpD t) := frzs_id fun _ => frz_gpD
@[simp] theorem ixD_gpD0 : ixD (gpD t p) (.int 0) = some (.int p.1) := by cases t <;> rfl
@[simp] theorem ixD_gpD1 : ixD (gpD t p) (.int 1) = some (.int p.2) := by cases t <;> rfl
@[simp] theorem ixO_gpD0 : ixO (gpD t p) (.int 0) = some (.int p.1, gpD t p) := by cases t <;> rfl
@[simp] theorem ixO_gpD1 : ixO (gpD t p) (.int 1) = some (.int p.2, gpD t p) := by cases t <;> rfl
@[simp] theorem wG_gpD {n : Nat} {gs : GMs} : wG (gTupM n gs) (gpD t p) S QG ↔ 2 = n ∧ wGs gs [.int p.1, .int p.2] S QG := by simp [gpD]
@[simp] theorem wG_prD {n : Nat} {gs : GMs} : wG (gTupM n gs) (prD p) S QG ↔ 2 = n ∧ wGs gs [.int p.1, .int p.2] S QG := by simp [prD]
@[simp] theorem frz_wlD : D.frz (wlD t lim gs) = wlD t lim gs := by simp [wlD]
@[simp] theorem isUn_wlD : isUn (wlD t lim gs) = false := by simp [wlD]
@[simp] theorem ixO_wlD0 : ixO (wlD t lim gs) (.int 0) = some (.int lim, wlD t lim gs) := by rw [wlD, ixO_sq (by simp)]; simp
@[simp] theorem ixO_wlD1 : ixO (wlD t lim gs) (.int 1) = some (sq t (gs.map (gpD t)), wlD t lim gs) := by rw [wlD, ixO_sq (by simp)]; simp
@[simp] theorem ixD_wlD0 : ixD (wlD t lim gs) (.int 0) = some (.int lim) := by rw [wlD]; simp
@[simp] theorem ixD_wlD1 : ixD (wlD t lim gs) (.int 1) = some (sq t (gs.map (gpD t))) := by rw [wlD]; simp
end
def wlO (lim : Int) (gs : List (Int × Int)) : D := wellL lim gs
@[simp] theorem frz_wlO {lim : Int} {gs : List (Int × Int)} : D.frz (wlO lim gs) = wlD false lim gs := by
  have : D.frzs (gs.map prL) = gs.map (gpD false) := by rw [D.frzs_map, List.map_map]; rfl
  simp [wlO, this, wlD, sq]
@[simp] theorem isUn_wlO {lim : Int} {gs : List (Int × Int)} : isUn (wlO lim gs) = false := rfl
@[simp] theorem ixD_prD0 {p : Int × Int} : ixD (prD p) (.int 0) = some (.int p.1) := rfl
@[simp] theorem ixD_prD1 {p : Int × Int} : ixD (prD p) (.int 1) = some (.int p.2) := rfl
@[simp] theorem ixO_prD0 {p : Int × Int} : ixO (prD p) (.int 0) = some (.int p.1, prD p) := rfl
@[simp] theorem ixO_prD1 {p : Int × Int} : ixO (prD p) (.int 1) = some (.int p.2, prD p) := rfl
@[simp] theorem imm_prD {p : Int × Int} : D.imm (prD p) = true := rfl
def grp (gs : List (Int × Int)) (k : Int) : Int × Int := gs.getD k.toNat (0, 0)
def wt (gs : List (Int × Int)) (k : Int) : Int := if k < 0 then 0 else (grp gs k).1
theorem at_grp {gs : List (Int × Int)} {k : Int} (h0 : 0 ≤ k) (h1 : k < gs.length) : atI gs k = some (grp gs k) := by
  obtain ⟨n, rfl⟩ := Int.eq_ofNat_of_zero_le h0
  rw [WF.atI_nat]
  have hk : n < gs.length := by omega
  simp [grp, hk]
def cn (xs : List Int) (k : Int) : Int := xs.getD k.toNat 0
theorem at_cn {xs : List Int} {k : Int} (h0 : 0 ≤ k) (h1 : k < xs.length) : atI xs k = some (cn xs k) := by
  obtain ⟨n, rfl⟩ := Int.eq_ofNat_of_zero_le h0
  rw [WF.atI_nat]
  have hk : n < xs.length := by omega
  simp [cn, hk]
end WC
namespace WC
open WF PySem
open L2 (atI ixN)
def okM (lim : Int) (gs : List (Int × Int)) (d u : Nat) : Bool := decide (wt gs d - wt gs (-1 + (u : Int)) ≤ lim)
def mvOf (d u : Nat) : Int × Int := ((d : Int), -1 + (u : Int))
def upsM (lim : Int) (gs : List (Int × Int)) (d : Nat) : List (Int × Int) := ((List.range (d + 1)).filter (okM lim gs d)).map (mvOf d)
def allM (lim : Int) (gs : List (Int × Int)) : List (Int × Int) := (List.range gs.length).flatMap (upsM lim gs)
theorem upsM_len {lim : Int} {gs : List (Int × Int)} {d : Nat} : (upsM lim gs d).length ≤ d + 1 := by
  unfold upsM
  rw [List.length_map]
  exact Nat.le_trans (List.length_filter_le _ _) (by simp)
theorem flat_len {α : Type} {h : Nat → List α} {c : Nat} : ∀ {xs : List Nat}, (∀ x ∈ xs, (h x).length ≤ c) → (xs.flatMap h).length ≤ c * xs.length
  | [], _ => by simp
  | x :: xs, q => by
    have h1 := q x List.mem_cons_self
    have h2 := flat_len (xs := xs) fun y hy => q y (List.mem_cons_of_mem _ hy)
    simp only [List.flatMap_cons, List.length_append, List.length_cons, Nat.mul_succ]
    omega
theorem allM_pre_len {lim : Int} {gs : List (Int × Int)} {k : Nat} (hk : k ≤ 100) : ((List.range k).flatMap (upsM lim gs)).length ≤ 10100 := by
  have := flat_len (h := upsM lim gs) (c := 101) (xs := List.range k) fun x hx => by
    have := upsM_len (lim := lim) (gs := gs) (d := x)
    simp at hx
    omega
  rw [List.length_range] at this
  omega
theorem allM_len {lim : Int} {gs : List (Int × Int)} (hk : gs.length ≤ 100) : (allM lim gs).length ≤ 10100 := allM_pre_len hk
theorem all_succ {lim : Int} {gs : List (Int × Int)} {k : Nat} : (List.range (k + 1)).flatMap (upsM lim gs) = (List.range k).flatMap (upsM lim gs) ++ upsM lim gs k := by
  rw [List.range_succ, List.flatMap_append]; simp
end WC
namespace WC
open WF PySem
open L2 (atI ixN)
theorem mem_allM {lim : Int} {gs : List (Int × Int)} {m : Int × Int} : m ∈ allM lim gs ↔ -1 ≤ m.2 ∧ m.2 < m.1 ∧ m.1 < gs.length ∧ wt gs m.1 - wt gs m.2 ≤ lim := by
  simp only [allM, upsM, List.mem_flatMap, List.mem_range, List.mem_map, List.mem_filter]
  constructor
  · rintro ⟨d, hd, u, ⟨hu, ho⟩, rfl⟩
    simp [okM] at ho
    simp only [mvOf]
    omega
  · rintro ⟨h1, h2, h3, h4⟩
    refine ⟨m.1.toNat, by omega, (m.2 + 1).toNat, ⟨by omega, ?_⟩, ?_⟩
    · have e1 : ((m.1.toNat : Nat) : Int) = m.1 := by omega
      have e2 : -1 + (((m.2 + 1).toNat : Nat) : Int) = m.2 := by omega
      simp only [okM, e1, e2, decide_eq_true_eq]
      exact h4
    · apply Prod.ext
      · simp only [mvOf]; omega
      · simp only [mvOf]; omega
def legB (gs : List (Int × Int)) (xs : List Int) (m : Int × Int) : Bool := decide (cn xs m.1 < (grp gs m.1).2) && (decide (m.2 < 0) || decide (0 < cn xs m.2))
def legM (lim : Int) (gs : List (Int × Int)) (xs : List Int) : List (Int × Int) := (allM lim gs).filter (legB gs xs)
theorem lw_weight_eq {t : Bool} {lim k : Int} {gs : List (Int × Int)} (h1 : k < gs.length) {Q : D → List D → Prop} :
    wF m__law_weight [wlD t lim gs, .int k] Q ↔ Q (.int (wt gs k)) [wlD t lim gs, .int k] := by
  rw [m__law_weight, wF_def]
  by_cases hk : k < 0
  · simp [b__law_weight, hk, wt]
  · have hk0 : 0 ≤ k := by omega
    simp [b__law_weight, hk, atI_map, at_grp hk0 h1, wt]
theorem lw_all_moves_eq {t : Bool} {lim : Int} {gs : List (Int × Int)} (hl : gs.length ≤ 100) {Q : D → List D → Prop} :
    wF m__law_all_moves [wlD t lim gs] Q ↔ Q (.lst true ((allM lim gs).map prD)) [wlD t lim gs] := by
  refine wF_iff fun Q q => ?_
  rw [m__law_all_moves, wF_def]
  simp [b__law_all_moves]
  refine ⟨by omega, ?_⟩
  refine loop_rng (fun k S => ∃ x y, S = [wlD t lim gs, .lst true (((List.range k).flatMap (upsM lim gs)).map prD), x, y, .un]) ?_ ⟨_, _, rfl⟩ ?_
  · rintro k hk S ⟨x, y, rfl⟩
    have h1 := allM_pre_len (lim := lim) (gs := gs) (k := k) (by omega)
    have h2 := upsM_len (lim := lim) (gs := gs) (d := k)
    rw [all_succ]
    generalize (List.range k).flatMap (upsM lim gs) = ms at *
    simp (disch := omega) [lw_weight_eq]
    refine ⟨by omega, ?_⟩
    refine comp_map1 (enc := fun u : Nat => .int (-1 + (u : Int))) (φ := fun u => prD (mvOf k u)) (t := okM lim gs k) (List.range (k + 1)) (fun u hu => ?_) (by simp; omega) ?_
    · have hu : u < k + 1 := by simpa using hu
      simp (disch := omega) [lw_weight_eq]
      have e : okM lim gs k u = decide (wt gs k - lim ≤ wt gs (-1 + (u : Int))) := by unfold okM; apply decide_eq_decide.mpr; omega
      rw [e]
      simp [prD, mvOf]
    · have e : ((List.range (k + 1)).filter (okM lim gs k)).map (fun u => prD (mvOf k u)) = (upsM lim gs k).map prD := by simp [upsM]
      simp only [List.nil_append]
      rw [e]
      simp
      omega
  · rintro S ⟨x, y, rfl⟩
    simp
    exact q
theorem lw_legal_moves_eq {t t' : Bool} {lim : Int} {gs : List (Int × Int)} {xs : List Int} (hl : gs.length ≤ 100) (hs : xs.length = gs.length) {Q : D → List D → Prop} :
    wF m__law_legal_moves [wlD t lim gs, stS t' xs] Q ↔ Q (.lst true ((legM lim gs xs).map prD)) [wlD t lim gs, stS t' xs] := by
  refine wF_iff fun Q q => ?_
  have hA := allM_len (lim := lim) hl
  rw [m__law_legal_moves, wF_def]
  simp [b__law_legal_moves, lw_all_moves_eq hl]
  refine loop_pre prD (fun pre S => ∃ x y, S = [wlD t lim gs, stS t' xs, .lst true ((pre.filter (legB gs xs)).map prD), x, y]) _ ?_ ⟨_, _, rfl⟩ ?_
  · rintro pre ⟨d, u⟩ post e S ⟨x, y, rfl⟩
    have hm := mem_allM.mp (show (d, u) ∈ allM lim gs by rw [e]; simp)
    simp only at hm
    have hp : (pre.filter (legB gs xs)).length < 1000000 := by
      have h1 := List.length_filter_le (legB gs xs) pre
      have h2 : pre.length ≤ (allM lim gs).length := by rw [e]; simp
      omega
    rw [List.filter_append, List.map_append]
    generalize pre.filter (legB gs xs) = ms at *
    simp (disch := omega) [at_cn, at_grp, atI_map]
    by_cases h6 : cn xs d < (grp gs d).2
    · simp [h6]
      by_cases h7 : u < 0
      · simp [h7, hp, legB, h6, prD]
      · simp (disch := omega) [h7, at_cn]
        by_cases h8 : 0 < cn xs u
        · simp [h8, hp, legB, h6, prD]
        · simp [h8, hp, legB, h6, h7]
    · simp [h6, legB]
  · rintro S ⟨x, y, rfl⟩
    simp
    exact q
end WC
namespace WC
open WF PySem
open L2 (atI ixN)
inductive Pl : Nat → D → Prop
  | non {n} : Pl (n + 1) .non
  | bl {n b} : Pl (n + 1) (.bl b)
  | int {n a} : Pl (n + 1) (.int a)
  | str {n x} : PyData.strOk x = true → Pl (n + 1) (.str x)
  | tup {n xs} : (∀ x ∈ xs, Pl n x) → xs.length ≤ 1000000 → Pl (n + 1) (.tup xs)
  | lst {n o xs} : (∀ x ∈ xs, Pl n x) → xs.length ≤ 1000000 → Pl (n + 1) (.lst o xs)
section
variable {n : Nat} {xs : List D} {o : Bool} {t : Bool}
@[simp] theorem pl_non : Pl (n + 1) .non := .non
@[simp] theorem pl_bl {b : Bool} : Pl (n + 1) (.bl b) := .bl
@[simp] theorem pl_int {a : Int} : Pl (n + 1) (.int a) := .int
@[simp] theorem pl_tup : Pl (n + 1) (.tup xs) ↔ (∀ x ∈ xs, Pl n x) ∧ xs.length ≤ 1000000 := ⟨fun h => by cases h with | tup a b => exact ⟨a, b⟩, fun h => .tup h.1 h.2⟩
@[simp] theorem pl_lst : Pl (n + 1) (.lst o xs) ↔ (∀ x ∈ xs, Pl n x) ∧ xs.length ≤ 1000000 := ⟨fun h => by cases h with | lst a b => exact ⟨a, b⟩, fun h => .lst h.1 h.2⟩
@[simp] theorem pl_sq : Pl (n + 1) (sq t xs) ↔ (∀ x ∈ xs, Pl n x) ∧ xs.length ≤ 1000000 := by cases t <;> simp [sq]
@[simp] theorem pl_prD {p : Int × Int} : Pl (n + 2) (prD p) := by simp [prD]
end
mutual
theorem frz_frz : ∀ d : D, d.frz.frz = d.frz
  | .un => rfl | .non => rfl | .bl _ => rfl | .int _ => rfl | .str _ => rfl | .vl _ => rfl | .scr _ => rfl | .hld _ => rfl | .con _ => rfl | .tab _ => rfl
  | .exn c ks xs => by simp [D.frz, frzs_frzs xs]
  | .obj o c ks xs => by simp [D.frz, frzs_frzs xs]
  | .tup xs => by simp [frzs_frzs xs]
  | .lst o xs => by simp [frzs_frzs xs]
  | .dic o ks xs => by simp [D.frz, frzs_frzs xs]
  | .dtk o ks xs => by simp [D.frz, frzs_frzs xs]
theorem frzs_frzs : ∀ xs : List D, D.frzs (D.frzs xs) = D.frzs xs
  | [] => rfl
  | x :: xs => by simp [frz_frz x, frzs_frzs xs]
end
theorem Pl.frz {d : D} : ∀ {n : Nat}, Pl n d → Pl n d.frz
  | _, .non => .non
  | _, .bl => .bl
  | _, .int => .int
  | _, .str h => .str h
  | _, .tup h hl => by
    rw [frz_tup, pl_tup, D.frzs_map]
    exact ⟨fun x hx => by obtain ⟨y, hy, rfl⟩ := List.mem_map.mp hx; exact (h y hy).frz, by simpa using hl⟩
  | _, .lst h hl => by
    rw [frz_lst, pl_lst, D.frzs_map]
    exact ⟨fun x hx => by obtain ⟨y, hy, rfl⟩ := List.mem_map.mp hx; exact (h y hy).frz, by simpa using hl⟩
theorem Pl.un {n : Nat} {d : D} (h : Pl n d) : isUn d = false := by cases h <;> rfl
def lt' : D → D
  | .lst o xs => .lst o (D.frzs xs)
  | .tup xs => .tup (D.frzs xs)
  | d => d
section
variable {xs : List D} {o : Bool} {d : D}
@[simp] theorem lt_lst : lt' (.lst o xs) = .lst o (D.frzs xs) := rfl
@[simp] theorem lt_tup : lt' (.tup xs) = .tup (D.frzs xs) := rfl
@[simp] theorem lt_int {a : Int} : lt' (.int a) = .int a := rfl
@[simp] theorem lt_bl {a : Bool} : lt' (.bl a) = .bl a := rfl
@[simp] theorem lt_non : lt' .non = .non := rfl
@[simp] theorem lt_str {a : Str} : lt' (.str a) = .str a := rfl
@[simp] theorem lt_sq {t : Bool} : lt' (sq t xs) = sq t (D.frzs xs) := by cases t <;> rfl
end
theorem zip_self {xs : List D} : List.zipWith (fun x y => D.tup [x, y]) xs xs = xs.map fun x => .tup [x, x] := by
  have := @zipWith_map_self D id xs
  simpa using this
theorem strOk_py {x : Str} (h : PyData.strOk x = true) : eqD false (.str x) (.str x) = some (.bl true) := by
  simp [eqD, D.py, SeqAt.shaped, PyData.canLay0, h, PyData.depth, PyData.eqv]
@[simp] theorem eqD_non {n : Bool} : eqD n .non .non = some (.bl !n) := by cases n <;> rfl
theorem same_sp {Q : D → List D → Prop} : ∀ {n : Nat} {d d' : D}, Pl n d → d.frz = d'.frz → Q (.bl true) [lt' d, lt' d'] → wF (m__law_same n) [d, d'] Q
  | 0, d, d', h, e, q => by cases h
  | n + 1, d, d', h, e, q => by
    rw [m__law_same, wF_def]
    cases h with
    | non =>
      cases d' <;> simp [D.frz] at e
      simp [b__law_same]
      exact q
    | bl =>
      cases d' <;> simp [D.frz] at e
      subst e
      simp [b__law_same]
      exact q
    | int =>
      cases d' <;> simp [D.frz] at e
      subst e
      simp [b__law_same]
      exact q
    | str h =>
      cases d' <;> simp [D.frz] at e
      subst e
      simp [b__law_same, strOk_py h]
      exact q
    | @tup _ xs h hl =>
      cases d' with
      | tup ys =>
        simp at e
        have el : xs.length = ys.length := by have := congrArg List.length e; simpa using this
        simp [b__law_same, el, ← e, zip_self]
        refine comp_map0 (enc := fun x => .tup [x, x]) (φ := fun _ => .bl true) _ (fun x hx => ?_) (by simpa using hl) ?_
        · rw [D.frzs_map] at hx
          obtain ⟨y, hy, rfl⟩ := List.mem_map.mp hx
          have hp := (h y hy).frz
          simp [frz_frz, hp.un]
          refine same_sp hp rfl ?_
          simp
        · simp [all_true]
          simp [← e] at q
          exact q
      | _ => simp [D.frz] at e
    | @lst _ o xs h hl =>
      cases d' with
      | lst o' ys =>
        simp at e
        have el : xs.length = ys.length := by have := congrArg List.length e; simpa using this
        simp [b__law_same, el, ← e, zip_self]
        refine comp_map0 (enc := fun x => .tup [x, x]) (φ := fun _ => .bl true) _ (fun x hx => ?_) (by simpa using hl) ?_
        · rw [D.frzs_map] at hx
          obtain ⟨y, hy, rfl⟩ := List.mem_map.mp hx
          have hp := (h y hy).frz
          simp [frz_frz, hp.un]
          refine same_sp hp rfl ?_
          simp
        · simp [all_true]
          simp [← e] at q
          exact q
      | _ => simp [D.frz] at e
theorem same_eq {n : Nat} {d d' : D} (h : Pl n d) (e : d.frz = d'.frz) {Q : D → List D → Prop} : wF (m__law_same n) [d, d'] Q ↔ Q (.bl true) [lt' d, lt' d'] := wF_iff fun Q q => same_sp h e q
theorem eqvAll_refl : ∀ {xs : List PyData}, (∀ x ∈ xs, PyData.eqv x x = true) → PyData.eqvAll xs xs = true
  | [], _ => rfl
  | x :: xs, h => by simp [PyData.eqvAll, h x, eqvAll_refl (xs := xs) fun y hy => h y (List.mem_cons_of_mem _ hy)]
theorem depthAll_le {n : Nat} : ∀ {xs : List PyData}, (∀ x ∈ xs, PyData.depth x ≤ n) → PyData.depthAll xs ≤ n
  | [], _ => by simp [PyData.depthAll]
  | x :: xs, h => by
    have h1 := h x List.mem_cons_self
    have h2 := depthAll_le (xs := xs) fun y hy => h y (List.mem_cons_of_mem _ hy)
    simp [PyData.depthAll]
    omega
theorem canLayAll_of : ∀ {xs : List PyData}, (∀ x ∈ xs, PyData.canLay0 x = true) → PyData.canLayAll0 xs = true
  | [], _ => rfl
  | x :: xs, h => by simp [PyData.canLayAll0, h x, canLayAll_of (xs := xs) fun y hy => h y (List.mem_cons_of_mem _ hy)]
theorem pys_of {P : PyData → Prop} : ∀ {xs : List D}, (∀ x ∈ xs, ∃ p, x.py = some p ∧ P p) → ∃ ps, D.pys xs = some ps ∧ ∀ p ∈ ps, P p
  | [], _ => ⟨[], rfl, fun _ h => nomatch h⟩
  | x :: xs, h => by
    obtain ⟨p, e1, h1⟩ := h x List.mem_cons_self
    obtain ⟨ps, e2, h2⟩ := pys_of (xs := xs) fun y hy => h y (List.mem_cons_of_mem _ hy)
    refine ⟨p :: ps, by simp [D.pys, e1, e2], fun q hq => ?_⟩
    rcases List.mem_cons.mp hq with rfl | hq
    · exact h1
    · exact h2 q hq
theorem Pl.py {d : D} : ∀ {n : Nat}, Pl n d → ∃ p, d.py = some p ∧ PyData.canLay0 p = true ∧ PyData.depth p ≤ n ∧ PyData.eqv p p = true
  | _, .non => ⟨_, rfl, rfl, by simp [PyData.depth], rfl⟩
  | _, .bl => ⟨_, rfl, rfl, by simp [PyData.depth], by simp [PyData.eqv]⟩
  | _, .int => ⟨_, rfl, rfl, by simp [PyData.depth], by simp [PyData.eqv]⟩
  | _, .str h => ⟨_, rfl, h, by simp [PyData.depth], by simp [PyData.eqv]⟩
  | n + 1, .tup h hl => by
    obtain ⟨ps, e, h1⟩ := pys_of fun x hx => (h x hx).py
    exact ⟨.tuple ps, by simp [D.py, e], canLayAll_of fun x hx => (h1 x hx).1, by have := depthAll_le fun x hx => (h1 x hx).2.1; simp [PyData.depth]; omega, eqvAll_refl fun x hx => (h1 x hx).2.2⟩
  | n + 1, .lst h hl => by
    obtain ⟨ps, e, h1⟩ := pys_of fun x hx => (h x hx).py
    exact ⟨.list ps, by simp [D.py, e], canLayAll_of fun x hx => (h1 x hx).1, by have := depthAll_le fun x hx => (h1 x hx).2.1; simp [PyData.depth]; omega, eqvAll_refl fun x hx => (h1 x hx).2.2⟩
mutual
theorem py_frz : ∀ d : D, d.frz.py = d.py
  | .un => rfl | .non => rfl | .bl _ => rfl | .int _ => rfl | .str _ => rfl | .vl _ => rfl | .scr _ => rfl | .hld _ => rfl | .con _ => rfl | .tab _ => rfl
  | .exn c ks xs => by simp [D.frz, D.py]
  | .obj o c ks xs => by simp [D.frz, D.py]
  | .tup xs => by simp [D.py, pys_frz xs]
  | .lst o xs => by simp [D.py, pys_frz xs]
  | .dic o ks xs => by simp [D.frz, D.py]
  | .dtk o ks xs => by simp [D.frz, D.py]
theorem pys_frz : ∀ xs : List D, D.pys (D.frzs xs) = D.pys xs
  | [] => rfl
  | x :: xs => by simp [D.pys, py_frz x, pys_frz xs]
end
theorem allM_sorted {lim : Int} {gs : List (Int × Int)} : (allM lim gs).Pairwise (fun a b => a.1 < b.1 ∨ (a.1 = b.1 ∧ a.2 < b.2)) := by
  unfold allM
  rw [List.pairwise_flatMap]
  constructor
  · intro d _
    unfold upsM
    rw [List.pairwise_map]
    refine List.Pairwise.filter _ ?_
    refine List.Pairwise.imp ?_ (List.pairwise_lt_range (n := d + 1))
    intro a b h
    exact .inr ⟨rfl, by simp only [mvOf]; omega⟩
  · refine List.Pairwise.imp ?_ (List.pairwise_lt_range (n := gs.length))
    intro a b h x hx y hy
    simp only [upsM, List.mem_map] at hx hy
    obtain ⟨u, _, rfl⟩ := hx
    obtain ⟨v, _, rfl⟩ := hy
    exact .inl (by simp only [mvOf]; omega)
end WC
namespace WC
open WF PySem
open L2 (atI ixN)
structure Wl (n : Nat) (m lim : Int) (gs : List (Int × Int)) : Prop where
  lim1 : 1 ≤ lim
  ne : gs ≠ []
  len : gs.length ≤ n
  rise : Rise m 0 gs
theorem rwell_sp {Q : D → List D → Prop} {k : Nat} {n : Nat} {crowd : Int} {a b c : Int} (r : Rg k a b c) (hk : k ≤ 100000000) (h1 : 1 ≤ n) (h2 : n ≤ 1000) (h3 : 1 ≤ crowd) (h4 : crowd < 2 ^ 62)
    (q : ∀ lim gs a' c', Wl n crowd lim gs → Rg (k + 5000) a' b c' → Q (wlD true lim gs) [rngE a' b c', .int n, .int crowd]) : wF m__law_random_well [rngE a b c, .int n, .int crowd] Q :=
  random_well_sp r hk (by omega) (by omega) h3 h4 fun lim gs a' c' e1 e2 e3 e4 r' => q lim gs a' c' ⟨e1, e2, by omega, e4⟩ r'
theorem rstate_sp {Q : D → List D → Prop} {k n : Nat} {lim m : Int} {gs : List (Int × Int)} {a b c : Int} (r : Rg k a b c) (W : Wl n m lim gs) (hk : k ≤ 100000000) (hm : m < 2 ^ 62) (hl : n ≤ 1000)
    (q : ∀ xs a' c', StOk gs xs → Rg (k + 2000) a' b c' → Q (stS true xs) [rngE a' b c', wlD true lim gs]) : wF m__law_random_state [rngE a b c, wlD true lim gs] Q :=
  random_state_sp r hk W.rise hm (Nat.le_trans W.len hl) q
theorem aslW {lim : Int} {gs : List (Int × Int)} (hl : gs.length ≤ 100) {Q : D → List D → Prop} : wF (m__law_as_lists 8) [wlD true lim gs] Q ↔ Q (wlO lim gs) [wlD true lim gs] := wF_iff fun Q q => asl_well (n := 4) (by omega) q
theorem StOk.nil : StOk [] [] := trivial
theorem law_shape {R : Fn} {n : Int} (h0 : 1 ≤ n) (h1 : n ≤ 60) (hR : ∀ (a b : Int) (Q : D → List D → Prop), Rg 0 a b 0 → (∀ x, Q (.bl true) [x]) → wF R [rngE a b 0] Q) (ns : List Int) :
    ∃ d, defM [true] 3 (seqM (asgM (callM m__law_fold [.v (varM 0), .v (retM (.int n))]) (gSetM 1))
      (retS (roM allD [.v (compM [2] (rng1M (roM maxD2 [.v (retM (.int 1)), .v (roM lenD [.s 1])])) (gSetM 2) none (callM R [.v (callM m__law_stream [.v (varM 1), .v (varM 2)])]))]))) [.scr ns] = some (.ok (.bl true), [d]) := by
  refine ⟨.scr ns, wF_eq fun Q => wF_iff fun Q q => ?_⟩
  rw [wF_def]
  simp
  refine fold_sp h0 h1 fun cs hc => ?_
  simp
  refine ⟨by split <;> omega, ?_⟩
  have hr : (if 1 < (cs.length : Int) then (cs.length : Int) else 1).toNat ≤ 60 := by split <;> omega
  generalize (if 1 < (cs.length : Int) then (cs.length : Int) else 1).toNat = m at hr
  refine comp_rng0 (fun k acc S => acc = (List.replicate k true).map .bl ∧ ∃ o, S = [.scr ns, .lst o (cs.map .int), .un]) ?_ ⟨rfl, _, rfl⟩ ?_
  · rintro k hk acc S ⟨rfl, o, rfl⟩
    simp
    refine stream_sp (by omega) fun a b r => ?_
    simp
    refine hR a b _ r fun x => ?_
    simp
    exact ⟨by omega, by simp [List.replicate_succ']⟩
  · rintro acc S ⟨rfl, o, rfl⟩
    rw [List.map_replicate]
    have e : boolsD (List.replicate m (D.bl true)) = some (List.replicate m true) := by rw [← List.map_replicate, boolsD_map']
    have e2 : (List.replicate m true).all id = true := by rw [List.all_eq_true]; intro x hx; exact (List.mem_replicate.mp hx).2
    simp [e, e2]
    exact q
end WC
namespace WC
open WF PySem
open L2 (atI ixN)
structure EqE {α : Type} (n : Nat) (enc : α → D) : Prop where
  ok : ∀ x, ∃ p, (enc x).py = some p ∧ PyData.canLay0 p = true ∧ PyData.depth p ≤ n
  eq : ∀ x y p q, (enc x).py = some p → (enc y).py = some q → (PyData.eqv p q = true ↔ x = y)
theorem eInt {n : Nat} : EqE n D.int := ⟨fun x => ⟨_, rfl, rfl, by simp [PyData.depth]⟩, fun x y p q h1 h2 => by cases h1; cases h2; simp [PyData.eqv]⟩
theorem pys_map {α : Type} {n : Nat} {enc : α → D} (h : EqE n enc) : ∀ xs : List α, ∃ ps, D.pys (xs.map enc) = some ps ∧ PyData.canLayAll0 ps = true ∧ PyData.depthAll ps ≤ n
  | [] => ⟨[], rfl, rfl, by simp [PyData.depthAll]⟩
  | x :: xs => by
    obtain ⟨p, e1, h1, h2⟩ := h.ok x
    obtain ⟨ps, e2, h3, h4⟩ := pys_map h xs
    exact ⟨p :: ps, by simp [D.pys, e1, e2], by simp [PyData.canLayAll0, h1, h3], by simp [PyData.depthAll]; omega⟩
theorem eqv_map {α : Type} {n : Nat} {enc : α → D} (h : EqE n enc) : ∀ (xs ys : List α) (ps qs : List PyData), D.pys (xs.map enc) = some ps → D.pys (ys.map enc) = some qs → (PyData.eqvAll ps qs = true ↔ xs = ys)
  | [], [], ps, qs, h1, h2 => by cases h1; cases h2; simp [PyData.eqvAll]
  | [], y :: ys, ps, qs, h1, h2 => by
    obtain ⟨b, bs, e3, e4, rfl⟩ := pys_cons h2
    cases h1
    simp [PyData.eqvAll]
  | x :: xs, [], ps, qs, h1, h2 => by
    obtain ⟨b, bs, e3, e4, rfl⟩ := pys_cons h1
    cases h2
    simp [PyData.eqvAll]
  | x :: xs, y :: ys, ps, qs, h1, h2 => by
    obtain ⟨a, as, e1, e2, rfl⟩ := pys_cons h1
    obtain ⟨b, bs, e3, e4, rfl⟩ := pys_cons h2
    simp [PyData.eqvAll, h.eq x y a b e1 e3, eqv_map h xs ys as bs e2 e4]
section
variable {α : Type} {n : Nat} {enc : α → D} {neg o o' t : Bool} {xs ys : List α}
theorem eLst (h : EqE n enc) : EqE (n + 1) (fun xs : List α => .lst o (xs.map enc)) := ⟨fun xs => by
    obtain ⟨ps, e, h1, h2⟩ := pys_map h xs
    exact ⟨.list ps, by simp [D.py, e], h1, by simp [PyData.depth]; omega⟩, fun xs ys p q h1 h2 => by
    simp only [D.py, Option.map_eq_some_iff] at h1 h2
    obtain ⟨ps, h1, rfl⟩ := h1
    obtain ⟨qs, h2, rfl⟩ := h2
    exact eqv_map h xs ys ps qs h1 h2⟩
theorem eTup (h : EqE n enc) : EqE (n + 1) (fun xs : List α => .tup (xs.map enc)) := ⟨fun xs => by
    obtain ⟨ps, e, h1, h2⟩ := pys_map h xs
    exact ⟨.tuple ps, by simp [D.py, e], h1, by simp [PyData.depth]; omega⟩, fun xs ys p q h1 h2 => by
    simp only [D.py, Option.map_eq_some_iff] at h1 h2
    obtain ⟨ps, h1, rfl⟩ := h1
    obtain ⟨qs, h2, rfl⟩ := h2
    exact eqv_map h xs ys ps qs h1 h2⟩
theorem eSq (h : EqE n enc) : EqE (n + 1) (fun xs : List α => sq t (xs.map enc)) := by
  cases t
  · exact eLst h
  · exact eTup h
theorem eqD_enc [DecidableEq α] (h : EqE n enc) (hn : n ≤ 64) {x y : α} {d d' : D} (e1 : d.py = (enc x).py) (e2 : d'.py = (enc y).py) : eqD neg d d' = some (.bl (if neg = true then !decide (x = y) else decide (x = y))) := by
  obtain ⟨p, f1, c1, d1⟩ := h.ok x
  obtain ⟨q, f2, c2, d2⟩ := h.ok y
  have e := h.eq x y p q f1 f2
  unfold eqD
  rw [e1, e2, f1, f2]
  have hp : p.depth ≤ 64 := by omega
  have hq : q.depth ≤ 64 := by omega
  simp only [SeqAt.shaped, c1, c2, hp, hq, decide_true, Bool.and_self, if_true]
  by_cases hxy : x = y
  · rw [e.mpr hxy]; simp [hxy]
  · have : PyData.eqv p q = false := by
      cases hh : PyData.eqv p q with
      | false => rfl
      | true => exact absurd (e.mp hh) hxy
    rw [this]; simp [hxy]
theorem eqD_lst [DecidableEq α] (h : EqE n enc) (hn : n < 64) : eqD neg (.lst o (xs.map enc)) (.lst o' (ys.map enc)) = some (.bl (if neg = true then !decide (xs = ys) else decide (xs = ys))) := eqD_enc (enc := fun xs : List α => .lst true (xs.map enc)) (eLst h) (by omega) rfl rfl
theorem eqD_lst0 [DecidableEq α] (h : EqE n enc) (hn : n < 64) : eqD neg (.lst o (xs.map enc)) (.lst o' []) = some (.bl (if neg = true then !decide (xs = []) else decide (xs = []))) := eqD_lst (ys := []) h hn
theorem eqD_sq [DecidableEq α] (h : EqE n enc) (hn : n < 64) : eqD neg (sq t (xs.map enc)) (sq t (ys.map enc)) = some (.bl (if neg = true then !decide (xs = ys) else decide (xs = ys))) := eqD_enc (enc := fun xs : List α => sq t (xs.map enc)) (eSq h) (by omega) rfl rfl
end
theorem ePr {n : Nat} : EqE (n + 1) prD := by
  have h := eTup (enc := D.int) (eInt (n := n))
  exact ⟨fun x => h.ok [x.1, x.2], fun x y p q h1 h2 => by
    rw [h.eq [x.1, x.2] [y.1, y.2] p q h1 h2]
    simp [Prod.ext_iff]⟩
def trD (p : Int × Int × Int) : D := .tup [.int p.1, .int p.2.1, .int p.2.2]
@[simp] theorem frz_trD {p : Int × Int × Int} : D.frz (trD p) = trD p := rfl
@[simp] theorem isUn_trD {p : Int × Int × Int} : isUn (trD p) = false := rfl
@[simp] theorem frzs_trD {l : List (Int × Int × Int)} : D.frzs (l.map trD) = l.map trD := frzs_id fun _ => rfl
@[simp] theorem wG_trD {n : Nat} {gs : GMs} {p : Int × Int × Int} {S : S0} {QG : S0 → Prop} : wG (gTupM n gs) (trD p) S QG ↔ 3 = n ∧ wGs gs [.int p.1, .int p.2.1, .int p.2.2] S QG := by simp [trD]
@[simp] theorem pl_trD {n : Nat} {p : Int × Int × Int} : Pl (n + 2) (trD p) := by simp [trD]
theorem stOk_iff : ∀ {gs : List (Int × Int)} {xs : List Int}, StOk gs xs ↔ xs.length = gs.length ∧ ∀ k : Nat, k < gs.length → 0 ≤ cn xs k ∧ cn xs k ≤ (grp gs k).2
  | [], [] => by simp [StOk]
  | [], x :: xs => by simp [StOk]
  | p :: r, [] => by simp [StOk]
  | p :: r, x :: xs => by
    simp only [StOk, stOk_iff (gs := r) (xs := xs), List.length_cons]
    constructor
    · rintro ⟨h1, h2, h3, h4⟩
      refine ⟨by omega, fun k hk => ?_⟩
      cases k with
      | zero => exact ⟨h1, h2⟩
      | succ k => exact h4 k (by omega)
    · rintro ⟨h1, h2⟩
      exact ⟨(h2 0 (by omega)).1, (h2 0 (by omega)).2, by omega, fun k hk => h2 (k + 1) (by omega)⟩
theorem StOk.at {gs : List (Int × Int)} {xs : List Int} (h : StOk gs xs) {k : Int} (h0 : 0 ≤ k) (h1 : k < gs.length) : 0 ≤ cn xs k ∧ cn xs k ≤ (grp gs k).2 := by
  obtain ⟨n, rfl⟩ := Int.eq_ofNat_of_zero_le h0
  exact (stOk_iff.mp h).2 n (by omega)
def apm (xs : List Int) (d u t : Int) : List Int := if 0 ≤ u then (xs.set d.toNat (cn xs d + t)).set u.toNat (cn (xs.set d.toNat (cn xs d + t)) u - t) else xs.set d.toNat (cn xs d + t)
theorem ixN_of {n : Nat} {k : Int} (h0 : 0 ≤ k) (h1 : k < n) : ixN n k = some k.toNat := by
  obtain ⟨m, rfl⟩ := Int.eq_ofNat_of_zero_le h0
  have : m < n := by omega
  simp [ixN, this]
theorem setI {xs : List Int} {k : Nat} {v : Int} : (xs.map D.int).set k (.int v) = (xs.set k v).map .int := by rw [List.map_set]
theorem applied_eq {t : Bool} {xs : List Int} {d u n : Int} (h0 : 0 ≤ d) (h1 : d < xs.length) (h2 : u < xs.length) {Q : D → List D → Prop} :
    wF m__law_applied [stS t xs, .tup [.int d, .int u], .int n] Q ↔ Q (stS true (apm xs d u n)) [stS t xs, .tup [.int d, .int u], .int n] := by
  rw [m__law_applied, wF_def]
  simp (disch := omega) [-List.map_set, b__law_applied, atI_map, at_cn, ixN_of, setI]
  have l1 : (xs.set d.toNat (cn xs d + n)).length = xs.length := by simp
  by_cases h3 : 0 ≤ u
  · simp [-List.map_set, h3, atI_map]
    rw [at_cn h3 (by rw [l1]; exact h2)]
    simp [-List.map_set, ixN_of h3 h2, setI, tp_of, apm, h3]
  · simp [-List.map_set, h3, apm, tp_of]
end WC
namespace WC
open WF PySem
open L2 (atI ixN)
theorem pick_enc {α : Type} {enc : α → D} {Q : D → List D → Prop} {k : Nat} {xs : List α} {a b c : Int} (r : Rg k a b c) (hk : k ≤ 200000000) (h1 : xs ≠ []) (h3 : xs.length < 1000000)
    (q : ∀ x a' c', x ∈ xs → Rg (k + 1) a' b c' → Q (enc x) [rngE a' b c', .lst false (xs.map enc)]) : wF m__law_pick [rngE a b c, .lst false (xs.map enc)] Q := by
  have hl : 0 < xs.length := List.length_pos_iff.mpr h1
  rw [m__law_pick, wF_def]
  simp [b__law_pick]
  refine draw_sp r hk (by omega) (by omega) fun v a' c' v0 v1 r' => ?_
  obtain ⟨x, hx, e⟩ := atI_mem v0 v1
  simp [atI_map, e]
  exact q _ _ _ hx r'
def Jmp (lim : Int) (gs : List (Int × Int)) : List Int → List (Int × Int × Int) → List Int → Prop
  | xs, [], ys => xs = ys
  | xs, (d, u, t) :: r, ys => ((d, u) ∈ legM lim gs xs ∧ 1 ≤ t ∧ cn xs d + t ≤ (grp gs d).2 ∧ (0 ≤ u → t ≤ cn xs u)) ∧ Jmp lim gs (apm xs d u t) r ys
theorem Jmp.snoc {lim : Int} {gs : List (Int × Int)} {ys : List Int} {d u t : Int} (h1 : (d, u) ∈ legM lim gs ys ∧ 1 ≤ t ∧ cn ys d + t ≤ (grp gs d).2 ∧ (0 ≤ u → t ≤ cn ys u)) : ∀ {js : List (Int × Int × Int)} {xs : List Int}, Jmp lim gs xs js ys → Jmp lim gs xs (js ++ [(d, u, t)]) (apm ys d u t)
  | [], xs, h => by cases h; exact ⟨h1, rfl⟩
  | (d', u', t') :: r, xs, h => ⟨h.1, Jmp.snoc h1 h.2⟩
theorem cn_set {xs : List Int} {k : Nat} {v : Int} {j : Int} (h0 : 0 ≤ j) (hk : k < xs.length) : cn (xs.set k v) j = if j = k then v else cn xs j := by
  obtain ⟨n, rfl⟩ := Int.eq_ofNat_of_zero_le h0
  simp only [cn, Int.toNat_natCast, List.getD_eq_getElem?_getD, List.getElem?_set]
  by_cases h : k = n
  · subst h; simp [hk]
  · simp [h]
    intro e; omega
theorem apm_len {xs : List Int} {d u t : Int} : (apm xs d u t).length = xs.length := by unfold apm; split <;> simp
theorem cn_apm {xs : List Int} {d u t j : Int} (h0 : 0 ≤ d) (h1 : d < xs.length) (h2 : u < d) (hj : 0 ≤ j) : cn (apm xs d u t) j = cn xs j + (if j = d then t else 0) - (if j = u then t else 0) := by
  unfold apm
  split
  · rw [cn_set hj (by simp; omega), cn_set (by omega) (by omega), cn_set hj (by omega)]
    have e1 : (j = ((u.toNat : Nat) : Int)) = (j = u) := by rw [Int.toNat_of_nonneg (by omega)]
    have e2 : (j = ((d.toNat : Nat) : Int)) = (j = d) := by rw [Int.toNat_of_nonneg (by omega)]
    have e3 : ¬ (u = ((d.toNat : Nat) : Int)) := by omega
    simp only [e1, e2, e3, if_false]
    by_cases c1 : j = u
    · subst c1
      have : ¬ j = d := by omega
      simp [this]
    · by_cases c2 : j = d
      · subst c2; simp [c1]
      · simp [c1, c2]
  · rw [cn_set hj (by omega)]
    have e2 : (j = ((d.toNat : Nat) : Int)) = (j = d) := by rw [Int.toNat_of_nonneg (by omega)]
    have e3 : ¬ j = u := by omega
    simp only [e2, e3, if_false]
    by_cases c2 : j = d
    · subst c2; simp
    · simp [c2]
theorem mem_legM {lim : Int} {gs : List (Int × Int)} {xs : List Int} {m : Int × Int} : m ∈ legM lim gs xs ↔ (-1 ≤ m.2 ∧ m.2 < m.1 ∧ m.1 < gs.length ∧ wt gs m.1 - wt gs m.2 ≤ lim) ∧ cn xs m.1 < (grp gs m.1).2 ∧ (m.2 < 0 ∨ 0 < cn xs m.2) := by
  rw [legM, List.mem_filter, mem_allM]
  simp [legB]
theorem stOk_apm {lim : Int} {gs : List (Int × Int)} {xs : List Int} {d u t : Int} (hs : StOk gs xs) (hm : (d, u) ∈ legM lim gs xs) (h1 : 1 ≤ t) (h2 : cn xs d + t ≤ (grp gs d).2) (h3 : 0 ≤ u → t ≤ cn xs u) : StOk gs (apm xs d u t) := by
  have hm := mem_legM.mp hm
  simp only at hm
  have hl := hs.len
  refine stOk_iff.mpr ⟨by rw [apm_len]; exact hl, fun k hk => ?_⟩
  have hk' := (stOk_iff.mp hs).2 k hk
  rw [cn_apm (by omega) (by omega) (by omega) (by omega)]
  by_cases c1 : (k : Int) = u
  · have c2 : ¬ (k : Int) = d := by omega
    rw [if_neg c2, if_pos c1]
    have := h3 (by omega)
    rw [← c1] at this
    omega
  · by_cases c2 : (k : Int) = d
    · rw [if_pos c2, if_neg c1]
      rw [c2] at hk' ⊢
      omega
    · rw [if_neg c2, if_neg c1]; omega
theorem Jmp.ok {lim : Int} {gs : List (Int × Int)} : ∀ {js : List (Int × Int × Int)} {xs ys : List Int}, StOk gs xs → Jmp lim gs xs js ys → StOk gs ys
  | [], xs, ys, hs, h => by cases h; exact hs
  | (d, u, t) :: r, xs, ys, hs, h => Jmp.ok (stOk_apm hs h.1.1 h.1.2.1 h.1.2.2.1 h.1.2.2.2) h.2
theorem legM_len {lim : Int} {gs : List (Int × Int)} {xs : List Int} (hl : gs.length ≤ 100) : (legM lim gs xs).length ≤ 10100 := by
  have := List.length_filter_le (legB gs xs) (allM lim gs)
  have := allM_len (lim := lim) hl
  unfold legM
  omega
theorem Rise.bound {m : Int} : ∀ {gs : List (Int × Int)} {w : Int}, Rise m w gs → ∀ p ∈ gs, 1 ≤ p.2 ∧ p.2 ≤ m
  | [], w, h, p, hp => by cases hp
  | p :: r, w, h, q, hq => by
    rcases List.mem_cons.mp hq with rfl | hq
    · exact ⟨h.2.1, h.2.2.1⟩
    · exact Rise.bound h.2.2.2 q hq
theorem grp_mem {gs : List (Int × Int)} {k : Int} (h0 : 0 ≤ k) (h1 : k < gs.length) : grp gs k ∈ gs := by
  obtain ⟨n, rfl⟩ := Int.eq_ofNat_of_zero_le h0
  have hn : n < gs.length := by omega
  simp [grp, hn]
theorem Wl.size {n : Nat} {m lim : Int} {gs : List (Int × Int)} (W : Wl n m lim gs) {k : Int} (h0 : 0 ≤ k) (h1 : k < gs.length) : 1 ≤ (grp gs k).2 ∧ (grp gs k).2 ≤ m := W.rise.bound _ (grp_mem h0 h1)
theorem jumps_sp {Q : D → List D → Prop} {k n N : Nat} {m lim : Int} {gs : List (Int × Int)} {xs : List Int} {a b c : Int} (r : Rg k a b c) (hk : k ≤ 100000000) (W : Wl N m lim gs) (hN : N ≤ 100) (hm : m < 2 ^ 62) (hs : StOk gs xs) (hn : n ≤ 1000)
    (q : ∀ ys js a' c', Jmp lim gs xs js ys → StOk gs ys → js.length ≤ n → Rg (k + 3 * n) a' b c' → Q (.tup [stS true ys, .lst false (js.map trD)]) [rngE a' b c', wlD true lim gs, .un, .int n]) : wF m__law_random_jumps [rngE a b c, wlD true lim gs, stS true xs, .int n] Q := by
  have hl := W.len
  rw [m__law_random_jumps, wF_def]
  simp [b__law_random_jumps]
  refine ⟨by omega, ?_⟩
  refine loop_rng (fun i S => ∃ ys js a c x5 x6 x7 x8 x9 x10, S = [rngE a b c, wlD true lim gs, stS true ys, .int n, .lst true (js.map trD), x5, x6, x7, x8, x9, x10] ∧ Jmp lim gs xs js ys ∧ StOk gs ys ∧ js.length ≤ i ∧ Rg (k + 3 * i) a b c) ?_ ⟨xs, [], _, _, _, _, _, _, _, _, rfl, rfl, hs, by simp, by simpa using r⟩ ?_
  · rintro i hi S ⟨ys, js, a, c, x5, x6, x7, x8, x9, x10, rfl, J, hy, hj, r⟩
    have ly := hy.len
    have hL := legM_len (lim := lim) (xs := ys) (show gs.length ≤ 100 by omega)
    simp [lw_legal_moves_eq (show gs.length ≤ 100 by omega) ly]
    rw [eqD_lst0 (ePr (n := 0)) (by omega)]
    simp
    by_cases he : legM lim gs ys = []
    · simp [he]
      exact ⟨ys, js, a, c, by simp, J, hy, by omega, r.mono (by omega)⟩
    · simp [he]
      refine pick_enc r (by omega) he (by omega) fun p a c hp r => ?_
      obtain ⟨d, u⟩ := p
      have hp' := mem_legM.mp hp
      simp only at hp'
      have hb := W.size (k := d) (by omega) (by omega)
      have hc := hy.at (k := d) (by omega) (by omega)
      have fin : ∀ t : Int, 1 ≤ t → t ≤ (grp gs d).2 - cn ys d → (0 ≤ u → t ≤ cn ys u) → Jmp lim gs xs (js ++ [(d, u, t)]) (apm ys d u t) ∧ StOk gs (apm ys d u t) := fun t h1 h2 h3 =>
        ⟨Jmp.snoc ⟨hp, h1, by omega, h3⟩ J, stOk_apm hy hp h1 (by omega) h3⟩
      by_cases hu : u < 0
      · simp (disch := omega) [atI_map, at_grp, at_cn, hu]
        refine draw_sp r (by omega) (by omega) (by omega) fun v a c v0 v1 r => ?_
        simp
        refine pick_sp (ns := [1, (grp gs d).2 - cn ys d, 1 + v]) r (by omega) (by simp) (by simp) fun t a c ht r => ?_
        simp at ht
        simp (disch := omega) [applied_eq]
        obtain ⟨f1, f2⟩ := fin t (by omega) (by omega) (by omega)
        exact ⟨by omega, apm ys d u t, js ++ [(d, u, t)], a, c, by simp [trD], f1, f2, by simp; omega, r.mono (by omega)⟩
      · have hc2 := hy.at (k := u) (by omega) (by omega)
        simp (disch := omega) [atI_map, at_grp, at_cn, hu]
        generalize hf : (if cn ys u < (grp gs d).2 - cn ys d then cn ys u else (grp gs d).2 - cn ys d) = f
        have hf1 : 1 ≤ f ∧ f ≤ (grp gs d).2 - cn ys d ∧ f ≤ cn ys u := by rw [← hf]; split <;> omega
        refine draw_sp r (by omega) (by omega) (by omega) fun v a c v0 v1 r => ?_
        simp
        refine pick_sp (ns := [1, f, 1 + v]) r (by omega) (by simp) (by simp) fun t a c ht r => ?_
        simp at ht
        simp (disch := omega) [applied_eq]
        obtain ⟨f1, f2⟩ := fin t (by omega) (by omega) (by omega)
        exact ⟨by omega, apm ys d u t, js ++ [(d, u, t)], a, c, by simp [trD], f1, f2, by simp; omega, r.mono (by omega)⟩
  · rintro S ⟨ys, js, a, c, x5, x6, x7, x8, x9, x10, rfl, J, hy, hj, r⟩
    simp
    exact q ys js a c J hy hj r
end WC
namespace WC
open WF PySem
open L2 (atI ixN)
theorem zw {α β γ : Type} {f : α → β → γ} : ∀ {as : List α} {bs : List β}, List.zipWith f as bs = (as.zip bs).map fun z => f z.1 z.2
  | [], _ => by simp
  | _ :: _, [] => by simp
  | a :: as, b :: bs => by simp [zw (as := as) (bs := bs)]
@[simp] theorem intsD_mapf {α : Type} {f : α → Int} {l : List α} : intsD (l.map fun x => D.int (f x)) = some (l.map f) := by
  have := intsD_map' (l := l.map f)
  rwa [List.map_map] at this
theorem StOk.mem {m : Int} : ∀ {gs : List (Int × Int)} {xs : List Int} {w : Int}, StOk gs xs → Rise m w gs → ∀ x ∈ xs, 0 ≤ x ∧ x ≤ m
  | [], [], _, _, _, x, h => by cases h
  | p :: r, y :: ys, w, h, hr, x, hx => by
    rcases List.mem_cons.mp hx with rfl | hx
    · have := hr.2.2.1; exact ⟨h.1, by have := h.2.1; omega⟩
    · exact StOk.mem h.2.2 hr.2.2.2 x hx
theorem Wl.mem {n : Nat} {m lim : Int} {gs : List (Int × Int)} {xs : List Int} (W : Wl n m lim gs) (hs : StOk gs xs) : ∀ x ∈ xs, 0 ≤ x ∧ x ≤ m := hs.mem W.rise
theorem Jmp.mem {lim : Int} {gs : List (Int × Int)} {m : Int} : ∀ {js : List (Int × Int × Int)} {xs ys : List Int}, (∀ k : Int, 0 ≤ k → k < gs.length → (grp gs k).2 ≤ m) → StOk gs xs → Jmp lim gs xs js ys → ∀ j ∈ js, -1 ≤ j.2.1 ∧ j.2.1 < j.1 ∧ j.1 < gs.length ∧ 1 ≤ j.2.2 ∧ j.2.2 ≤ m
  | [], xs, ys, _, _, h, j, hj => by cases hj
  | (d, u, t) :: r, xs, ys, hg, hs, h, j, hj => by
    have hm := mem_legM.mp h.1.1
    simp only at hm
    rcases List.mem_cons.mp hj with rfl | hj
    · have h1 := hg d (by omega) (by omega)
      have h2 := hs.at (k := d) (by omega) (by omega)
      have h3 := h.1.2
      show -1 ≤ u ∧ u < d ∧ d < (gs.length : Int) ∧ 1 ≤ t ∧ t ≤ m
      omega
    · exact Jmp.mem hg (stOk_apm hs h.1.1 h.1.2.1 h.1.2.2.1 h.1.2.2.2) h.2 j hj
end WC
namespace WC
open WF PySem
open L2 (atI ixN)
theorem loop_ix {g : GM} {body : SM} {Q : Fl → S0 → Prop} (f : Nat → D) (st : Nat → S0 → Prop) {n : Nat} (step : ∀ k, k < n → ∀ S, st k S → wG g (f k) S fun S => wS body S fun fl S => match fl with
      | .nx => st (k + 1) S
      | .ct => st (k + 1) S
      | .bk => Q .nx S
      | fl => Q fl S) {S : S0} (h0 : st 0 S) (fin : ∀ S, st n S → Q .nx S) : wS (loopM g body ((List.range n).map f)) S Q := by
  refine loop_pre f (fun pre S => st pre.length S) (List.range n) ?_ h0 (fun S h => fin S (by simpa using h))
  intro pre x post e S h
  have hl : pre.length < n := by
    have := congrArg List.length e
    simp at this
    omega
  have hx : x = pre.length := by
    have := congrArg (fun l => l[pre.length]?) e
    simp [hl] at this
    omega
  subst hx
  refine wG.mono (step _ hl S h) fun S q => wS.mono q fun fl S q => ?_
  cases fl with
  | nx => simpa using q
  | ct => simpa using q
  | bk => exact q
  | rt d => exact q
  | ex x => exact q
theorem zipIdx_enc {α : Type} {xs : List α} {enc : α → D} (d : α) : (List.map enc xs).zipIdx.map (fun p => D.tup [.int (p.2 : Nat), p.1]) = (List.range xs.length).map fun k => .tup [.int (k : Nat), enc (xs.getD k d)] := by
  apply List.ext_getElem
  · simp
  · intro i h1 h2
    simp at h1
    simp [h1]
theorem enumG {t : Bool} {gs : List (Int × Int)} : (gs.map (gpD t)).zipIdx.map (fun p => D.tup [.int (p.2 : Nat), p.1]) = (List.range gs.length).map fun k => .tup [.int (k : Nat), gpD t (grp gs (k : Nat))] := zipIdx_enc (0, 0)
theorem enumI {xs : List Int} : (xs.map D.int).zipIdx.map (fun p => D.tup [.int (p.2 : Nat), p.1]) = (List.range xs.length).map fun k => .tup [.int (k : Nat), .int (cn xs (k : Nat))] := zipIdx_enc 0
theorem grp_nat {gs : List (Int × Int)} {k : Nat} : gs.getD k (0, 0) = grp gs k := rfl
theorem atI_last {α : Type} {xs : List α} {x : α} : atI (xs ++ [x]) (-1) = some x := by
  have e : ixN (xs.length + 1) (-1) = some xs.length := by
    unfold ixN
    rw [if_neg (by omega), if_pos (by omega)]
    congr 1
    omega
  simp [atI, e]
def stt (lim : Int) (gs : List (Int × Int)) : Nat → Nat
  | 0 => 0
  | k + 1 => if wt gs ((k + 1 : Nat) : Int) - wt gs (k : Nat) ≤ lim then stt lim gs k else k + 1
def stP (lim : Int) (gs : List (Int × Int)) (k : Nat) : List Int := (List.range k).map fun k => ((stt lim gs k : Nat) : Int)
def stL (lim : Int) (gs : List (Int × Int)) : List Int := stP lim gs gs.length
theorem stP_succ {lim : Int} {gs : List (Int × Int)} {k : Nat} : stP lim gs (k + 1) = stP lim gs k ++ [((stt lim gs k : Nat) : Int)] := by simp [stP, List.range_succ]
@[simp] theorem stP_len {lim : Int} {gs : List (Int × Int)} {k : Nat} : (stP lim gs k).length = k := by simp [stP]
@[simp] theorem stL_len {lim : Int} {gs : List (Int × Int)} : (stL lim gs).length = gs.length := by simp [stL]
theorem cn_stL {lim : Int} {gs : List (Int × Int)} {k : Nat} (h : k < gs.length) : cn (stL lim gs) k = stt lim gs k := by
  simp [cn, stL, stP, h]
theorem wt_nat {gs : List (Int × Int)} {k : Nat} : wt gs (k : Int) = (grp gs k).1 := by unfold wt; rw [if_neg (by omega)]
theorem segment_starts_eq {t : Bool} {lim : Int} {gs : List (Int × Int)} (hl : gs.length ≤ 100) {Q : D → List D → Prop} :
    wF m_segment_starts [wlD t lim gs] Q ↔ Q (.lst true ((stL lim gs).map .int)) [wlD t lim gs] := by
  refine wF_iff fun Q q => ?_
  rw [m_segment_starts, wF_def]
  simp [b_segment_starts, enumD_one, -List.map_map]
  rw [enumG]
  refine loop_ix _ (fun k S => ∃ x2 x3 x4 x5, S = [wlD t lim gs, .lst true ((stP lim gs k).map .int), x2, x3, x4, x5]) ?_ ⟨_, _, _, _, rfl⟩ ?_
  · rintro k hk S ⟨x2, x3, x4, x5, rfl⟩
    rw [stP_succ, List.map_append]
    have hL : (stP lim gs k).length < 1000000 := by simp; omega
    cases k with
    | zero =>
      simp [stt, stP]
    | succ k =>
      rw [stP_succ, List.map_append] at *
      have e1 : atI gs (k : Int) = some (grp gs k) := at_grp (by omega) (by omega)
      have hk0 : 0 < (k : Int) + 1 := by omega
      have e3 : wt gs ((k : Int) + 1) = (grp gs ((k : Int) + 1)).1 := by unfold wt; rw [if_neg (by omega)]
      have hL : k + 1 < 1000000 := by omega
      have e2 : ((k + 1 : Nat) : Int) = (k : Int) + 1 := by omega
      simp [atI_map, e1, hk0, atI_last, stt, wt_nat, e2, grp_nat]
      by_cases hc : (grp gs ((k : Int) + 1)).1 - (grp gs k).1 ≤ lim
      · simp [hc, hL, e3]
      · simp [hc, hL, e3]
  · rintro S ⟨x2, x3, x4, x5, rfl⟩
    simp
    exact q
def segP (lim : Int) (gs : List (Int × Int)) : Nat → List (List Int)
  | 0 => []
  | k + 1 => if stt lim gs k = k then segP lim gs k ++ [[(k : Int)]] else (segP lim gs k).set ((segP lim gs k).length - 1) ((segP lim gs k).getD ((segP lim gs k).length - 1) [] ++ [(k : Int)])
def segL (lim : Int) (gs : List (Int × Int)) : List (List Int) := segP lim gs gs.length
def ownL (l : List Int) : D := .lst true (l.map .int)
def frzL (l : List Int) : D := .lst false (l.map .int)
@[simp] theorem frz_ownL {l : List Int} : D.frz (ownL l) = frzL l := by simp [ownL, frzL]
@[simp] theorem frz_frzL {l : List Int} : D.frz (frzL l) = frzL l := by simp [frzL]
@[simp] theorem isUn_frzL {l : List Int} : isUn (frzL l) = false := rfl
@[simp] theorem frzs_ownL {ls : List (List Int)} : D.frzs (ls.map ownL) = ls.map frzL := by rw [D.frzs_map, List.map_map]; exact List.map_congr_left fun _ _ => frz_ownL
@[simp] theorem frzs_frzL {ls : List (List Int)} : D.frzs (ls.map frzL) = ls.map frzL := frzs_id fun _ => frz_frzL
def strP (lim : Int) (gs : List (Int × Int)) (k : Nat) : List Nat := (List.range k).filter fun j => decide (stt lim gs j = j)
theorem strP_succ {lim : Int} {gs : List (Int × Int)} {k : Nat} : strP lim gs (k + 1) = strP lim gs k ++ if stt lim gs k = k then [k] else [] := by
  unfold strP
  rw [List.range_succ, List.filter_append]
  by_cases h : stt lim gs k = k <;> simp [h]
theorem stt_le {lim : Int} {gs : List (Int × Int)} : ∀ k, stt lim gs k ≤ k
  | 0 => Nat.le_refl _
  | k + 1 => by
    unfold stt
    have := stt_le (lim := lim) (gs := gs) k
    split <;> omega
theorem segP_ok {lim : Int} {gs : List (Int × Int)} : ∀ k, (0 < k → segP lim gs k ≠ []) ∧ (segP lim gs k).length ≤ k ∧ ∃ hs : List (Int × List Int), segP lim gs k = hs.map (fun p => p.1 :: p.2) ∧ hs.map Prod.fst = (strP lim gs k).map fun (j : Nat) => (j : Int)
  | 0 => ⟨by simp, by simp [segP], [], rfl, by simp [strP]⟩
  | k + 1 => by
    obtain ⟨h1, h2, hs, e1, e2⟩ := segP_ok (lim := lim) (gs := gs) k
    rw [strP_succ]
    unfold segP
    by_cases hk : stt lim gs k = k
    · simp only [hk, if_true]
      refine ⟨by simp, by simp; omega, hs ++ [((k : Int), [])], by simp [e1], by simp [e2]⟩
    · simp only [hk, if_false]
      have hk0 : 0 < k := by
        rcases Nat.eq_zero_or_pos k with rfl | h
        · exact absurd rfl hk
        · exact h
      have hne := h1 hk0
      have hl : 0 < hs.length := by
        rcases Nat.eq_zero_or_pos hs.length with h | h
        · rw [List.length_eq_zero_iff.mp h] at e1; exact absurd e1 hne
        · exact h
      refine ⟨fun _ => by simpa using hne, by simp; omega, hs.set (hs.length - 1) ((hs.getD (hs.length - 1) (0, [])).1, (hs.getD (hs.length - 1) (0, [])).2 ++ [(k : Int)]), ?_, ?_⟩
      · rw [e1, List.map_set]
        simp
        congr 1
        rw [List.getElem?_eq_getElem (by omega)]
        simp
      · rw [List.map_set, List.append_nil, ← e2]
        simp
        apply List.ext_getElem
        · simp
        · intro i h3 h4
          rw [List.getElem_set]
          split
          · rename_i h5
            subst h5
            rw [List.getElem?_eq_getElem (by omega)]
            simp
          · rfl
theorem segP_lens {lim : Int} {gs : List (Int × Int)} : ∀ k, ∀ l ∈ segP lim gs k, l.length ≤ k
  | 0, l, h => by simp [segP] at h
  | k + 1, l, h => by
    have ih := segP_lens (lim := lim) (gs := gs) k
    unfold segP at h
    split at h
    · rcases List.mem_append.mp h with h | h
      · have := ih l h; omega
      · simp at h; subst h; simp
    · rcases List.mem_or_eq_of_mem_set h with h | h
      · have := ih l h; omega
      · subst h
        simp
        cases hh : (segP lim gs k)[(segP lim gs k).length - 1]? with
        | none => simp
        | some y => simp; exact ih y (List.mem_of_getElem? hh)
theorem segments_eq {t : Bool} {lim : Int} {gs : List (Int × Int)} (hl : gs.length ≤ 100) {Q : D → List D → Prop} :
    wF m_segments [wlD t lim gs] Q ↔ Q (.lst true ((segL lim gs).map ownL)) [wlD t lim gs] := by
  refine wF_iff fun Q q => ?_
  rw [m_segments, wF_def]
  simp [b_segments, segment_starts_eq hl, enumD_one, -List.map_map]
  rw [enumI]
  simp only [stL_len]
  refine loop_ix _ (fun k S => ∃ x2 x3, S = [wlD t lim gs, .lst true ((segP lim gs k).map ownL), x2, x3]) ?_ ⟨_, _, rfl⟩ ?_
  · rintro k hk S ⟨x2, x3, rfl⟩
    obtain ⟨h1, h2, hs, e1, e2⟩ := segP_ok (lim := lim) (gs := gs) k
    have es : segP lim gs (k + 1) = if stt lim gs k = k then segP lim gs k ++ [[(k : Int)]] else (segP lim gs k).set ((segP lim gs k).length - 1) ((segP lim gs k).getD ((segP lim gs k).length - 1) [] ++ [(k : Int)]) := rfl
    rw [cn_stL hk, es]
    have hne := h1
    have hls := segP_lens (lim := lim) (gs := gs) k
    clear h1
    generalize segP lim gs k = sg at *
    by_cases hk : stt lim gs k = k
    · have e3 : ixN (sg.length + 1) (-1) = some sg.length := by
        unfold ixN
        rw [if_neg (by omega), if_pos (by omega)]
        congr 1
        omega
      have h3 : sg.length < 1000000 := by omega
      simp [hk, e3, h3, ownL]
    · have hk0 : 0 < k := by
        rcases Nat.eq_zero_or_pos k with rfl | h
        · exact absurd rfl hk
        · exact h
      have h4 : 0 < sg.length := List.length_pos_iff.mpr (hne hk0)
      have e3 : ixN sg.length (-1) = some (sg.length - 1) := by
        unfold ixN
        rw [if_neg (by omega), if_pos (by omega)]
        congr 1
        omega
      have hk' : ¬ (k : Int) = (stt lim gs k : Int) := by omega
      have e4 : sg[sg.length - 1]? = some sg[sg.length - 1] := List.getElem?_eq_getElem _
      have h5 : sg[sg.length - 1].length < 1000000 := by have := hls _ (List.getElem_mem (by omega : sg.length - 1 < sg.length)); omega
      simp [hk, hk', e3, e4, ownL, h5]
  · rintro S ⟨x2, x3, rfl⟩
    simp
    exact q
end WC
namespace WC
open WF PySem
open L2 (atI ixN)
def grd (lim : Int) (gs : List (Int × Int)) : Bool := decide (wt gs 0 ≤ lim)
theorem is_grounded_eq {t : Bool} {lim : Int} {gs : List (Int × Int)} (h0 : gs ≠ []) {Q : D → List D → Prop} : wF m_is_grounded [wlD t lim gs] Q ↔ Q (.bl (grd lim gs)) [wlD t lim gs] := by
  have hl := List.length_pos_iff.mpr h0
  have e : atI gs 0 = some (grp gs 0) := at_grp (by omega) (by omega)
  have e2 : wt gs 0 = (grp gs 0).1 := wt_nat (k := 0)
  rw [m_is_grounded, wF_def]
  simp [b_is_grounded, atI_map, e, grd, e2]
def consB (lim : Int) (gs : List (Int × Int)) (k : Nat) : Bool := decide (stt lim gs k = k) && (decide (0 < k) || !grd lim gs)
def consL (lim : Int) (gs : List (Int × Int)) : List Int := ((List.range gs.length).filter (consB lim gs)).map fun (k : Nat) => (k : Int)
theorem conserved_starts_eq {t : Bool} {lim : Int} {gs : List (Int × Int)} (h0 : gs ≠ []) (hl : gs.length ≤ 100) {Q : D → List D → Prop} :
    wF m_conserved_starts [wlD t lim gs] Q ↔ Q (.lst true ((consL lim gs).map .int)) [wlD t lim gs] := by
  refine wF_iff fun Q q => ?_
  rw [m_conserved_starts, wF_def]
  obtain ⟨h1, h2, hs, e1, e2⟩ := segP_ok (lim := lim) (gs := gs) gs.length
  have e3 : segL lim gs = hs.map (fun p => p.1 :: p.2) := e1
  have e4 : (segL lim gs).map frzL = hs.map fun p => frzL (p.1 :: p.2) := by rw [e3, List.map_map]; rfl
  have lh : hs.length ≤ 100 := by rw [e1] at h2; simp at h2; omega
  simp [b_conserved_starts, segments_eq hl]
  rw [e4]
  refine comp_map1 (enc := fun p : Int × List Int => frzL (p.1 :: p.2)) (φ := fun p => .int p.1) (t := fun p => decide (0 < p.1) || !grd lim gs) hs (fun p hp => ?_) (by simp; omega) ?_
  · simp [frzL]
    by_cases h : 0 < p.1
    · simp [h]
    · simp [h, is_grounded_eq h0]
  · have e5 : (hs.filter fun p => decide (0 < p.1) || !grd lim gs).map (fun p => D.int p.1) = (consL lim gs).map .int := by
      have e6 : (hs.filter fun p => decide (0 < p.1) || !grd lim gs).map Prod.fst = (hs.map Prod.fst).filter fun x => decide (0 < x) || !grd lim gs := by
        rw [List.filter_map]; rfl
      have e7 : consL lim gs = (hs.map Prod.fst).filter fun x => decide (0 < x) || !grd lim gs := by
        rw [e2, List.filter_map]
        unfold consL strP
        rw [List.filter_filter]
        congr 1
        apply List.filter_congr
        intro x hx
        simp [consB, Bool.and_comm]
      rw [e7, ← e6, List.map_map]; rfl
    rw [List.nil_append, e5]
    simp
    exact q
def sufI (lim : Int) (gs : List (Int × Int)) (n k : Nat) : List Nat := (List.range n).filter fun j => decide (k ≤ j) && decide (stt lim gs j = stt lim gs k)
def suf (lim : Int) (gs : List (Int × Int)) (xs : List Int) (k : Nat) : Int := ((sufI lim gs gs.length k).map fun (j : Nat) => cn xs j).sum
def sufL (lim : Int) (gs : List (Int × Int)) (xs : List Int) : List Int := (List.range gs.length).map (suf lim gs xs)
@[simp] theorem sufL_len {lim : Int} {gs : List (Int × Int)} {xs : List Int} : (sufL lim gs xs).length = gs.length := by simp [sufL]
theorem cn_sufL {lim : Int} {gs : List (Int × Int)} {xs : List Int} {k : Nat} (h : k < gs.length) : cn (sufL lim gs xs) k = suf lim gs xs k := by simp [cn, sufL, h]
theorem suffix_counts_eq {t t' : Bool} {lim : Int} {gs : List (Int × Int)} {xs : List Int} (hl : gs.length ≤ 100) (hs : xs.length = gs.length) {Q : D → List D → Prop} :
    wF m_suffix_counts [wlD t lim gs, stS t' xs] Q ↔ Q (stS true (sufL lim gs xs)) [wlD t lim gs, stS t' xs] := by
  refine wF_iff fun Q q => ?_
  rw [m_suffix_counts, wF_def]
  simp [b_suffix_counts, segment_starts_eq hl, enumD_one, -List.map_map]
  rw [enumI]
  simp only [stL_len]
  refine comp_map0 (enc := fun k : Nat => D.tup [.int k, .int (cn (stL lim gs) k)]) (φ := fun k => .int (suf lim gs xs k)) (List.range gs.length) (fun k hk => ?_) (by simp; omega) ?_
  · have hk : k < gs.length := by simpa using hk
    simp [enumD_one, -List.map_map]
    rw [enumI]
    refine comp_map1 (enc := fun j : Nat => D.tup [.int j, .int (cn xs j)]) (φ := fun j => .int (cn xs j)) (t := fun j => decide (k ≤ j) && decide (stt lim gs j = stt lim gs k)) (List.range xs.length) (fun j hj => ?_) (by simp; omega) ?_
    · have hj : j < gs.length := by rw [← hs]; simpa using hj
      simp
      by_cases h1 : k ≤ j
      · have h1' : (k : Int) ≤ j := by omega
        have e1 : atI (stL lim gs) (j : Int) = some (cn (stL lim gs) j) := at_cn (by omega) (by simp; omega)
        simp [h1, h1', atI_map, e1, cn_stL hk, cn_stL hj]
        by_cases h2 : stt lim gs j = stt lim gs k
        · simp [h2]
        · have h2' : ¬ (stt lim gs j : Int) = (stt lim gs k : Int) := by omega
          simp [h2, h2']
      · have h1' : ¬ (k : Int) ≤ j := by omega
        simp [h1, h1']
    · simp
      rw [hs]
      rfl
  · have e : (List.range gs.length).map (fun k => D.int (suf lim gs xs k)) = (sufL lim gs xs).map .int := by simp [sufL]
    rw [List.nil_append, e]
    simp
    exact q
def obAt (lim : Int) (gs : List (Int × Int)) (xs ys : List Int) (k : Nat) : Option (Bool × Int) := if suf lim gs ys k < suf lim gs xs k then some (false, (k : Int)) else if suf lim gs xs k < suf lim gs ys k ∧ consB lim gs k = true then some (true, (k : Int)) else none
def obsP (lim : Int) (gs : List (Int × Int)) (xs ys : List Int) (k : Nat) : List (Bool × Int) := (List.range k).filterMap (obAt lim gs xs ys)
def obsL (lim : Int) (gs : List (Int × Int)) (xs ys : List Int) : List (Bool × Int) := obsP lim gs xs ys gs.length
def obD (p : Bool × Int) : D := .tup [.str (if p.1 = true then "more" else "fewer"), .int p.2]
@[simp] theorem frz_obD {p : Bool × Int} : D.frz (obD p) = obD p := rfl
@[simp] theorem isUn_obD {p : Bool × Int} : isUn (obD p) = false := rfl
@[simp] theorem frzs_obD {l : List (Bool × Int)} : D.frzs (l.map obD) = l.map obD := frzs_id fun _ => rfl
@[simp] theorem imm_obD {p : Bool × Int} : D.imm (obD p) = true := rfl
theorem mem_consL {lim : Int} {gs : List (Int × Int)} {k : Nat} (h : k < gs.length) : (k : Int) ∈ consL lim gs ↔ consB lim gs k = true := by
  unfold consL
  simp only [List.mem_map, List.mem_filter, List.mem_range]
  constructor
  · rintro ⟨j, ⟨_, h2⟩, e⟩
    have : j = k := by omega
    subst this
    exact h2
  · intro h2
    exact ⟨k, ⟨h, h2⟩, rfl⟩
def oD : Option (Bool × Int) → D
  | none => .non
  | some p => obD p
def reachB (lim : Int) (gs : List (Int × Int)) (xs ys : List Int) : Bool := (obsL lim gs xs ys).isEmpty
end WC
namespace WC
open WF PySem
open L2 (atI ixN)
theorem range_filter_ge {n k : Nat} {p : Nat → Bool} (hk : k ≤ n) : (List.range n).filter (fun j => decide (k ≤ j) && p j) = (List.range' k (n - k)).filter p := by
  have e : List.range n = List.range k ++ List.range' k (n - k) := by
    have e1 : n = k + (n - k) := by omega
    rw [List.range_eq_range', List.range_eq_range']
    conv => lhs; rw [e1]
    rw [← List.range'_append]
    simp
  rw [e, List.filter_append]
  have e2 : (List.range k).filter (fun j => decide (k ≤ j) && p j) = [] := by
    rw [List.filter_eq_nil_iff]
    intro x hx
    have : x < k := by simpa using hx
    have : ¬ k ≤ x := by omega
    simp [this]
  rw [e2, List.nil_append]
  apply List.filter_congr
  intro x hx
  have : k ≤ x := by
    have := List.mem_range'.mp hx
    obtain ⟨i, _, rfl⟩ := this
    omega
  simp [this]
end WC
namespace WC
open WF PySem
open L2 (atI ixN)
end WC
namespace WC
open WF PySem
open L2 (atI ixN)
theorem Rise.gt {m : Int} : ∀ {gs : List (Int × Int)} {w : Int}, Rise m w gs → ∀ k, k < gs.length → w < (gs.getD k (0, 0)).1
  | [], _, _, k, h => by simp at h
  | p :: r, w, h, 0, _ => h.1
  | p :: r, w, h, k + 1, hk => by
    have := Rise.gt h.2.2.2 k (by simpa using hk)
    have h1 := h.1
    simp only [List.getD_cons_succ]
    omega
theorem Rise.lt {m : Int} : ∀ {gs : List (Int × Int)} {w : Int}, Rise m w gs → ∀ i j, i < j → j < gs.length → (gs.getD i (0, 0)).1 < (gs.getD j (0, 0)).1
  | [], _, _, i, j, _, h => by simp at h
  | p :: r, w, h, i, 0, hij, _ => by omega
  | p :: r, w, h, 0, j + 1, _, hj => by
    have := Rise.gt h.2.2.2 j (by simpa using hj)
    simpa using this
  | p :: r, w, h, i + 1, j + 1, hij, hj => by
    have := Rise.lt h.2.2.2 i j (by omega) (by simpa using hj)
    simpa using this
section
variable {N : Nat} {m lim : Int} {gs : List (Int × Int)}
theorem Wl.wt_pos (W : Wl N m lim gs) {k : Nat} (h : k < gs.length) : 0 < wt gs k := by rw [wt_nat]; exact W.rise.gt k h
theorem Wl.wt_lt (W : Wl N m lim gs) {i j : Nat} (h : i < j) (hj : j < gs.length) : wt gs i < wt gs j := by rw [wt_nat, wt_nat]; exact W.rise.lt i j h hj
theorem Wl.stt_same (W : Wl N m lim gs) {u : Nat} : ∀ {d : Nat}, u ≤ d → d < gs.length → wt gs d - wt gs u ≤ lim → stt lim gs d = stt lim gs u
  | 0, h, _, _ => by have : u = 0 := by omega
                     rw [this]
  | d + 1, h, hd, hw => by
    by_cases e : u = d + 1
    · rw [e]
    · have h1 := W.wt_lt (i := d) (j := d + 1) (by omega) hd
      have h2 : wt gs u ≤ wt gs d := by
        by_cases e2 : u = d
        · rw [e2]; omega
        · exact Int.le_of_lt (W.wt_lt (by omega) (by omega))
      have h3 : wt gs ((d + 1 : Nat) : Int) - wt gs (d : Nat) ≤ lim := by omega
      have ih := W.stt_same (u := u) (d := d) (by omega) (by omega) (by omega)
      rw [stt, if_pos h3, ih]
theorem Wl.stt_zero (W : Wl N m lim gs) {d : Nat} (hd : d < gs.length) (hw : wt gs d ≤ lim) : stt lim gs d = 0 ∧ wt gs 0 ≤ lim := by
  have h0 := W.wt_pos (k := 0) (by omega)
  have h1 : wt gs ((0 : Nat) : Int) ≤ wt gs d := by
    by_cases e : d = 0
    · rw [e]; omega
    · exact Int.le_of_lt (W.wt_lt (by omega) hd)
  have e := W.stt_same (u := 0) (d := d) (by omega) hd (by omega)
  exact ⟨by rw [e]; rfl, by simpa using Int.le_trans h1 hw⟩
end
theorem sum_add {α : Type} {f g : α → Int} : ∀ {l : List α}, (l.map fun x => f x + g x).sum = (l.map f).sum + (l.map g).sum
  | [] => rfl
  | x :: l => by simp [sum_add (l := l)]; omega
theorem sum_sub {α : Type} {f g : α → Int} : ∀ {l : List α}, (l.map fun x => f x - g x).sum = (l.map f).sum - (l.map g).sum
  | [] => rfl
  | x :: l => by simp [sum_sub (l := l)]; omega
theorem sum_ind {d t : Int} : ∀ {l : List Nat}, l.Nodup → (l.map fun (j : Nat) => if (j : Int) = d then t else 0).sum = if ∃ j ∈ l, ((j : Nat) : Int) = d then t else 0
  | [], _ => by simp
  | x :: l, h => by
    obtain ⟨h1, h2⟩ := List.nodup_cons.mp h
    have ih := sum_ind (d := d) (t := t) h2
    rw [List.map_cons, List.sum_cons, ih]
    by_cases c : (x : Int) = d
    · have : ¬ ∃ j ∈ l, ((j : Nat) : Int) = d := by
        rintro ⟨j, hj, e⟩
        have : j = x := by omega
        subst this
        exact h1 hj
      rw [if_pos c, if_neg this, if_pos ⟨x, List.mem_cons_self, c⟩]
      omega
    · rw [if_neg c]
      by_cases c2 : ∃ j ∈ l, ((j : Nat) : Int) = d
      · obtain ⟨j, hj, e⟩ := c2
        rw [if_pos ⟨j, hj, e⟩, if_pos ⟨j, List.mem_cons_of_mem _ hj, e⟩]; omega
      · rw [if_neg c2, if_neg]
        · rfl
        · rintro ⟨j, hj, e⟩
          rcases List.mem_cons.mp hj with rfl | hj
          · exact c e
          · exact c2 ⟨j, hj, e⟩
theorem sufI_nodup {lim : Int} {gs : List (Int × Int)} {n k : Nat} : (sufI lim gs n k).Nodup := List.Pairwise.filter _ List.nodup_range
theorem mem_sufI {lim : Int} {gs : List (Int × Int)} {n k j : Nat} : j ∈ sufI lim gs n k ↔ j < n ∧ k ≤ j ∧ stt lim gs j = stt lim gs k := by
  unfold sufI
  simp
theorem suf_apm {lim : Int} {gs : List (Int × Int)} {xs : List Int} {d u : Nat} {t : Int} {k : Nat} (hl : xs.length = gs.length) (hd : d < gs.length) (hu : u < d) :
    suf lim gs (apm xs d u t) k = suf lim gs xs k + (if k ≤ d ∧ stt lim gs d = stt lim gs k then t else 0) - (if k ≤ u ∧ stt lim gs u = stt lim gs k then t else 0) := by
  unfold suf
  have e : (sufI lim gs gs.length k).map (fun (j : Nat) => cn (apm xs d u t) j) = (sufI lim gs gs.length k).map (fun (j : Nat) => (cn xs j + (if (j : Int) = (d : Nat) then t else 0)) - (if (j : Int) = (u : Nat) then t else 0)) := by
    apply List.map_congr_left
    intro j hj
    rw [cn_apm (by omega) (by omega) (by omega) (by omega)]
  rw [e, sum_sub, sum_add, sum_ind sufI_nodup, sum_ind sufI_nodup]
  have c1 : (∃ j ∈ sufI lim gs gs.length k, ((j : Nat) : Int) = (d : Nat)) ↔ k ≤ d ∧ stt lim gs d = stt lim gs k := by
    constructor
    · rintro ⟨j, hj, e⟩
      have : j = d := by omega
      subst this
      exact (mem_sufI.mp hj).2
    · intro h
      exact ⟨d, mem_sufI.mpr ⟨hd, h⟩, rfl⟩
  have c2 : (∃ j ∈ sufI lim gs gs.length k, ((j : Nat) : Int) = (u : Nat)) ↔ k ≤ u ∧ stt lim gs u = stt lim gs k := by
    constructor
    · rintro ⟨j, hj, e⟩
      have : j = u := by omega
      subst this
      exact (mem_sufI.mp hj).2
    · intro h
      exact ⟨u, mem_sufI.mpr ⟨by omega, h⟩, rfl⟩
  simp only [c1, c2]
theorem suf_apm0 {lim : Int} {gs : List (Int × Int)} {xs : List Int} {d : Nat} {t : Int} {k : Nat} (hl : xs.length = gs.length) (hd : d < gs.length) :
    suf lim gs (apm xs d (-1) t) k = suf lim gs xs k + (if k ≤ d ∧ stt lim gs d = stt lim gs k then t else 0) := by
  unfold suf
  have e : (sufI lim gs gs.length k).map (fun (j : Nat) => cn (apm xs d (-1) t) j) = (sufI lim gs gs.length k).map (fun (j : Nat) => cn xs j + (if (j : Int) = (d : Nat) then t else 0)) := by
    apply List.map_congr_left
    intro j hj
    rw [cn_apm (by omega) (by omega) (by omega) (by omega)]
    have : ¬ (j : Int) = -1 := by omega
    simp [this]
  rw [e, sum_add, sum_ind sufI_nodup]
  have c1 : (∃ j ∈ sufI lim gs gs.length k, ((j : Nat) : Int) = (d : Nat)) ↔ k ≤ d ∧ stt lim gs d = stt lim gs k := by
    constructor
    · rintro ⟨j, hj, e⟩
      have : j = d := by omega
      subst this
      exact (mem_sufI.mp hj).2
    · intro h
      exact ⟨d, mem_sufI.mpr ⟨hd, h⟩, rfl⟩
  simp only [c1]
theorem Wl.suf_move {N : Nat} {m lim : Int} {gs : List (Int × Int)} {xs : List Int} (W : Wl N m lim gs) (hl : xs.length = gs.length) {d u t : Int} (hm : (d, u) ∈ allM lim gs) {k : Nat} (hk : k < gs.length) :
    suf lim gs (apm xs d u t) k = suf lim gs xs k + (if u < k ∧ (k : Int) ≤ d then t else 0) ∧ (consB lim gs k = true → ¬ (u < k ∧ (k : Int) ≤ d)) := by
  obtain ⟨h1, h2, h3, h4⟩ := mem_allM.mp hm
  simp only at h1 h2 h3 h4
  obtain ⟨d, rfl⟩ := Int.eq_ofNat_of_zero_le (show 0 ≤ d by omega)
  have hd : d < gs.length := by omega
  by_cases hu : u = -1
  · subst hu
    have w0 : wt gs (-1) = 0 := rfl
    obtain ⟨z1, z2⟩ := W.stt_zero hd (by omega)
    rw [suf_apm0 hl hd]
    constructor
    · congr 1
      by_cases c : k ≤ d
      · have c2 : stt lim gs k = 0 := by
          have : wt gs k ≤ wt gs d := by
            by_cases e : k = d
            · rw [e]; omega
            · exact Int.le_of_lt (W.wt_lt (by omega) hd)
          exact (W.stt_zero hk (by omega)).1
        rw [if_pos ⟨c, by rw [z1, c2]⟩, if_pos (by omega)]
      · rw [if_neg (fun h => c h.1), if_neg (by omega)]
    · intro hc h
      simp [consB, grd, z2] at hc
      have c2 : stt lim gs k = 0 := by
        have : wt gs k ≤ wt gs d := by
          by_cases e : k = d
          · rw [e]; omega
          · exact Int.le_of_lt (W.wt_lt (by omega) hd)
        exact (W.stt_zero hk (by omega)).1
      omega
  · obtain ⟨u, rfl⟩ := Int.eq_ofNat_of_zero_le (show 0 ≤ u by omega)
    have hud : u < d := by omega
    have z := W.stt_same (u := u) (d := d) (by omega) hd h4
    rw [suf_apm hl hd hud]
    have mid : u ≤ k → k ≤ d → stt lim gs k = stt lim gs u := fun a b => by
      refine W.stt_same a hk ?_
      have : wt gs k ≤ wt gs d := by
        by_cases e : k = d
        · rw [e]; omega
        · exact Int.le_of_lt (W.wt_lt (by omega) hd)
      omega
    constructor
    · by_cases c : k ≤ d
      · by_cases c2 : k ≤ u
        · rw [if_neg (by omega : ¬ ((u : Int) < k ∧ (k : Int) ≤ d))]
          by_cases c3 : stt lim gs u = stt lim gs k
          · rw [if_pos ⟨c, by rw [z, c3]⟩, if_pos ⟨c2, c3⟩]; omega
          · rw [if_neg (fun h => c3 (by rw [← z]; exact h.2)), if_neg (fun h => c3 h.2)]; omega
        · have e := mid (by omega) c
          rw [if_pos ⟨c, by rw [z, e]⟩, if_neg (fun h => c2 h.1), if_pos (by omega)]; omega
      · rw [if_neg (fun h => c h.1), if_neg (fun h => c (by omega)), if_neg (by omega)]; omega
    · intro hc h
      have e := mid (by omega) (by omega)
      simp [consB] at hc
      have := stt_le (lim := lim) (gs := gs) u
      omega
theorem Jmp.suf {N : Nat} {m lim : Int} {gs : List (Int × Int)} (W : Wl N m lim gs) {k : Nat} (hk : k < gs.length) : ∀ {js : List (Int × Int × Int)} {xs ys : List Int}, xs.length = gs.length → Jmp lim gs xs js ys → WC.suf lim gs xs k ≤ WC.suf lim gs ys k ∧ (consB lim gs k = true → WC.suf lim gs xs k = WC.suf lim gs ys k)
  | [], xs, ys, _, h => by cases h; exact ⟨Int.le_refl _, fun _ => rfl⟩
  | (d, u, t) :: r, xs, ys, hl, h => by
    have hm : (d, u) ∈ allM lim gs := (List.mem_filter.mp h.1.1).1
    have ih := Jmp.suf W hk (by rw [apm_len]; exact hl) h.2
    obtain ⟨e1, e2⟩ := W.suf_move hl (t := t) hm hk
    have ht := h.1.2.1
    constructor
    · have : WC.suf lim gs xs k ≤ WC.suf lim gs (apm xs d u t) k := by rw [e1]; split <;> omega
      omega
    · intro hc
      have := e2 hc
      rw [if_neg this] at e1
      rw [← ih.2 hc, e1]; omega
theorem obsL_nil {lim : Int} {gs : List (Int × Int)} {xs ys : List Int} : obsL lim gs xs ys = [] ↔ ∀ k, k < gs.length → suf lim gs xs k ≤ suf lim gs ys k ∧ (consB lim gs k = true → suf lim gs xs k = suf lim gs ys k) := by
  unfold obsL obsP
  rw [List.filterMap_eq_nil_iff]
  constructor
  · intro h k hk
    have := h k (by simpa using hk)
    unfold obAt at this
    split at this
    · cases this
    · split at this
      · cases this
      · rename_i h1 h2
        exact ⟨by omega, fun hc => by
          have : ¬ suf lim gs xs k < suf lim gs ys k := fun h => h2 ⟨h, hc⟩
          omega⟩
  · intro h k hk
    obtain ⟨h1, h2⟩ := h k (by simpa using hk)
    unfold obAt
    rw [if_neg (by omega), if_neg]
    rintro ⟨a, b⟩
    have := h2 b
    omega
theorem Jmp.reach {N : Nat} {m lim : Int} {gs : List (Int × Int)} (W : Wl N m lim gs) {js : List (Int × Int × Int)} {xs ys : List Int} (hl : xs.length = gs.length) (h : Jmp lim gs xs js ys) : obsL lim gs xs ys = [] := obsL_nil.mpr fun k hk => h.suf W hk hl
end WC
namespace WC
open WF PySem
open L2 (atI ixN)
@[simp] theorem boolsD_nil : boolsD [] = some [] := rfl
@[simp] theorem boolsD_cons {b : Bool} {xs : List D} : boolsD (.bl b :: xs) = (boolsD xs).map (b :: ·) := rfl
theorem pys_mem {α : Type} {enc : α → D} : ∀ {l : List α} {ps : List PyData}, D.pys (l.map enc) = some ps → ∀ p ∈ ps, ∃ x ∈ l, (enc x).py = some p
  | [], ps, h, p, hp => by cases h; cases hp
  | x :: l, ps, h, p, hp => by
    obtain ⟨a, as, e1, e2, rfl⟩ := pys_cons h
    rcases List.mem_cons.mp hp with rfl | hp
    · exact ⟨x, List.mem_cons_self, e1⟩
    · obtain ⟨y, hy, e⟩ := pys_mem e2 p hp
      exact ⟨y, List.mem_cons_of_mem _ hy, e⟩
theorem pys_mem' {α : Type} {enc : α → D} : ∀ {l : List α} {ps : List PyData}, D.pys (l.map enc) = some ps → ∀ x ∈ l, ∃ p ∈ ps, (enc x).py = some p
  | [], ps, h, x, hx => by cases hx
  | y :: l, ps, h, x, hx => by
    obtain ⟨a, as, e1, e2, rfl⟩ := pys_cons h
    rcases List.mem_cons.mp hx with rfl | hx
    · exact ⟨a, List.mem_cons_self, e1⟩
    · obtain ⟨p, hp, e⟩ := pys_mem' e2 x hx
      exact ⟨p, List.mem_cons_of_mem _ hp, e⟩
theorem inD_enc {α : Type} [DecidableEq α] {n : Nat} {enc : α → D} {neg o : Bool} {l : List α} {a : α} {d : D} (h : EqE n enc) (hn : n < 64) (ed : d.py = (enc a).py) : inD neg d (.lst o (l.map enc)) = some (.bl (if neg = true then !decide (a ∈ l) else decide (a ∈ l))) := by
  obtain ⟨p, f1, c1, d1⟩ := h.ok a
  obtain ⟨ps, e, c2, d2⟩ := pys_map h l
  have h1 : p.depth ≤ 64 := by omega
  have h2 : PyData.depthAll ps + 1 ≤ 64 := by omega
  simp only [inD, ed, f1, e, SeqAt.shaped, PyData.canLay0, PyData.depth, c1, c2, h1, h2, Bool.and_self, decide_true, if_true]
  have key : (ps.any fun z => PyData.eqv z p) = decide (a ∈ l) := by
    rw [Bool.eq_iff_iff]
    simp only [List.any_eq_true, decide_eq_true_eq]
    constructor
    · rintro ⟨q, hq, he⟩
      obtain ⟨x, hx, ex⟩ := pys_mem e q hq
      have := (h.eq x a q p ex f1).mp he
      subst this
      exact hx
    · intro ha
      obtain ⟨q, hq, ex⟩ := pys_mem' e a ha
      exact ⟨q, hq, (h.eq a a q p ex f1).mpr rfl⟩
  cases neg <;> simp [key]
@[simp] theorem frz_oD {o : Option (Bool × Int)} : D.frz (oD o) = oD o := by cases o <;> rfl
@[simp] theorem isUn_oD {o : Option (Bool × Int)} : isUn (oD o) = false := by cases o <;> rfl
@[simp] theorem isD_oD {n : Bool} {o : Option (Bool × Int)} : isD n (oD o) .non = some (.bl (n != o.isNone)) := by cases o <;> cases n <;> rfl
@[simp] theorem isi_obD {p : Bool × Int} : isiD [obD p, .vl (.ty "tuple")] = some (.bl true) := rfl
@[simp] theorem len_obD {p : Bool × Int} : lenD [obD p] = some (.int 2) := rfl
@[simp] theorem ixO_obD0 {p : Bool × Int} : ixO (obD p) (.int 0) = some (.str (if p.1 = true then "more" else "fewer"), obD p) := rfl
@[simp] theorem ixO_obD1 {p : Bool × Int} : ixO (obD p) (.int 1) = some (.int p.2, obD p) := rfl
end WC
namespace WC
open WF PySem
open L2 (atI ixN)
def nxt (lim : Int) (gs : List (Int × Int)) (xs : List Int) (k : Nat) : Int := if k + 1 < gs.length ∧ stt lim gs (k + 1) = stt lim gs k then suf lim gs xs (k + 1) else 0
theorem stt_up {lim : Int} {gs : List (Int × Int)} {k : Nat} : stt lim gs (k + 1) = stt lim gs k ∨ stt lim gs (k + 1) = k + 1 := by
  rw [stt]
  split
  · exact .inl rfl
  · exact .inr rfl
theorem stt_mono {lim : Int} {gs : List (Int × Int)} {k : Nat} : ∀ {j : Nat}, k ≤ j → stt lim gs k ≤ stt lim gs j
  | 0, h => by have : k = 0 := by omega
               rw [this]; omega
  | j + 1, h => by
    by_cases e : k = j + 1
    · rw [e]; omega
    · have ih := stt_mono (lim := lim) (gs := gs) (k := k) (j := j) (by omega)
      rcases stt_up (lim := lim) (gs := gs) (k := j) with h1 | h1
      · omega
      · have := stt_le (lim := lim) (gs := gs) j; omega
theorem stt_between {lim : Int} {gs : List (Int × Int)} {i k j : Nat} (h1 : i ≤ k) (h2 : k ≤ j) (h : stt lim gs j = stt lim gs i) : stt lim gs k = stt lim gs i := by
  have a := stt_mono (lim := lim) (gs := gs) h1
  have b := stt_mono (lim := lim) (gs := gs) h2
  omega
theorem suf_rec {lim : Int} {gs : List (Int × Int)} {xs : List Int} {k : Nat} (hk : k < gs.length) : suf lim gs xs k = cn xs k + nxt lim gs xs k := by
  unfold suf nxt sufI
  rw [range_filter_ge (by omega)]
  have e1 : gs.length - k = (gs.length - (k + 1)) + 1 := by omega
  rw [e1, List.range'_succ, List.filter_cons_of_pos (by simp), List.map_cons, List.sum_cons]
  congr 1
  by_cases hc : k + 1 < gs.length ∧ stt lim gs (k + 1) = stt lim gs k
  · rw [if_pos hc, suf, sufI, range_filter_ge (by omega), hc.2]
  · rw [if_neg hc]
    have : (List.range' (k + 1) (gs.length - (k + 1))).filter (fun j => decide (stt lim gs j = stt lim gs k)) = [] := by
      rw [List.filter_eq_nil_iff]
      intro j hj
      obtain ⟨i, h1, rfl⟩ := List.mem_range'.mp hj
      simp
      intro e
      have h2 : stt lim gs (k + 1) = stt lim gs k := stt_between (i := k) (k := k + 1) (j := k + 1 + 1 * i) (by omega) (by omega) (by simpa using e)
      exact hc ⟨by omega, h2⟩
    rw [this]
    rfl
theorem suf_inj {lim : Int} {gs : List (Int × Int)} {xs ys : List Int} (hx : xs.length = gs.length) (hy : ys.length = gs.length) (h : ∀ k, k < gs.length → suf lim gs xs k = suf lim gs ys k) : xs = ys := by
  apply List.ext_getElem (by omega)
  intro k h1 h2
  have hk : k < gs.length := by omega
  have e1 := suf_rec (lim := lim) (xs := xs) hk
  have e2 := suf_rec (lim := lim) (xs := ys) hk
  have e3 : nxt lim gs xs k = nxt lim gs ys k := by
    unfold nxt
    split
    · exact h (k + 1) (by omega)
    · rfl
  have e4 := h k hk
  have e5 : cn xs k = cn ys k := by omega
  have e6 : cn xs k = xs[k] := by simp [cn, h1]
  have e7 : cn ys k = ys[k] := by simp [cn, h2]
  omega
def unsP (lim : Int) (gs : List (Int × Int)) (cs : List Int) (k : Nat) : List Int := (List.range k).map fun (j : Nat) => cn cs j - (if j + 1 < gs.length ∧ stt lim gs (j + 1) = stt lim gs j then cn cs ((j + 1 : Nat) : Int) else 0)
def unsL (lim : Int) (gs : List (Int × Int)) (cs : List Int) : List Int := unsP lim gs cs gs.length
theorem unsP_succ {lim : Int} {gs : List (Int × Int)} {cs : List Int} {k : Nat} : unsP lim gs cs (k + 1) = unsP lim gs cs k ++ [cn cs k - (if k + 1 < gs.length ∧ stt lim gs (k + 1) = stt lim gs k then cn cs ((k + 1 : Nat) : Int) else 0)] := by simp [unsP, List.range_succ]
@[simp] theorem unsP_len {lim : Int} {gs : List (Int × Int)} {cs : List Int} {k : Nat} : (unsP lim gs cs k).length = k := by simp [unsP]
theorem state_from_counts_eq {t t' : Bool} {lim : Int} {gs : List (Int × Int)} {cs : List Int} (hl : gs.length ≤ 100) (hs : cs.length = gs.length) {Q : D → List D → Prop} :
    wF m_state_from_counts [wlD t lim gs, stS t' cs] Q ↔ Q (stS true (unsL lim gs cs)) [wlD t lim gs, stS t' cs] := by
  refine wF_iff fun Q q => ?_
  rw [m_state_from_counts, wF_def]
  simp [b_state_from_counts, segment_starts_eq hl, enumD_one, -List.map_map]
  rw [enumI]
  simp only [stL_len]
  refine loop_ix _ (fun k S => ∃ x4 x5 x6, S = [wlD t lim gs, stS t' cs, .lst false ((stL lim gs).map .int), .lst true ((unsP lim gs cs k).map .int), x4, x5, x6]) ?_ ⟨_, _, _, rfl⟩ ?_
  · rintro k hk S ⟨x4, x5, x6, rfl⟩
    rw [unsP_succ, List.map_append, cn_stL hk]
    have hL : k < 1000000 := by omega
    have e1 : atI cs (k : Int) = some (cn cs k) := at_cn (by omega) (by omega)
    by_cases c1 : k + 1 < gs.length
    · have c1' : ¬ (k : Int) + 1 = gs.length := by omega
      have e2 : atI (stL lim gs) ((k : Int) + 1) = some ((stt lim gs (k + 1) : Nat) : Int) := by
        have := cn_stL (lim := lim) c1
        rw [at_cn (by omega) (by simp; omega), ← this]
        simp
      have e3 : atI cs ((k : Int) + 1) = some (cn cs ((k : Int) + 1)) := at_cn (by omega) (by omega)
      by_cases c2 : stt lim gs (k + 1) = stt lim gs k
      · simp [c1, c1', c2, e1, e2, e3, atI_map, hL]
      · have c2' : ¬ ((stt lim gs (k + 1) : Nat) : Int) = (stt lim gs k : Int) := by omega
        simp [c1, c1', c2, c2', e1, e2, atI_map, hL]
    · have c1' : (k : Int) + 1 = gs.length := by omega
      simp [c1, c1', e1, atI_map, hL]
  · rintro S ⟨x4, x5, x6, rfl⟩
    simp
    exact q
end WC
namespace WC
open WF PySem
open L2 (atI ixN)
section
variable {N : Nat} {m lim : Int} {gs : List (Int × Int)} {xs ys : List Int}
theorem nei_mem {j : Nat} (hj : j + 1 < gs.length) (hs : stt lim gs (j + 1) = stt lim gs j) : (((j + 1 : Nat) : Int), (j : Int)) ∈ allM lim gs := by
  refine mem_allM.mpr ⟨by simp only; omega, by simp only; omega, by simp only; omega, ?_⟩
  have := stt_le (lim := lim) (gs := gs) j
  rw [stt] at hs
  split at hs
  · rename_i h; exact h
  · omega
theorem Wl.down (W : Wl N m lim gs) (hx : StOk gs xs) (hy : StOk gs ys) (h : obsL lim gs xs ys = []) : ∀ j, j < gs.length → suf lim gs xs j < suf lim gs ys j → cn xs j < (grp gs j).2 → ∃ i : Nat, i < gs.length ∧ suf lim gs xs i < suf lim gs ys i ∧ ((i : Int), (i : Int) - 1) ∈ legM lim gs xs
  | 0, hj, hc, hf => by
    have h1 := (obsL_nil.mp h 0 hj).2
    have h2 : consB lim gs 0 = false := by
      cases hh : consB lim gs 0 with
      | false => rfl
      | true => have := h1 hh; omega
    have h3 : wt gs 0 ≤ lim := by simp [consB, stt, grd] at h2; exact h2
    exact ⟨0, hj, hc, mem_legM.mpr ⟨⟨by simp, by simp, by simp; omega, by simpa [wt] using h3⟩, hf, .inl (by simp)⟩⟩
  | j + 1, hj, hc, hf => by
    have h1 := (obsL_nil.mp h (j + 1) hj).2
    have h2 : consB lim gs (j + 1) = false := by
      cases hh : consB lim gs (j + 1) with
      | false => rfl
      | true => have := h1 hh; omega
    have h3 : stt lim gs (j + 1) = stt lim gs j := by
      rcases stt_up (lim := lim) (gs := gs) (k := j) with e | e
      · exact e
      · simp [consB, e] at h2
    have hm := nei_mem hj h3
    have hj' : j < gs.length := by omega
    by_cases c : 0 < cn xs j
    · refine ⟨j + 1, hj, hc, mem_legM.mpr ⟨?_, hf, .inr ?_⟩⟩
      · have := mem_allM.mp hm
        simpa using this
      · simpa using c
    · have b1 := (stOk_iff.mp hx).2 j hj'
      have b2 := (stOk_iff.mp hy).2 j hj'
      have b3 := W.size (k := (j : Int)) (by omega) (by omega)
      have e1 := suf_rec (lim := lim) (xs := xs) hj'
      have e2 := suf_rec (lim := lim) (xs := ys) hj'
      unfold nxt at e1 e2
      rw [if_pos ⟨hj, h3⟩] at e1 e2
      exact W.down hx hy h j hj' (by omega) (by omega)
theorem Wl.up (W : Wl N m lim gs) (hx : StOk gs xs) (hy : StOk gs ys) : ∀ (r k : Nat), k + r = gs.length → suf lim gs xs k < suf lim gs ys k → k < gs.length → ∃ j : Nat, j < gs.length ∧ suf lim gs xs j < suf lim gs ys j ∧ cn xs j < (grp gs j).2
  | 0, k, h, _, hk => by omega
  | r + 1, k, h, hc, hk => by
    by_cases c : cn xs k < (grp gs k).2
    · exact ⟨k, hk, hc, c⟩
    · have b1 := (stOk_iff.mp hx).2 k hk
      have b2 := (stOk_iff.mp hy).2 k hk
      have e1 := suf_rec (lim := lim) (xs := xs) hk
      have e2 := suf_rec (lim := lim) (xs := ys) hk
      unfold nxt at e1 e2
      by_cases c2 : k + 1 < gs.length ∧ stt lim gs (k + 1) = stt lim gs k
      · rw [if_pos c2] at e1 e2
        exact W.up hx hy r (k + 1) (by omega) (by omega) c2.1
      · rw [if_neg c2] at e1 e2
        omega
theorem Wl.step (W : Wl N m lim gs) (hx : StOk gs xs) (hy : StOk gs ys) (h : obsL lim gs xs ys = []) {k : Nat} (hk : k < gs.length) (hc : suf lim gs xs k < suf lim gs ys k) : ∃ i : Nat, i < gs.length ∧ suf lim gs xs i < suf lim gs ys i ∧ ((i : Int), (i : Int) - 1) ∈ legM lim gs xs := by
  obtain ⟨j, hj, h1, h2⟩ := W.up hx hy (gs.length - k) k (by omega) hc hk
  exact W.down hx hy h j hj h1 h2
end
def crs (lim : Int) (gs : List (Int × Int)) (xs ys : List Int) : List Int := (List.range gs.length).map fun k => suf lim gs ys k - suf lim gs xs k
@[simp] theorem crs_len {lim : Int} {gs : List (Int × Int)} {xs ys : List Int} : (crs lim gs xs ys).length = gs.length := by simp [crs]
theorem cn_crs {lim : Int} {gs : List (Int × Int)} {xs ys : List Int} {k : Nat} (h : k < gs.length) : cn (crs lim gs xs ys) k = suf lim gs ys k - suf lim gs xs k := by simp [cn, crs, h]
theorem sum_bound {c : Int} : ∀ {l : List Int}, (∀ x ∈ l, 0 ≤ x ∧ x ≤ c) → 0 ≤ l.sum ∧ l.sum ≤ l.length * c
  | [], _ => by simp
  | x :: l, h => by
    have h1 := h x List.mem_cons_self
    have h2 := sum_bound (l := l) fun y hy => h y (List.mem_cons_of_mem _ hy)
    simp only [List.sum_cons, List.length_cons]
    have e : (((l.length + 1 : Nat) : Int)) * c = l.length * c + c := by rw [Int.natCast_add, Int.add_mul]; simp
    omega
theorem suf_bound {N : Nat} {m lim : Int} {gs : List (Int × Int)} {xs : List Int} (W : Wl N m lim gs) (hx : StOk gs xs) {k : Nat} : 0 ≤ suf lim gs xs k ∧ suf lim gs xs k ≤ gs.length * m := by
  have h := sum_bound (c := m) (l := (sufI lim gs gs.length k).map fun (j : Nat) => cn xs j) fun x hx' => by
    obtain ⟨j, hj, rfl⟩ := List.mem_map.mp hx'
    have hj := (mem_sufI.mp hj).1
    have b := (stOk_iff.mp hx).2 j hj
    have b3 := W.size (k := (j : Int)) (by omega) (by omega)
    omega
  refine ⟨h.1, Int.le_trans h.2 ?_⟩
  rw [List.length_map]
  have hl : (sufI lim gs gs.length k).length ≤ gs.length := by
    have := List.length_filter_le (fun j => decide (k ≤ j) && decide (stt lim gs j = stt lim gs k)) (List.range gs.length)
    simpa [sufI] using this
  have h0 := List.length_pos_iff.mpr W.ne
  have hm : 0 ≤ m := by have := W.size (k := 0) (by omega) (by omega); omega
  exact Int.mul_le_mul_of_nonneg_right (by omega) hm
end WC
namespace WC
open WF PySem
open L2 (atI ixN)
section
variable {N : Nat} {m lim : Int} {gs : List (Int × Int)} {xs ys : List Int}
theorem crs_nonneg (h : obsL lim gs xs ys = []) : ∀ c ∈ crs lim gs xs ys, 0 ≤ c := fun c hc => by
  unfold crs at hc
  obtain ⟨k, hk, rfl⟩ := List.mem_map.mp hc
  have := (obsL_nil.mp h k (by simpa using hk)).1
  omega
theorem sum_zero : ∀ {l : List Int}, (∀ x ∈ l, 0 ≤ x) → l.sum = 0 → ∀ x ∈ l, x = 0
  | [], _, _, x, h => by cases h
  | y :: l, h, e, x, hx => by
    have h1 := h y List.mem_cons_self
    have h2 : 0 ≤ l.sum := by
      clear e hx
      have hh := fun z hz => h z (List.mem_cons_of_mem y hz)
      clear h h1
      induction l with
      | nil => simp
      | cons z l ih =>
        have := hh z List.mem_cons_self
        have := ih fun w hw => hh w (List.mem_cons_of_mem _ hw)
        simp
        omega
    simp at e
    rcases List.mem_cons.mp hx with rfl | hx
    · omega
    · exact sum_zero (fun z hz => h z (List.mem_cons_of_mem _ hz)) (by omega) x hx
theorem Wl.nei (W : Wl N m lim gs) (hx : StOk gs xs) (hy : StOk gs ys) (h : obsL lim gs xs ys = []) {p : Int × Int} (hp : p ∈ legM lim gs xs) (h1 : p.1 - p.2 = 1) (h2 : 0 < cn (crs lim gs xs ys) p.1) :
    StOk gs (apm xs p.1 p.2 1) ∧ obsL lim gs (apm xs p.1 p.2 1) ys = [] ∧ (crs lim gs (apm xs p.1 p.2 1) ys).sum = (crs lim gs xs ys).sum - 1 := by
  obtain ⟨d, u⟩ := p
  simp only at h1 h2 ⊢
  have hp' := mem_legM.mp hp
  simp only at hp'
  have hm : (d, u) ∈ allM lim gs := (List.mem_filter.mp hp).1
  obtain ⟨d, rfl⟩ := Int.eq_ofNat_of_zero_le (show 0 ≤ d by omega)
  have hd : d < gs.length := by omega
  rw [cn_crs hd] at h2
  have hs : StOk gs (apm xs d u 1) := stOk_apm hx hp (by omega) (by omega) (fun h => by have := hp'.2.2; omega)
  have key : ∀ k, k < gs.length → suf lim gs (apm xs d u 1) k = suf lim gs xs k + (if (k : Int) = (d : Nat) then 1 else 0) := fun k hk => by
    rw [(W.suf_move hx.len (t := 1) hm hk).1]
    congr 1
    by_cases c : (k : Int) = (d : Nat)
    · rw [if_pos (by omega), if_pos c]
    · rw [if_neg (by omega), if_neg c]
  refine ⟨hs, obsL_nil.mpr fun k hk => ?_, ?_⟩
  · have o := obsL_nil.mp h k hk
    rw [key k hk]
    constructor
    · split
      · rename_i c
        have : k = d := by omega
        subst this
        omega
      · omega
    · intro hc
      have := (W.suf_move hx.len (t := 1) hm hk).2 hc
      rw [if_neg (by omega)]
      have := o.2 hc
      omega
  · have e : crs lim gs (apm xs d u 1) ys = (List.range gs.length).map fun (k : Nat) => (suf lim gs ys k - suf lim gs xs k) - (if (k : Int) = (d : Nat) then 1 else 0) := by
      unfold crs
      apply List.map_congr_left
      intro k hk
      rw [key k (by simpa using hk)]
      omega
    rw [e, sum_sub, sum_ind List.nodup_range, if_pos ⟨d, by simpa using hd, rfl⟩]
    rfl
end
end WC
namespace WC
open WF PySem
open L2 (atI ixN)
section
variable {lim : Int} {gs : List (Int × Int)}
end
end WC
namespace WC
open WF PySem
open L2 (atI ixN)
def fullL (gs : List (Int × Int)) : List Int := gs.map Prod.snd
@[simp] theorem fullL_len {gs : List (Int × Int)} : (fullL gs).length = gs.length := by simp [fullL]
def totS (lim : Int) (gs : List (Int × Int)) (xs : List Int) (s : Nat) : Int := if s = 0 ∧ grd lim gs = true then suf lim gs (fullL gs) s else suf lim gs xs s
def trC (lim : Int) (gs : List (Int × Int)) (xs : List Int) (k : Nat) : Int := min (totS lim gs xs (stt lim gs k)) (suf lim gs (fullL gs) k)
def trL (lim : Int) (gs : List (Int × Int)) (xs : List Int) : List Int := unsL lim gs ((List.range gs.length).map (trC lim gs xs))
@[simp] theorem trL_len {lim : Int} {gs : List (Int × Int)} {xs : List Int} : (trL lim gs xs).length = gs.length := by simp [trL, unsL]
theorem cn_range {f : Nat → Int} {n k : Nat} (h : k < n) : cn ((List.range n).map f) k = f k := by simp [cn, h]
theorem cn_trL {lim : Int} {gs : List (Int × Int)} {xs : List Int} {k : Nat} (h : k < gs.length) : cn (trL lim gs xs) k = trC lim gs xs k - (if k + 1 < gs.length ∧ stt lim gs (k + 1) = stt lim gs k then trC lim gs xs (k + 1) else 0) := by
  unfold trL unsL unsP
  rw [cn_range h, cn_range h]
  congr 1
  split
  · rename_i hc
    rw [cn_range hc.1]
  · rfl
end WC
namespace WC
open WF PySem
open L2 (atI ixN)
section
variable {t t' t2 : Bool} {lim : Int} {gs : List (Int × Int)} {xs ys : List Int} {Q : D → List D → Prop}
def compB (lim : Int) (gs : List (Int × Int)) (xs ys : List Int) : Bool := (consL lim gs).all fun k => decide (cn (sufL lim gs xs) k = cn (sufL lim gs ys) k)
theorem are_compatible_eq (h0 : gs ≠ []) (hl : gs.length ≤ 100) (hx : xs.length = gs.length) (hy : ys.length = gs.length) :
    wF m_are_compatible [wlD t lim gs, stS t' xs, stS t2 ys] Q ↔ Q (.bl (compB lim gs xs ys)) [wlD t lim gs, stS t' xs, stS t2 ys] := by
  refine wF_iff fun Q q => ?_
  rw [m_are_compatible, wF_def]
  simp [b_are_compatible, suffix_counts_eq hl hx, suffix_counts_eq hl hy, conserved_starts_eq h0 hl]
  have hcl : (consL lim gs).length ≤ 100 := by
    unfold consL
    rw [List.length_map]
    have := List.length_filter_le (consB lim gs) (List.range gs.length)
    simp at this
    omega
  refine comp_map0 (enc := D.int) (φ := fun k => .bl (decide (cn (sufL lim gs xs) k = cn (sufL lim gs ys) k))) (consL lim gs) (fun k hk => ?_) (by simp; omega) ?_
  · unfold consL at hk
    obtain ⟨j, hj, rfl⟩ := List.mem_map.mp hk
    have hj := (List.mem_filter.mp hj).1
    have hj : j < gs.length := by simpa using hj
    have e1 : atI (sufL lim gs xs) (j : Int) = some (cn (sufL lim gs xs) j) := at_cn (by omega) (by simp; omega)
    have e2 : atI (sufL lim gs ys) (j : Int) = some (cn (sufL lim gs ys) j) := at_cn (by omega) (by simp; omega)
    simp [e1, e2]
  · unfold compB at q
    simp
    simpa [List.all_map, Function.comp_def] using q
theorem compB_iff : compB lim gs xs ys = true ↔ ∀ k, k < gs.length → consB lim gs k = true → suf lim gs xs k = suf lim gs ys k := by
  unfold compB
  rw [List.all_eq_true]
  constructor
  · intro h k hk hc
    have := h k ((mem_consL hk).mpr hc)
    simp at this
    rwa [cn_sufL hk, cn_sufL hk] at this
  · intro h x hx
    unfold consL at hx
    obtain ⟨k, hk, rfl⟩ := List.mem_map.mp hx
    have hk' := List.mem_filter.mp hk
    have hkn : k < gs.length := by simpa using hk'.1
    simp
    rw [cn_sufL hkn, cn_sufL hkn]
    exact h k hkn hk'.2
def cmb (j : Bool) (a b : Int) : Int := if j = true then max a b else min a b
def cmbL (lim : Int) (gs : List (Int × Int)) (j : Bool) (xs ys : List Int) : List Int := (List.range gs.length).map fun k => cmb j (suf lim gs xs k) (suf lim gs ys k)
@[simp] theorem cmbL_len {j : Bool} : (cmbL lim gs j xs ys).length = gs.length := by simp [cmbL]
def osD : Option (List Int) → D
  | none => .non
  | some l => stS true l
def cmbO (lim : Int) (gs : List (Int × Int)) (j : Bool) (xs ys : List Int) : Option (List Int) := if compB lim gs xs ys = true then some (unsL lim gs (cmbL lim gs j xs ys)) else none
theorem combine_eq {j : Bool} (h0 : gs ≠ []) (hl : gs.length ≤ 100) (hx : xs.length = gs.length) (hy : ys.length = gs.length) :
    wF m_combine [wlD t lim gs, stS t' xs, stS t2 ys, .bl j] Q ↔ Q (osD (cmbO lim gs j xs ys)) [wlD t lim gs, stS t' xs, stS t2 ys, .bl j] := by
  refine wF_iff fun Q q => ?_
  rw [m_combine, wF_def]
  simp [b_combine, are_compatible_eq h0 hl hx hy]
  cases hc : compB lim gs xs ys with
  | false =>
    simp [cmbO, hc, osD] at q ⊢
    exact q
  | true =>
    simp [suffix_counts_eq hl hx, suffix_counts_eq hl hy]
    have e1 : List.zipWith (fun a b => D.tup [D.int a, D.int b]) (sufL lim gs xs) (sufL lim gs ys) = (List.range gs.length).map fun k => D.tup [.int (suf lim gs xs k), .int (suf lim gs ys k)] := by
      unfold sufL
      rw [zw, List.zip_map', List.map_map]
      rfl
    rw [e1]
    refine loop_ix _ (fun k S => ∃ x5 x6, S = [wlD t lim gs, stS t' xs, stS t2 ys, .bl j, .lst true (((List.range k).map fun k => cmb j (suf lim gs xs k) (suf lim gs ys k)).map .int), x5, x6]) ?_ ⟨_, _, rfl⟩ ?_
    · rintro k hk S ⟨x5, x6, rfl⟩
      rw [List.range_succ, List.map_append, List.map_append]
      have hL : k < 1000000 := by omega
      generalize hms : (List.range k).map (fun k => cmb j (suf lim gs xs k) (suf lim gs ys k)) = ms
      have hml : ms.length < 1000000 := by rw [← hms]; simp; omega
      cases j
      · simp [hml, cmb]
        omega
      · simp [hml, cmb]
        omega
    · rintro S ⟨x5, x6, rfl⟩
      have e2 : ((List.range gs.length).map fun k => cmb j (suf lim gs xs k) (suf lim gs ys k)) = cmbL lim gs j xs ys := rfl
      rw [e2]
      simp [st_of, state_from_counts_eq hl (show (cmbL lim gs j xs ys).length = gs.length by simp)]
      simp [cmbO, hc, osD] at q
      exact q
theorem join_eq (h0 : gs ≠ []) (hl : gs.length ≤ 100) (hx : xs.length = gs.length) (hy : ys.length = gs.length) :
    wF m_join [wlD t lim gs, stS t' xs, stS t2 ys] Q ↔ Q (osD (cmbO lim gs true xs ys)) [wlD t lim gs, stS t' xs, stS t2 ys] := by
  rw [m_join, wF_def]
  simp [b_join, combine_eq h0 hl hx hy]
theorem meet_eq (h0 : gs ≠ []) (hl : gs.length ≤ 100) (hx : xs.length = gs.length) (hy : ys.length = gs.length) :
    wF m_meet [wlD t lim gs, stS t' xs, stS t2 ys] Q ↔ Q (osD (cmbO lim gs false xs ys)) [wlD t lim gs, stS t' xs, stS t2 ys] := by
  rw [m_meet, wF_def]
  simp [b_meet, combine_eq h0 hl hx hy]
theorem suf_uns {cs : List Int} (hc : cs.length = gs.length) : ∀ (r k : Nat), k + r = gs.length → 0 < r → suf lim gs (unsL lim gs cs) k = cn cs k
  | 0, k, h, h0 => by omega
  | r + 1, k, h, _ => by
    have hk : k < gs.length := by omega
    rw [suf_rec hk]
    have e : cn (unsL lim gs cs) k = cn cs k - (if k + 1 < gs.length ∧ stt lim gs (k + 1) = stt lim gs k then cn cs ((k + 1 : Nat) : Int) else 0) := by
      unfold unsL unsP
      rw [cn_range hk]
    rw [e]
    unfold nxt
    by_cases c : k + 1 < gs.length ∧ stt lim gs (k + 1) = stt lim gs k
    · rw [if_pos c, if_pos c, suf_uns hc r (k + 1) (by omega) (by omega)]
      omega
    · rw [if_neg c, if_neg c]
      omega
end
end WC
namespace WC
open WF PySem
open L2 (atI ixN)
section
variable {t t' t2 : Bool} {lim : Int} {gs : List (Int × Int)} {xs : List Int} {Q : D → List D → Prop}
end
end WC
namespace WC
open WF PySem
open L2 (atI ixN)
section
variable {N : Nat} {m lim : Int} {gs : List (Int × Int)} {xs ys : List Int}
end
end WC
namespace WC
open WF PySem
open L2 (atI ixN)
section
variable {N : Nat} {m lim : Int} {gs : List (Int × Int)} {xs ys zs : List Int} {j : Bool}
def jn (lim : Int) (gs : List (Int × Int)) (j : Bool) (xs ys : List Int) : List Int := unsL lim gs (cmbL lim gs j xs ys)
@[simp] theorem jn_len : (jn lim gs j xs ys).length = gs.length := by simp [jn, unsL]
theorem suf_jn {k : Nat} (hk : k < gs.length) : suf lim gs (jn lim gs j xs ys) k = cmb j (suf lim gs xs k) (suf lim gs ys k) := by
  unfold jn
  rw [suf_uns (by simp) (gs.length - k) k (by omega) (by omega)]
  unfold cmbL
  rw [cn_range hk]
theorem cmbO_some (h : compB lim gs xs ys = true) : cmbO lim gs j xs ys = some (jn lim gs j xs ys) := by unfold cmbO jn; rw [if_pos h]
theorem cmbO_none (h : compB lim gs xs ys = false) : cmbO lim gs j xs ys = none := by unfold cmbO; simp [h]
def Cmp (lim : Int) (gs : List (Int × Int)) (xs ys : List Int) : Prop := ∀ k, k < gs.length → consB lim gs k = true → suf lim gs xs k = suf lim gs ys k
theorem Cmp.symm (h : Cmp lim gs xs ys) : Cmp lim gs ys xs := fun k hk hc => (h k hk hc).symm
theorem Cmp.trans (h : Cmp lim gs xs ys) (h' : Cmp lim gs ys zs) : Cmp lim gs xs zs := fun k hk hc => (h k hk hc).trans (h' k hk hc)
theorem Cmp.jn (h : Cmp lim gs xs ys) : Cmp lim gs xs (jn lim gs j xs ys) := fun k hk hc => by
  rw [suf_jn hk, ← h k hk hc]
  unfold cmb
  split <;> omega
theorem jn_ok (W : Wl N m lim gs) (hx : StOk gs xs) (hy : StOk gs ys) : StOk gs (jn lim gs j xs ys) := by
  refine stOk_iff.mpr ⟨jn_len, fun k hk => ?_⟩
  have e := suf_rec (lim := lim) (xs := jn lim gs j xs ys) hk
  have e1 := suf_rec (lim := lim) (xs := xs) hk
  have e2 := suf_rec (lim := lim) (xs := ys) hk
  have b1 := hx.at (k := (k : Int)) (by omega) (by omega)
  have b2 := hy.at (k := (k : Int)) (by omega) (by omega)
  unfold nxt at e e1 e2
  rw [suf_jn hk] at e
  by_cases c : k + 1 < gs.length ∧ stt lim gs (k + 1) = stt lim gs k
  · rw [if_pos c] at e e1 e2
    rw [suf_jn c.1] at e
    unfold cmb at e
    cases j <;> simp at e <;> omega
  · rw [if_neg c] at e e1 e2
    unfold cmb at e
    cases j <;> simp at e <;> omega
theorem jn_comm : jn lim gs j xs ys = jn lim gs j ys xs := suf_inj (lim := lim) (gs := gs) jn_len jn_len fun k hk => by
  rw [suf_jn hk, suf_jn hk]
  unfold cmb
  cases j <;> simp <;> omega
theorem reach_iff : reachB lim gs xs ys = true ↔ Cmp lim gs xs ys ∧ ∀ k, k < gs.length → suf lim gs xs k ≤ suf lim gs ys k := by
  have : reachB lim gs xs ys = true ↔ obsL lim gs xs ys = [] := by
    unfold reachB
    cases obsL lim gs xs ys <;> simp
  rw [this, obsL_nil]
  exact ⟨fun h => ⟨fun k hk hc => (h k hk).2 hc, fun k hk => (h k hk).1⟩, fun h k hk => ⟨h.2 k hk, h.1 k hk⟩⟩
end
end WC
namespace WC
open WF PySem
open L2 (atI ixN)
@[simp] theorem imm_st {xs : List Int} : D.imm (sq true (xs.map .int)) = true := by
  show D.imms (xs.map .int) = true
  induction xs with
  | nil => rfl
  | cons x xs ih => simp [ih]
theorem frzs_stS {t : Bool} {rs : List (List Int)} : D.frzs (rs.map (stS t)) = rs.map (stS t) := frzs_id fun x => by simp
def sumS (lim : Int) (gs : List (Int × Int)) (xs : List Int) : Int := (sufL lim gs xs).sum
structure Stp (lim : Int) (gs : List (Int × Int)) (xs ys : List Int) : Prop where
  le : ∀ k, k < gs.length → suf lim gs xs k ≤ suf lim gs ys k
  cs : ∀ k, k < gs.length → consB lim gs k = true → suf lim gs xs k = suf lim gs ys k
  ne : ∃ k, k < gs.length ∧ suf lim gs xs k < suf lim gs ys k
section
variable {N : Nat} {m lim : Int} {gs : List (Int × Int)} {xs ys : List Int}
theorem Wl.stp (W : Wl N m lim gs) (hl : xs.length = gs.length) {d u t : Int} (hm : (d, u) ∈ allM lim gs) (ht : 1 ≤ t) : Stp lim gs xs (apm xs d u t) := by
  have hm' := mem_allM.mp hm
  simp only at hm'
  refine ⟨fun k hk => ?_, fun k hk hc => ?_, ?_⟩
  · rw [(W.suf_move hl (t := t) hm hk).1]; split <;> omega
  · obtain ⟨e1, e2⟩ := W.suf_move hl (t := t) hm hk
    rw [e1, if_neg (e2 hc)]; omega
  · obtain ⟨d, rfl⟩ := Int.eq_ofNat_of_zero_le (show 0 ≤ d by omega)
    have hd : d < gs.length := by omega
    refine ⟨d, hd, ?_⟩
    rw [(W.suf_move hl (t := t) hm hd).1, if_pos ⟨by omega, by omega⟩]
    omega
theorem sum_lt {f g : Nat → Int} : ∀ {l : List Nat}, (∀ k ∈ l, f k ≤ g k) → (∃ k ∈ l, f k < g k) → (l.map f).sum < (l.map g).sum
  | [], _, h => by obtain ⟨k, hk, _⟩ := h; cases hk
  | k :: l, h, h2 => by
    have h1 := h k List.mem_cons_self
    have hle : ∀ {l : List Nat}, (∀ k ∈ l, f k ≤ g k) → (l.map f).sum ≤ (l.map g).sum := by
      intro l
      induction l with
      | nil => intro _; simp
      | cons j l ih =>
        intro hh
        have := hh j List.mem_cons_self
        have := ih fun i hi => hh i (List.mem_cons_of_mem _ hi)
        simp only [List.map_cons, List.sum_cons]
        omega
    simp only [List.map_cons, List.sum_cons]
    obtain ⟨j, hj, hlt⟩ := h2
    rcases List.mem_cons.mp hj with rfl | hj
    · have := hle fun i hi => h i (List.mem_cons_of_mem _ hi)
      omega
    · have := sum_lt (fun i hi => h i (List.mem_cons_of_mem _ hi)) ⟨j, hj, hlt⟩
      omega
theorem Stp.sum (s : Stp lim gs xs ys) : sumS lim gs xs < sumS lim gs ys := by
  unfold sumS sufL
  obtain ⟨k, hk, h⟩ := s.ne
  exact sum_lt (fun k hk => s.le k (by simpa using hk)) ⟨k, by simpa using hk, h⟩
theorem sumS_bound (W : Wl N m lim gs) (hx : StOk gs xs) : 0 ≤ sumS lim gs xs ∧ sumS lim gs xs ≤ gs.length * (gs.length * m) := by
  have h := sum_bound (c := gs.length * m) (l := sufL lim gs xs) fun c hc => by
    unfold sufL at hc
    obtain ⟨k, hk, rfl⟩ := List.mem_map.mp hc
    exact suf_bound W hx
  rw [sufL_len] at h
  exact h
structure Rows (lim : Int) (gs : List (Int × Int)) (xs : List Int) (rs : List (List Int)) : Prop where
  ok : ∀ r ∈ rs, StOk gs r
  cs : ∀ r ∈ rs, ∀ k, k < gs.length → consB lim gs k = true → suf lim gs xs k = suf lim gs r k
  st : ∀ (i : Nat) a b, rs[i]? = some a → rs[i + 1]? = some b → Stp lim gs a b
theorem Rows.snoc {rs : List (List Int)} {z y : List Int} (R : Rows lim gs xs (rs ++ [z])) (hy : StOk gs y) (s : Stp lim gs z y) : Rows lim gs xs (rs ++ [z] ++ [y]) := by
  refine ⟨fun r hr => ?_, fun r hr k hk hc => ?_, fun i a b ha hb => ?_⟩
  · rcases List.mem_append.mp hr with h | h
    · exact R.ok r h
    · simp at h; subst h; exact hy
  · rcases List.mem_append.mp hr with h | h
    · exact R.cs r h k hk hc
    · simp at h; subst h
      rw [R.cs z (by simp) k hk hc, s.cs k hk hc]
  · by_cases c : i + 1 < (rs ++ [z]).length
    · rw [List.getElem?_append_left c] at hb
      rw [List.getElem?_append_left (by omega)] at ha
      exact R.st i a b ha hb
    · have hlt : i + 1 < (rs ++ [z] ++ [y]).length := (List.getElem?_eq_some_iff.mp hb).1
      simp at c hlt
      have e : i = rs.length := by omega
      subst e
      simp at ha hb
      subst ha hb
      exact s
end
end WC
namespace WC
open WF PySem
open L2 (atI ixN)
theorem imms_map {α : Type} {enc : α → D} (h : ∀ x, D.imm (enc x) = true) : ∀ xs : List α, D.imms (xs.map enc) = true
  | [] => rfl
  | x :: xs => by simp [D.imms, h x, imms_map h xs]
@[simp] theorem imm_stT {xs : List Int} : D.imm (sq true (xs.map D.int)) = true := imms_map (enc := D.int) (fun _ => rfl) xs
@[simp] theorem eqD_stS {neg t : Bool} {xs ys : List Int} : eqD neg (sq t (xs.map D.int)) (sq t (ys.map D.int)) = some (.bl (if neg = true then !decide (xs = ys) else decide (xs = ys))) := eqD_sq (eInt (n := 0)) (by omega)
@[simp] theorem isD_sq {neg t : Bool} {xs : List D} : isD neg (sq t xs) .non = some (.bl neg) := by cases t <;> cases neg <;> rfl
section
variable {α : Type} {x y z u : α}
@[simp] theorem atI_m1 : atI [x] (-1) = some x := rfl
@[simp] theorem atI_m2 : atI [x, y] (-1) = some y := rfl
@[simp] theorem atI_m3 : atI [x, y, z] (-1) = some z := rfl
@[simp] theorem atI_m4 : atI [x, y, z, u] (-1) = some u := rfl
end
section
variable {lim : Int} {gs : List (Int × Int)} {xs ys zs : List Int} {j : Bool}
theorem comp_true (h : Cmp lim gs xs ys) : compB lim gs xs ys = true := compB_iff.mpr h
theorem le_jn {k : Nat} (hk : k < gs.length) : suf lim gs xs k ≤ suf lim gs (jn lim gs true xs ys) k := by
  rw [suf_jn hk]; unfold cmb; simp; omega
theorem jn_le {k : Nat} (hk : k < gs.length) : suf lim gs (jn lim gs false xs ys) k ≤ suf lim gs xs k := by
  rw [suf_jn hk]; unfold cmb; simp; omega
theorem reach_join (h : Cmp lim gs xs ys) : reachB lim gs xs (jn lim gs true xs ys) = true := reach_iff.mpr ⟨h.jn, fun k hk => le_jn hk⟩
theorem reach_meet (h : Cmp lim gs xs ys) : reachB lim gs (jn lim gs false xs ys) xs = true := reach_iff.mpr ⟨h.jn.symm, fun k hk => jn_le hk⟩
end
end WC
namespace WC
open WF PySem
open L2 (atI ixN)
section
variable {N : Nat} {m lim : Int} {gs : List (Int × Int)} {xs ys zs : List Int}
def Pth (lim : Int) (gs : List (Int × Int)) : Nat → List Int → List Int → Prop
  | 0, x, y => x = y
  | n + 1, x, y => ∃ z p, Pth lim gs n x z ∧ p ∈ legM lim gs z ∧ y = apm z p.1 p.2 1
theorem leg_ok (hs : StOk gs zs) {p : Int × Int} (hp : p ∈ legM lim gs zs) : StOk gs (apm zs p.1 p.2 1) := by
  have h := mem_legM.mp hp
  exact stOk_apm hs hp (by omega) (by omega) (fun _ => by omega)
theorem Pth.ok (hx : StOk gs xs) : ∀ {n : Nat} {ys : List Int}, Pth lim gs n xs ys → StOk gs ys
  | 0, _, h => h ▸ hx
  | n + 1, _, ⟨z, p, h, hp, e⟩ => by rw [e]; exact leg_ok (Pth.ok hx h) hp
theorem Pth.cons {p : Int × Int} (hp : p ∈ legM lim gs xs) : ∀ {n : Nat} {ys : List Int}, Pth lim gs n (apm xs p.1 p.2 1) ys → Pth lim gs (n + 1) xs ys
  | 0, _, h => ⟨xs, p, rfl, hp, h.symm⟩
  | n + 1, _, ⟨z, q, h, hq, e⟩ => ⟨z, q, Pth.cons hp h, hq, e⟩
theorem Pth.uncons : ∀ {n : Nat} {xs ys : List Int}, Pth lim gs (n + 1) xs ys → ∃ p, p ∈ legM lim gs xs ∧ Pth lim gs n (apm xs p.1 p.2 1) ys
  | 0, xs, ys, ⟨z, p, h, hp, e⟩ => by cases h; exact ⟨p, hp, e.symm⟩
  | n + 1, xs, ys, ⟨z, q, h, hq, e⟩ => by
    obtain ⟨p, hp, h'⟩ := Pth.uncons h
    exact ⟨p, hp, z, q, h', hq, e⟩
theorem Pth.jmp : ∀ {n : Nat} {ys : List Int}, Pth lim gs n xs ys → ∃ js, Jmp lim gs xs js ys
  | 0, _, h => ⟨[], h⟩
  | n + 1, _, ⟨z, p, h, hp, e⟩ => by
    obtain ⟨js, J⟩ := Pth.jmp h
    have hl := mem_legM.mp hp
    subst e
    exact ⟨js ++ [(p.1, p.2, 1)], Jmp.snoc ⟨hp, by omega, by omega, fun _ => by omega⟩ J⟩
theorem Pth.reach (W : Wl N m lim gs) (hx : StOk gs xs) {n : Nat} (h : Pth lim gs n xs ys) : obsL lim gs xs ys = [] := by
  obtain ⟨js, J⟩ := h.jmp
  exact J.reach W hx.len
theorem Pth.sum (W : Wl N m lim gs) (hx : StOk gs xs) : ∀ {n : Nat} {ys : List Int}, Pth lim gs n xs ys → sumS lim gs xs + n ≤ sumS lim gs ys
  | 0, _, h => by cases h; omega
  | n + 1, _, ⟨z, p, h, hp, e⟩ => by
    have ih := Pth.sum W hx h
    have hz := h.ok hx
    have s := W.stp hz.len (t := 1) (List.mem_filter.mp hp).1 (by omega)
    have := s.sum
    rw [e]
    have e2 : apm z p.1 p.2 1 = apm z (p.1, p.2).1 (p.1, p.2).2 1 := rfl
    omega
theorem reach_way (W : Wl N m lim gs) (hy : StOk gs ys) : ∀ (n : Nat) {xs : List Int}, StOk gs xs → obsL lim gs xs ys = [] → (crs lim gs xs ys).sum.toNat = n → ∃ k, Pth lim gs k xs ys
  | n, xs, hx, h, e => by
    by_cases c : ∃ k, k < gs.length ∧ suf lim gs xs k < suf lim gs ys k
    · obtain ⟨k, hk, hlt⟩ := c
      obtain ⟨i, hi, hs, hm⟩ := W.step hx hy h hk hlt
      have hc : 0 < cn (crs lim gs xs ys) (i : Int) := by rw [cn_crs hi]; omega
      obtain ⟨a1, a2, a3⟩ := W.nei hx hy h hm (by simp only; omega) hc
      have hp := sum_bound0 (crs_nonneg h) hc (by simpa using hi)
      match n, e with
      | 0, e => exfalso; omega
      | n + 1, e =>
        obtain ⟨k, hk⟩ := reach_way W hy n a1 a2 (by rw [a3]; omega)
        exact ⟨k + 1, Pth.cons hm hk⟩
    · refine ⟨0, suf_inj (lim := lim) (gs := gs) hx.len hy.len fun k hk => ?_⟩
      have h1 := (obsL_nil.mp h k hk).1
      have h2 : ¬ suf lim gs xs k < suf lim gs ys k := fun z => c ⟨k, hk, z⟩
      omega
where
  sum_bound0 {l : List Int} {k : Nat} (h : ∀ x ∈ l, 0 ≤ x) (hk : 0 < cn l k) (hl : k < l.length) : 0 < l.sum := by
    have h0 : 0 ≤ l.sum := by
      clear hk hl
      induction l with
      | nil => simp
      | cons x l ih =>
        have := h x List.mem_cons_self
        have := ih fun y hy => h y (List.mem_cons_of_mem _ hy)
        simp; omega
    by_cases c : l.sum = 0
    · have := sum_zero h c (cn l k) (by simp [cn, hl])
      omega
    · omega
theorem way_iff (W : Wl N m lim gs) (hx : StOk gs xs) (hy : StOk gs ys) : (∃ k, Pth lim gs k xs ys) ↔ obsL lim gs xs ys = [] :=
  ⟨fun ⟨k, h⟩ => h.reach W hx, fun h => reach_way W hy _ hx h rfl⟩
end
def allS : List (Int × Int) → List (List Int)
  | [] => [[]]
  | p :: r => (List.range (p.2.toNat + 1)).flatMap fun (i : Nat) => (allS r).map fun l => (i : Int) :: l
theorem mem_allS : ∀ {gs : List (Int × Int)} {xs : List Int}, StOk gs xs → xs ∈ allS gs
  | [], [], _ => by simp [allS]
  | p :: r, x :: xs, h => by
    have h1 : 0 ≤ x := h.1
    have h2 : x ≤ p.2 := h.2.1
    have ih := mem_allS (gs := r) (xs := xs) h.2.2
    rw [allS, List.mem_flatMap]
    exact ⟨x.toNat, by simp; omega, List.mem_map.mpr ⟨xs, ih, by simp; omega⟩⟩
  | [], _ :: _, h => by cases h
  | _ :: _, [], h => by cases h
theorem allS_len {m : Int} : ∀ {gs : List (Int × Int)}, (∀ p ∈ gs, p.2 ≤ m) → (allS gs).length ≤ (m.toNat + 1) ^ gs.length
  | [], _ => by simp [allS]
  | p :: r, h => by
    have ih := allS_len (gs := r) fun q hq => h q (List.mem_cons_of_mem _ hq)
    have hp := h p List.mem_cons_self
    have key : ∀ n, ((List.range n).flatMap fun (i : Nat) => (allS r).map fun l => (i : Int) :: l).length = n * (allS r).length := by
      intro n
      induction n with
      | zero => simp
      | succ n ih => rw [List.range_succ, List.flatMap_append, List.length_append, ih]; simp [Nat.succ_mul]
    rw [allS, key, List.length_cons, Nat.pow_succ, Nat.mul_comm]
    exact Nat.mul_le_mul ih (by omega)
theorem nodup_len {α : Type} [DecidableEq α] : ∀ {l l' : List α}, l.Nodup → (∀ x ∈ l, x ∈ l') → l.length ≤ l'.length
  | [], _, _, _ => by simp
  | x :: l, l', hn, h => by
    rw [List.nodup_cons] at hn
    have hx := h x List.mem_cons_self
    have ih := nodup_len (l := l) (l' := l'.erase x) hn.2 fun y hy => (List.mem_erase_of_ne (fun e : y = x => hn.1 (by rw [← e]; exact hy))).mpr (h y (List.mem_cons_of_mem _ hy))
    have := List.length_erase_of_mem hx
    have := List.length_pos_of_mem hx
    rw [List.length_cons]
    omega
theorem states_len {N : Nat} {m lim : Int} {gs : List (Int × Int)} (W : Wl N m lim gs) {l : List (List Int)} (hn : l.Nodup) (h : ∀ x ∈ l, StOk gs x) : l.length ≤ (m.toNat + 1) ^ gs.length :=
  Nat.le_trans (nodup_len hn fun x hx => mem_allS (h x hx)) (allS_len fun p hp => (W.rise.bound p hp).2)
end WC
namespace WC
open WF PySem
open L2 (atI ixN Key)
def kS (ys : List Int) : List Key := ys.map Sum.inl
theorem kS_inj {x y : List Int} (h : kS x = kS y) : x = y := List.map_inj_right (fun _ _ e => Sum.inl.inj e) |>.mp h
def dsD (L : List (List Int × Int)) : D := .dtk true (L.map fun p => kS p.1) (L.map fun p => .int p.2)
def dsF (L : List (List Int × Int)) : D := .dtk false (L.map fun p => kS p.1) (L.map fun p => .int p.2)
def fnd (L : List (List Int × Int)) (y : List Int) : Option Int := (L.find? fun p => decide (p.1 = y)).map Prod.snd
section
variable {L : List (List Int × Int)} {y : List Int} {v : Int}
@[simp] theorem isUn_dsD : isUn (dsD L) = false := rfl
@[simp] theorem isUn_dsF : isUn (dsF L) = false := rfl
@[simp] theorem asDic_dsD : asDic (dsD L) = some (dsD L) := rfl
@[simp] theorem asDic_dsF : asDic (dsF L) = some (dsF L) := rfl
@[simp] theorem frz_dsD : D.frz (dsD L) = dsF L := by
  show D.dtk false _ (D.frzs _) = _
  rw [frzs_id (fun _ => rfl)]
  rfl
@[simp] theorem frz_dsF : D.frz (dsF L) = dsF L := by
  show D.dtk false _ (D.frzs _) = _
  rw [frzs_id (fun _ => rfl)]
  rfl
@[simp] theorem imms_ints {α : Type} {f : α → Int} {l : List α} : D.imms (l.map fun x => .int (f x)) = true := imms_map (fun _ => rfl) l
theorem keysD_ints {ys : List Int} : keysD (ys.map D.int) = some (kS ys) := by
  induction ys with
  | nil => rfl
  | cons y ys ih => rw [List.map_cons, keysD_cons, ih]; rfl
@[simp] theorem keyT_st : keyT (sq true (y.map D.int)) = some (kS y) := keysD_ints
theorem lk_ds : lk (L.map fun p => kS p.1) (L.map fun p => D.int p.2) (kS y) = (fnd L y).map D.int := by
  induction L with
  | nil => rfl
  | cons p L ih =>
    rw [List.map_cons, List.map_cons, lk, ih]
    unfold fnd
    rw [List.find?_cons]
    by_cases e : p.1 = y
    · rw [if_pos (by rw [e])]; simp [e]
    · rw [if_neg (fun z => e (kS_inj z))]; simp [e]
@[simp] theorem dsD_get : dGetD (dsD L) (sq true (y.map D.int)) = some ((fnd L y).map D.int) := by
  show (if D.Pal _ then (keyT _).map _ else none) = _
  rw [if_pos (.inl imms_ints), keyT_st, Option.map_some, lk_ds]
@[simp] theorem dsF_get : dGetD (dsF L) (sq true (y.map D.int)) = some ((fnd L y).map D.int) := by
  show (if D.Pal _ then (keyT _).map _ else none) = _
  rw [if_pos (.inl imms_ints), keyT_st, Option.map_some, lk_ds]
theorem fnd_none : fnd L y = none ↔ y ∉ L.map Prod.fst := by
  unfold fnd
  rw [Option.map_eq_none_iff, List.find?_eq_none, List.mem_map]
  constructor
  · rintro h ⟨p, hp, e⟩
    exact h p hp (by simpa using e)
  · intro h p hp e
    exact h ⟨p, hp, by simpa using e⟩
theorem fnd_mem {d : Int} (hn : (L.map Prod.fst).Nodup) : fnd L y = some d ↔ (y, d) ∈ L := by
  induction L with
  | nil => simp [fnd]
  | cons p L ih =>
    rw [List.map_cons, List.nodup_cons] at hn
    have ih := ih hn.2
    unfold fnd at ih ⊢
    rw [List.find?_cons]
    by_cases e : p.1 = y
    · simp only [e, decide_true, Option.map_some, Option.some.injEq, List.mem_cons]
      constructor
      · intro h; left; rw [← e, ← h]
      · rintro (h | h)
        · rw [← h]
        · exact absurd (List.mem_map.mpr ⟨(y, d), h, rfl⟩) (by rw [← e]; exact hn.1)
    · simp only [e, decide_false, List.mem_cons]
      rw [ih]
      constructor
      · exact fun h => .inr h
      · rintro (h | h)
        · exact absurd (by rw [← h]) e
        · exact h
theorem dsD_put (h : fnd L y = none) (hl : L.length < 1000000) : dPutD (dsD L) (sq true (y.map D.int)) (.int v) = some (dsD (L ++ [(y, v)])) := by
  rw [dsD, dPutD_dtk]
  have hk : kS y ∉ L.map fun p => kS p.1 := fun hm => by
    obtain ⟨p, hp, e⟩ := List.mem_map.mp hm
    exact fnd_none.mp h (List.mem_map.mpr ⟨p, hp, kS_inj e⟩)
  rw [if_pos ⟨.inl imms_ints, .inl rfl, by simpa using hl⟩, keyT_st, Option.map_some, pkK, pkV, if_neg hk, if_neg hk]
  simp [dsD]
end
section
variable {N : Nat} {m lim : Int} {gs : List (Int × Int)} {xs ys : List Int}
structure Bfs (lim : Int) (gs : List (Int × Int)) (xs : List Int) (n : Nat) (L : List (List Int × Int)) (ly : List (List Int)) : Prop where
  nd : (L.map Prod.fst).Nodup
  ok : ∀ p ∈ L, ∃ k : Nat, p.2 = k ∧ k ≤ n ∧ Pth lim gs k xs p.1
  all : ∀ k, k ≤ n → ∀ y, Pth lim gs k xs y → ∃ p ∈ L, p.1 = y ∧ p.2 ≤ k
  lay : ∀ y ∈ ly, (y, (n : Int)) ∈ L
  top : ∀ p ∈ L, p.2 = n → p.1 ∈ ly
structure Mid (lim : Int) (gs : List (Int × Int)) (L : List (List Int × Int)) (ly : List (List Int)) (F : List (List Int)) : Prop where
  nd : F.Nodup
  dj : ∀ y ∈ F, y ∉ L.map Prod.fst
  fr : ∀ y ∈ F, ∃ z ∈ ly, ∃ p ∈ legM lim gs z, y = apm z p.1 p.2 1
structure Wk2 (lim : Int) (gs : List (Int × Int)) (K : List (List Int)) (pre : List (List Int)) (z : List Int) (pre2 : List (Int × Int)) : Prop where
  hd : ∀ z ∈ pre, ∀ p ∈ legM lim gs z, apm z p.1 p.2 1 ∈ K
  hd2 : ∀ p ∈ pre2, apm z p.1 p.2 1 ∈ K
def nxtL (L : List (List Int × Int)) (n : Nat) (F : List (List Int)) : List (List Int × Int) := L ++ F.map fun y => (y, ((n + 1 : Nat) : Int))
theorem mem_nxtL {L : List (List Int × Int)} {n : Nat} {F : List (List Int)} {y : List Int} : y ∈ (nxtL L n F).map Prod.fst ↔ y ∈ L.map Prod.fst ∨ y ∈ F := by
  unfold nxtL
  rw [List.map_append, List.mem_append, List.map_map]
  have : F.map (Prod.fst ∘ fun y => (y, ((n + 1 : Nat) : Int))) = F := by simp [Function.comp_def]
  rw [this]
theorem Bfs.next {n : Nat} {L : List (List Int × Int)} {ly F : List (List Int)} (B : Bfs lim gs xs n L ly) (M : Mid lim gs L ly F) (hd : ∀ z ∈ ly, ∀ p ∈ legM lim gs z, apm z p.1 p.2 1 ∈ (nxtL L n F).map Prod.fst) : Bfs lim gs xs (n + 1) (nxtL L n F) F := by
  refine ⟨?_, fun p hp => ?_, fun k hk y hy => ?_, fun y hy => ?_, fun p hp e => ?_⟩
  · unfold nxtL
    rw [List.map_append, List.map_map]
    have : F.map (Prod.fst ∘ fun y => (y, ((n + 1 : Nat) : Int))) = F := by simp [Function.comp_def]
    rw [this, List.nodup_append]
    exact ⟨B.nd, M.nd, fun a ha b hb e => M.dj b hb (e ▸ ha)⟩
  · rcases List.mem_append.mp hp with h | h
    · obtain ⟨k, e1, e2, e3⟩ := B.ok p h
      exact ⟨k, e1, by omega, e3⟩
    · obtain ⟨y, hy, rfl⟩ := List.mem_map.mp h
      obtain ⟨z, hz, q, hq, e⟩ := M.fr y hy
      obtain ⟨k, e1, e2, e3⟩ := B.ok _ (B.lay z hz)
      have : k = n := by simp only at e1; omega
      subst this
      exact ⟨k + 1, rfl, Nat.le_refl _, z, q, e3, hq, e⟩
  · by_cases c : k ≤ n
    · obtain ⟨p, hp, e⟩ := B.all k c y hy
      exact ⟨p, List.mem_append_left _ hp, e⟩
    · have : k = n + 1 := by omega
      subst this
      obtain ⟨z, q, hz, hq, e⟩ := hy
      obtain ⟨p, hp, e1, e2⟩ := B.all n (Nat.le_refl _) z hz
      obtain ⟨j, f1, f2, f3⟩ := B.ok p hp
      by_cases cj : j = n
      · have hm := hd z (by rw [← e1]; exact B.top p hp (by omega)) q hq
        rw [← e] at hm
        obtain ⟨p', hp', e'⟩ := List.mem_map.mp hm
        refine ⟨p', hp', e', ?_⟩
        rcases List.mem_append.mp hp' with h | h
        · obtain ⟨k, g1, g2, _⟩ := B.ok p' h; omega
        · obtain ⟨y', _, rfl⟩ := List.mem_map.mp h
          exact Int.le_refl _
      · obtain ⟨p', hp', e1', e2'⟩ := B.all (j + 1) (by omega) y ⟨z, q, by rw [← e1]; exact f3, hq, e⟩
        exact ⟨p', List.mem_append_left _ hp', e1', by omega⟩
  · exact List.mem_append_right _ (List.mem_map.mpr ⟨y, hy, rfl⟩)
  · rcases List.mem_append.mp hp with h | h
    · obtain ⟨k, e1, e2, e3⟩ := B.ok p h; omega
    · obtain ⟨y, hy, rfl⟩ := List.mem_map.mp h
      exact hy
structure Dst (lim : Int) (gs : List (Int × Int)) (xs : List Int) (L : List (List Int × Int)) : Prop where
  nd : (L.map Prod.fst).Nodup
  ok : ∀ p ∈ L, ∃ k : Nat, p.2 = k ∧ Pth lim gs k xs p.1
  le : ∀ k y, Pth lim gs k xs y → ∃ p ∈ L, p.1 = y ∧ p.2 ≤ k
theorem Bfs.dst {n : Nat} {L : List (List Int × Int)} (B : Bfs lim gs xs n L []) : Dst lim gs xs L := by
  refine ⟨B.nd, fun p hp => by obtain ⟨k, a, _, b⟩ := B.ok p hp; exact ⟨k, a, b⟩, fun k => ?_⟩
  induction k with
  | zero => exact fun y hy => B.all 0 (Nat.zero_le _) y hy
  | succ k ih =>
    rintro y ⟨z, q, hz, hq, e⟩
    obtain ⟨p, hp, e1, e2⟩ := ih z hz
    obtain ⟨j, f1, f2, f3⟩ := B.ok p hp
    have cj : j ≠ n := fun c => by have := B.top p hp (by omega); cases this
    obtain ⟨p', hp', e1', e2'⟩ := B.all (j + 1) (by omega) y ⟨z, q, by rw [← e1]; exact f3, hq, e⟩
    exact ⟨p', hp', e1', by omega⟩
theorem distances_sp {Q : D → List D → Prop} (W : Wl N m lim gs) (hN : N ≤ 12) (hb : (m.toNat + 1) ^ gs.length ≤ 100000) (hx : StOk gs xs) (q : ∀ L, Dst lim gs xs L → Q (dsD L) [wlD true lim gs, stS true xs]) : wF m__law_distances [wlD true lim gs, stS true xs] Q := by
  have hl := W.len
  have hl' : gs.length ≤ 100 := by omega
  have bnd : ∀ {n : Nat} {L : List (List Int × Int)} {ly : List (List Int)}, Bfs lim gs xs n L ly → L.length ≤ 100000 := fun {n L ly} B => by
    have := states_len W B.nd fun y hy => by
      obtain ⟨p, hp, rfl⟩ := List.mem_map.mp hy
      obtain ⟨k, _, _, h⟩ := B.ok p hp
      exact h.ok hx
    rw [List.length_map] at this
    omega
  rw [m__law_distances, wF_def]
  have e0 : D.dtk true [kS xs] [D.int 0] = dsD [(xs, 0)] := rfl
  simp [b__law_distances, e0]
  refine while_ind (fun k S => ∃ n : Nat, ∃ L ly x5 x6 x7 x8 o, S = [wlD true lim gs, stS true xs, dsD L, .lst o (ly.map (stS true)), .int (n : Nat), x5, x6, x7, x8] ∧ Bfs lim gs xs n L ly ∧ k = ((gs.length * (gs.length * m) + 1).toNat - n) + (if ly = [] then 0 else 1)) ?_ ⟨0, [(xs, 0)], [xs], .un, .un, .un, .un, true, rfl, ⟨by simp, fun p hp => ⟨0, by simp at hp; rw [hp]; rfl, Nat.le_refl _, by simp at hp; rw [hp]; rfl⟩, fun k hk y hy => ?_, by simp, fun p hp _ => by simp at hp; simp [hp]⟩, rfl⟩
  · rintro k S ⟨n, L, ly, x5, x6, x7, x8, o, rfl, B, hk⟩
    have hL := bnd B
    simp
    rw [eqD_lst0 (eSq (t := true) (eInt (n := 0))) (by omega)]
    simp
    by_cases he : ly = []
    · subst he
      simp
      exact q L B.dst
    · simp [he, frzs_stS]
      have okl : ∀ z ∈ ly, StOk gs z ∧ (n : Int) ≤ gs.length * (gs.length * m) := fun z hz => by
        obtain ⟨j, e1, e2, h⟩ := B.ok _ (B.lay z hz)
        have hz := h.ok hx
        have s1 := h.sum W hx
        have s2 := (sumS_bound W hz).2
        have s3 := (sumS_bound W hx).1
        simp only at e1
        exact ⟨hz, by omega⟩
      have hnb : (n : Int) ≤ gs.length * (gs.length * m) := by
        obtain ⟨z, hz⟩ := List.exists_mem_of_ne_nil _ he
        exact (okl z hz).2
      have fin : ∀ F, Mid lim gs L ly F → (nxtL L n F).length < 1000000 ∧ F.length < 1000000 := fun F M => by
        have := states_len (l := (nxtL L n F).map Prod.fst) W (by
          unfold nxtL
          rw [List.map_append, List.map_map]
          have : F.map (Prod.fst ∘ fun y => (y, ((n + 1 : Nat) : Int))) = F := by simp [Function.comp_def]
          rw [this, List.nodup_append]
          exact ⟨B.nd, M.nd, fun a ha b hb e => M.dj b hb (e ▸ ha)⟩) fun y hy => by
          rcases mem_nxtL.mp hy with h | h
          · obtain ⟨p, hp, rfl⟩ := List.mem_map.mp h
            obtain ⟨k, _, _, h⟩ := B.ok p hp
            exact h.ok hx
          · obtain ⟨z, hz, p, hp, rfl⟩ := M.fr y h
            exact leg_ok (okl z hz).1 hp
        rw [List.length_map] at this
        have e2 : (nxtL L n F).length = L.length + F.length := by simp [nxtL]
        omega
      refine loop_pre (stS true) (fun pre S => ∃ F x6 x7 x8, S = [wlD true lim gs, stS true xs, dsD (nxtL L n F), .lst false (ly.map (stS true)), .int ((n + 1 : Nat) : Int), .lst true (F.map (stS true)), x6, x7, x8] ∧ Mid lim gs L ly F ∧ Wk2 lim gs ((nxtL L n F).map Prod.fst) pre [] []) ly ?_ ?h0 ?_
      case h0 => exact ⟨[], x6, x7, x8, by simp [nxtL], ⟨by simp, by simp, by simp⟩, ⟨by simp, by simp⟩⟩
      · rintro pre z post e S ⟨F, x6, x7, x8, rfl, M, hd⟩
        have hz : z ∈ ly := by rw [e]; simp
        have okz := (okl z hz).1
        simp [lw_legal_moves_eq hl' okz.len]
        refine loop_pre prD (fun pre2 S => ∃ F x7 x8, S = [wlD true lim gs, stS true xs, dsD (nxtL L n F), .lst false (ly.map (stS true)), .int ((n + 1 : Nat) : Int), .lst true (F.map (stS true)), stS true z, x7, x8] ∧ Mid lim gs L ly F ∧ Wk2 lim gs ((nxtL L n F).map Prod.fst) pre z pre2) (legM lim gs z) ?_ ⟨F, _, _, rfl, M, hd.hd, by simp⟩ ?_
        · rintro pre2 p post2 e2 S ⟨F, x7, x8, rfl, M, hd⟩
          have hp : p ∈ legM lim gs z := by rw [e2]; simp
          have hpl := mem_legM.mp hp
          have lz := okz.len
          have hpD : prD p = .tup [.int p.1, .int p.2] := rfl
          obtain ⟨b1, b2⟩ := fin F M
          simp (disch := omega) [hpD, applied_eq]
          cases hf : fnd (nxtL L n F) (apm z p.1 p.2 1) with
          | some d =>
            have hm : apm z p.1 p.2 1 ∈ (nxtL L n F).map Prod.fst := by
              by_cases c : apm z p.1 p.2 1 ∈ (nxtL L n F).map Prod.fst
              · exact c
              · rw [fnd_none.mpr c] at hf; cases hf
            simp
            refine ⟨F, ⟨rfl, rfl⟩, M, hd.hd, fun a hab => ?_⟩
            rcases List.mem_append.mp hab with h | h
            · exact hd.hd2 a h
            · have : a = p := by simpa using h
              subst this
              exact hm
          | none =>
            have hm := fnd_none.mp hf
            simp [dsD_put hf b1, b2]
            have en : nxtL L n F ++ [(apm z p.1 p.2 1, (n : Int) + 1)] = nxtL L n (F ++ [apm z p.1 p.2 1]) := by simp [nxtL]
            have sub : ∀ y, y ∈ (nxtL L n F).map Prod.fst → y ∈ (nxtL L n (F ++ [apm z p.1 p.2 1])).map Prod.fst := fun y hy => by
              rcases mem_nxtL.mp hy with h | h
              · exact mem_nxtL.mpr (.inl h)
              · exact mem_nxtL.mpr (.inr (List.mem_append_left _ h))
            rw [en]
            refine ⟨F ++ [apm z p.1 p.2 1], ⟨rfl, by simp⟩, ⟨?_, fun y hy => ?_, fun y hy => ?_⟩, fun z' hz' a ha => sub _ (hd.hd z' hz' a ha), fun a hab => ?_⟩
            · rw [List.nodup_append]
              exact ⟨M.nd, by simp, fun a ha b hb e => hm (mem_nxtL.mpr (.inr (by have : b = apm z p.1 p.2 1 := by simpa using hb
                                                                                  rw [← this, ← e]; exact ha)))⟩
            · rcases List.mem_append.mp hy with h | h
              · exact M.dj y h
              · have : y = apm z p.1 p.2 1 := by simpa using h
                subst this
                exact fun h => hm (mem_nxtL.mpr (.inl h))
            · rcases List.mem_append.mp hy with h | h
              · exact M.fr y h
              · have : y = apm z p.1 p.2 1 := by simpa using h
                exact ⟨z, hz, p, hp, this⟩
            · rcases List.mem_append.mp hab with h | h
              · exact sub _ (hd.hd2 a h)
              · have : a = p := by simpa using h
                subst this
                exact mem_nxtL.mpr (.inr (by simp))
        · rintro S ⟨F, x7, x8, rfl, M, hd⟩
          refine ⟨F, _, _, _, rfl, M, fun z' hz' => ?_, by simp⟩
          rcases List.mem_append.mp hz' with h | h
          · exact hd.hd z' h
          · have : z' = z := by simpa using h
            subst this
            exact hd.hd2
      · rintro S ⟨F, x6, x7, x8, rfl, M, hd⟩
        simp [frzs_stS]
        have B2 := B.next M hd.hd
        refine ⟨_, ?_, n + 1, _, F, ⟨by simp, rfl, rfl⟩, B2, rfl⟩
        rw [hk, if_neg he]
        split <;> omega
  · have : k = 0 := by omega
    subst this
    cases hy
    exact ⟨(xs, 0), by simp, rfl, Int.le_refl _⟩
end
end WC
namespace WC
open WF PySem
open L2 (atI ixN Key)
section
variable {N : Nat} {m lim : Int} {gs : List (Int × Int)} {xs ys : List Int}
def extS (p : Int × Int) (h : List Int) : List (List Int) := (List.range (p.2.toNat + 1)).map fun (b : Nat) => h ++ [(b : Int)]
def wdS (p : Int × Int) (l : List (List Int)) : List (List Int) := l.flatMap (extS p)
theorem wdS_snoc {p : Int × Int} {l : List (List Int)} {h : List Int} : wdS p (l ++ [h]) = wdS p l ++ extS p h := by simp [wdS]
theorem wdS_len {p : Int × Int} {l : List (List Int)} : (wdS p l).length = l.length * (p.2.toNat + 1) := by
  induction l with
  | nil => simp [wdS]
  | cons h l ih =>
    unfold wdS at ih ⊢
    rw [List.flatMap_cons, List.length_append, ih, List.length_cons, Nat.succ_mul]
    simp [extS]
    omega
def stdS (l : List (Int × Int)) : List (List Int) := l.foldl (fun acc p => wdS p acc) [[]]
theorem stdS_snoc {l : List (Int × Int)} {p : Int × Int} : stdS (l ++ [p]) = wdS p (stdS l) := by simp [stdS]
theorem StOk.unsnoc {p : Int × Int} : ∀ {gs : List (Int × Int)} {ys : List Int}, StOk (gs ++ [p]) ys → ∃ h b, ys = h ++ [b] ∧ StOk gs h ∧ 0 ≤ b ∧ b ≤ p.2
  | [], [y], h => ⟨[], y, rfl, trivial, h.1, h.2.1⟩
  | [], [], h => by cases h
  | [], _ :: _ :: _, h => by cases h.2.2
  | q :: gs, [], h => by cases h
  | q :: gs, y :: ys, h => by
    obtain ⟨a, b, e, h1, h2⟩ := StOk.unsnoc (gs := gs) (ys := ys) h.2.2
    exact ⟨y :: a, b, by rw [e]; rfl, ⟨h.1, h.2.1, h1⟩, h2⟩
theorem mem_wdS {p : Int × Int} {l : List (List Int)} {y : List Int} : y ∈ wdS p l ↔ ∃ h ∈ l, ∃ b : Nat, b ≤ p.2.toNat ∧ y = h ++ [(b : Int)] := by
  unfold wdS extS
  rw [List.mem_flatMap]
  constructor
  · rintro ⟨h, hm, hy⟩
    obtain ⟨b, hb, e⟩ := List.mem_map.mp hy
    exact ⟨h, hm, b, by simp at hb; omega, e.symm⟩
  · rintro ⟨h, hm, b, hb, e⟩
    exact ⟨h, hm, List.mem_map.mpr ⟨b, by simp; omega, e.symm⟩⟩
theorem mem_stdS : ∀ (l : List (Int × Int)) {y : List Int}, (∀ p ∈ l, 0 ≤ p.2) → (y ∈ stdS l.reverse ↔ StOk l.reverse y)
  | [], y, _ => by
    simp only [List.reverse_nil, stdS, List.foldl_nil, List.mem_singleton]
    constructor
    · rintro rfl; trivial
    · intro h; cases y with
      | nil => rfl
      | cons a y => cases h
  | p :: l, y, hp => by
    rw [List.reverse_cons, stdS_snoc, mem_wdS]
    have ih := fun y => mem_stdS l (y := y) fun q hq => hp q (List.mem_cons_of_mem _ hq)
    have h0 := hp p List.mem_cons_self
    constructor
    · rintro ⟨h, hm, b, hb, rfl⟩
      exact ((ih h).mp hm).snoc (by omega) (by omega)
    · intro h
      obtain ⟨a, b, e, h1, h2, h3⟩ := h.unsnoc
      exact ⟨a, (ih a).mpr h1, b.toNat, by omega, by rw [e]; congr 2; omega⟩
theorem Wl.mem_std (W : Wl N m lim gs) {y : List Int} : y ∈ stdS gs ↔ StOk gs y := by
  have := mem_stdS gs.reverse (y := y) fun p hp => by have := W.rise.bound p (List.mem_reverse.mp hp); omega
  rwa [List.reverse_reverse] at this
theorem stdS_len : ∀ (l : List (Int × Int)), (∀ p ∈ l, p.2 ≤ m) → 0 ≤ m → (stdS l.reverse).length ≤ (m.toNat + 1) ^ l.length
  | [], _, _ => by simp [stdS]
  | p :: l, h, h0 => by
    have ih := stdS_len l (fun q hq => h q (List.mem_cons_of_mem _ hq)) h0
    have hp := h p List.mem_cons_self
    rw [List.reverse_cons, stdS_snoc, wdS_len, List.length_cons, Nat.pow_succ]
    exact Nat.mul_le_mul ih (by omega)
theorem all_stands_eq {Q : D → List D → Prop} (W : Wl N m lim gs) (hN : N ≤ 100) (hb : (m.toNat + 1) ^ gs.length ≤ 100000) : wF m__law_all_stands [wlD true lim gs] Q ↔ Q (.lst false ((stdS gs).map (stS true))) [wlD true lim gs] := by
  have h0 := List.length_pos_iff.mpr W.ne
  have hm0 : 1 ≤ m := by have := W.size (k := 0) (by omega) (by omega); omega
  have hgl := W.len
  have pw : ∀ k, k ≤ gs.length → (m.toNat + 1) ^ k ≤ 100000 := fun k hk => Nat.le_trans (Nat.pow_le_pow_right (by omega) hk) hb
  have len : ∀ pre post, gs = pre ++ post → (stdS pre).length ≤ 100000 := fun pre post e => by
    have := stdS_len (m := m) pre.reverse (fun p hp => (W.rise.bound p (by rw [e]; exact List.mem_append_left _ (List.mem_reverse.mp hp))).2) (by omega)
    rw [List.reverse_reverse, List.length_reverse] at this
    exact Nat.le_trans this (pw _ (by rw [e, List.length_append]; omega))
  refine wF_iff fun Q q => ?_
  rw [m__law_all_stands, wF_def]
  simp [b__law_all_stands]
  refine loop_pre (gpD true) (fun pre S => ∃ o x2 x3 x4 x5 x6, S = [wlD true lim gs, .lst o ((stdS pre).map (stS true)), x2, x3, x4, x5, x6] ∧ (pre ≠ [] → o = false)) gs ?_ ⟨true, _, _, _, _, _, rfl, by simp⟩ ?_
  · rintro pre p post e S ⟨o, x2, x3, x4, x5, x6, rfl, ho⟩
    have bp := W.rise.bound p (by rw [e]; simp)
    have l1 := len pre (p :: post) e
    have l2 := len (pre ++ [p]) post (by rw [e]; simp)
    rw [stdS_snoc, wdS_len] at l2
    simp [frzs_stS]
    refine loop_pre (stS true) (fun pre2 S => ∃ x5 x6, S = [wlD true lim gs, .lst false ((stdS pre).map (stS true)), .int p.1, .int p.2, .lst true ((wdS p pre2).map (stS true)), x5, x6]) (stdS pre) ?_ ?h0 ?_
    case h0 => exact ⟨x5, x6, by simp [wdS]⟩
    · rintro pre2 h post2 e2 S ⟨x5, x6, rfl⟩
      have l3 : pre2.length < (stdS pre).length := by rw [e2]; simp
      have l4 : (wdS p pre2).length + (p.2.toNat + 1) ≤ 100000 := by
        rw [wdS_len]
        have : (pre2.length + 1) * (p.2.toNat + 1) ≤ (stdS pre).length * (p.2.toNat + 1) := Nat.mul_le_mul_right _ l3
        rw [Nat.succ_mul] at this
        omega
      have b62 : (p.2.toNat : Int) = p.2 := by omega
      simp [frzs_stS]
      have hbig : p.2.toNat + 1 ≤ 100000 := by omega
      refine ⟨by omega, ?_⟩
      refine comp_map0 (enc := fun (b : Nat) => D.int (0 + (b : Int))) (φ := fun b => stS true (h ++ [(b : Int)])) (List.range (p.2 + 1).toNat) (fun b hb => ?_) (by simp; omega) ?_
      · have hh : StOk pre h := by
          have := mem_stdS pre.reverse (y := h) fun p hp => by have := W.rise.bound p (by rw [e]; exact List.mem_append_left _ (List.mem_reverse.mp hp)); omega
          rw [List.reverse_reverse] at this
          exact this.mp (by rw [e2]; simp)
        have hl := hh.len
        have hl2 : pre.length ≤ gs.length := by rw [e]; simp
        have e5 : addD (sq true (h.map D.int)) (.tup [.int (b : Int)]) = some (stS true (h ++ [(b : Int)])) := by
          show addD (.tup _) (.tup _) = _
          simp [sq, show h.length + 1 ≤ 1000000 by omega]
        simp [e5]
      · have e6 : ([] : List D) ++ (List.range (p.2 + 1).toNat).map (fun (b : Nat) => stS true (h ++ [(b : Int)])) = (extS p h).map (stS true) := by
          rw [List.nil_append, extS, List.map_map, show (p.2 + 1).toNat = p.2.toNat + 1 by omega]
          rfl
        have e7 : (extS p h).length = p.2.toNat + 1 := by simp [extS]
        rw [e6]
        simp only [frzs_len, List.length_map]
        rw [if_pos (by rw [e7]; omega)]
        simp [frzs_stS, wdS_snoc]
    · rintro S ⟨x5, x6, rfl⟩
      simp [frzs_stS]
      rw [stdS_snoc]
  · rintro S ⟨o, x2, x3, x4, x5, x6, rfl, ho⟩
    simp
    rw [ho W.ne]
    exact q
end
end WC
namespace WC
open WF PySem
open L2 (atI ixN)
def tot (l : List (Int × Int)) : Int := (l.map Prod.snd).sum
def takeC : List (Int × Int) → Int → List (Int × Int)
  | [], _ => []
  | p :: r, a => (p.1, min p.2 a) :: takeC r (a - min p.2 a)
def takeR : List (Int × Int) → Int → List (Int × Int)
  | [], _ => []
  | p :: r, a => (p.1, p.2 - min p.2 a) :: takeR r (a - min p.2 a)
def left : List (Int × Int) → Int → Int
  | [], a => a
  | p :: r, a => left r (a - min p.2 a)
@[simp] theorem takeC_len : ∀ {l : List (Int × Int)} {a : Int}, (takeC l a).length = l.length
  | [], a => rfl
  | p :: r, a => by simp [takeC, takeC_len (l := r)]
@[simp] theorem takeR_len : ∀ {l : List (Int × Int)} {a : Int}, (takeR l a).length = l.length
  | [], a => rfl
  | p :: r, a => by simp [takeR, takeR_len (l := r)]
def posL (l : List (Int × Int)) : List (Int × Int) := l.filter fun p => decide (0 < p.2)
section
variable {o : Bool} {l : List (Int × Int)} {a : Int} {Q : D → List D → Prop}
end
def expL (lim : Int) (gs : List (Int × Int)) (k : Nat) (l : List (Int × Int)) : Int := if k = gs.length then 0 else tot (l.filter fun p => decide (lim < wt gs k - wt gs p.1))
section
variable {t o : Bool} {lim : Int} {gs : List (Int × Int)} {l : List (Int × Int)} {k : Nat} {Q : D → List D → Prop}
end
abbrev Swp := List (Int × Int × Int) × List (Int × Int)
def amt (lim : Int) (gs : List (Int × Int)) (k : Nat) (c : Int) (s : Swp) : Int := max (expL lim gs k s.2) (tot s.2 - c)
def swS (lim : Int) (gs : List (Int × Int)) (k : Nat) (c : Int) (s : Swp) : Swp :=
  (s.1 ++ (posL (takeC s.2 (amt lim gs k c s))).map fun p => ((k : Int) - 1, p.1, p.2),
   posL (takeR s.2 (amt lim gs k c s)) ++ if 0 < c - tot (posL (takeR s.2 (amt lim gs k c s))) then [((k : Int) - 1, c - tot (posL (takeR s.2 (amt lim gs k c s))))] else [])
def sw (lim : Int) (gs : List (Int × Int)) (cs : List Int) : Nat → Swp
  | 0 => ([], [])
  | k + 1 => swS lim gs k (cn cs k) (sw lim gs cs k)
section
variable {t t' o : Bool} {lim : Int} {gs : List (Int × Int)} {cs : List Int} {k : Nat} {Q : D → List D → Prop}
def tL (p : Int × Int × Int) : List Int := [p.1, p.2.1, p.2.2]
def sort3 (ps : List (Int × Int × Int)) : List (Int × Int × Int) := ps.mergeSort fun a b => leL (tL a) (tL b)
theorem tpsD_tr : ∀ {ps : List (Int × Int × Int)}, tpsD (ps.map trD) = some (ps.map tL)
  | [] => rfl
  | p :: ps => by simp [tpsD, trD, tpsD_tr (ps := ps), tL]
theorem sortT_map {ps : List (Int × Int × Int)} : sortT (ps.map tL) = (sort3 ps).map tL := by
  symm
  refine sortT_is ((List.mergeSort_perm ps _).map tL) ?_
  rw [List.pairwise_map]
  exact List.pairwise_mergeSort (fun a b c h h' => by
    simp only [leL, Bool.not_eq_true'] at *
    exact ltL_tr _ _ _ h h') (fun a b => leL_tot _ _) ps
@[simp] theorem sortTD_tr {ps : List (Int × Int × Int)} : sortTD [.lst o (ps.map trD)] = some (.lst true ((sort3 ps).map trD)) := by
  simp [sortTD, tpsD_tr, sortT_map, tL, trD, Function.comp_def]
end
end WC
namespace WC
open WF PySem
open L2 (atI ixN)
def tot3 (l : List (Int × Int × Int)) : Int := (l.map fun p => p.2.2).sum
def crL (lim : Int) (gs : List (Int × Int)) (xs ys : List Int) : List Int := (List.range gs.length).map fun k => suf lim gs ys k - suf lim gs xs k
section
variable {t t' t2 o : Bool} {lim : Int} {gs : List (Int × Int)} {xs ys cs : List Int} {k : Nat} {Q : D → List D → Prop}
@[simp] theorem crL_len : (crL lim gs xs ys).length = gs.length := by simp [crL]
theorem cn_crL (hk : k < gs.length) : cn (crL lim gs xs ys) k = suf lim gs ys k - suf lim gs xs k := by unfold crL; rw [cn_range hk]
end
end WC
namespace WC
open WF PySem
open L2 (atI ixN)
abbrev Tr := Int × Int × Int
def sm (p : Tr → Bool) (l : List Tr) : Int := ((l.filter p).map fun x => x.2.2).sum
section
variable {p q : Tr → Bool} {l l' : List Tr} {x : Tr}
@[simp] theorem sm_nil : sm p [] = 0 := rfl
theorem sm_cons : sm p (x :: l) = (if p x = true then x.2.2 else 0) + sm p l := by
  unfold sm
  rw [List.filter_cons]
  split <;> simp_all
theorem sm_perm (h : l.Perm l') : sm p l = sm p l' := by
  induction h with
  | nil => rfl
  | cons x _ ih => simp [sm_cons, ih]
  | swap x y l => simp [sm_cons]; omega
  | trans _ _ ih1 ih2 => exact ih1.trans ih2
theorem sm_congr (h : ∀ x ∈ l, p x = q x) : sm p l = sm q l := by
  induction l with
  | nil => rfl
  | cons x l ih => rw [sm_cons, sm_cons, ih (fun y hy => h y (List.mem_cons_of_mem _ hy)), h x List.mem_cons_self]
theorem sm_zero (h : ∀ x ∈ l, p x = false) : sm p l = 0 := by
  induction l with
  | nil => rfl
  | cons x l ih => rw [sm_cons, ih (fun y hy => h y (List.mem_cons_of_mem _ hy)), h x List.mem_cons_self]; rfl
theorem sm_split (r : Tr → Bool) : sm p l = sm (fun x => p x && r x) l + sm (fun x => p x && !r x) l := by
  induction l with
  | nil => rfl
  | cons x l ih =>
    rw [sm_cons, sm_cons, sm_cons, ih]
    cases p x <;> cases r x <;> simp <;> omega
theorem tot3_sm : tot3 l = sm (fun _ => true) l := by
  unfold tot3 sm
  rw [List.filter_eq_self.mpr (fun _ _ => rfl)]
end
def crsT (l : List Tr) (g : Int) : Int := sm (fun x => decide (x.2.1 < g) && decide (g ≤ x.1)) l
structure Cov (lim : Int) (gs : List (Int × Int)) (cs : List Int) (l : List Tr) : Prop where
  mv : ∀ x ∈ l, (x.1, x.2.1) ∈ allM lim gs
  nn : ∀ x ∈ l, 0 ≤ x.2.2
  cr : ∀ g : Nat, g < gs.length → crsT l g = cn cs g
def old (l : List (Int × Int)) (u : Int) : Int := ((l.filter fun p => decide (p.1 ≤ u)).map Prod.snd).sum
@[simp] theorem old_nil {u : Int} : old [] u = 0 := rfl
@[simp] theorem tot_nil : tot [] = 0 := rfl
def Asc (l : List (Int × Int)) : Prop := l.Pairwise fun p q => p.1 < q.1
end WC
namespace WC
open WF PySem
open L2 (atI ixN)
section
variable {N : Nat} {m lim : Int} {gs : List (Int × Int)} {cs : List Int}
structure CrOk (lim : Int) (gs : List (Int × Int)) (cs : List Int) : Prop where
  len : cs.length = gs.length
  nn : ∀ g : Nat, 0 ≤ cn cs g
  st : ∀ g : Nat, g < gs.length → 0 < cn cs g → wt gs g - wt gs ((g : Int) - 1) ≤ lim
theorem CrOk.out (C : CrOk lim gs cs) {g : Nat} (h : gs.length ≤ g) : cn cs g = 0 := by
  have := C.len
  simp [cn, show cs.length ≤ g by omega]
structure SwOk (lim : Int) (gs : List (Int × Int)) (cs : List Int) (k : Nat) (s : Swp) : Prop where
  up : ∀ p ∈ s.2, -1 ≤ p.1 ∧ p.1 < (k : Int) - 1
  pos : ∀ p ∈ s.2, 0 < p.2
  asc : Asc s.2
  tt : tot s.2 = if k = 0 then 0 else cn cs ((k : Int) - 1)
  mvo : ∀ p ∈ s.2, k ≤ gs.length → wt gs ((k : Int) - 1) - wt gs p.1 ≤ lim
  fpos : ∀ x ∈ s.1, 0 < x.2.2
  fmv : ∀ x ∈ s.1, (x.1, x.2.1) ∈ allM lim gs ∧ x.1 < (k : Int) - 1
  cr : ∀ g : Nat, g < k → crsT s.1 g + old s.2 ((g : Int) - 1) = cn cs g
end
end WC
namespace WC
open WF PySem
open L2 (atI ixN)
section
variable {N : Nat} {m lim : Int} {gs : List (Int × Int)} {cs : List Int}
theorem tot3_app {l l' : List Tr} : tot3 (l ++ l') = tot3 l + tot3 l' := by simp [tot3]
theorem Cov.sub (W : Wl N m lim gs) {l : List Tr} (L : Cov lim gs cs l) (C : CrOk lim gs cs) {k : Nat} (hk : k ≤ gs.length) : sm (fun x => decide (x.2.1 ≤ (k : Int) - 1)) l = sm (fun x => decide (x.1 ≤ (k : Int) - 1)) l + cn cs k := by
  have h1 := sm_split (p := fun x : Tr => decide (x.2.1 ≤ (k : Int) - 1)) (l := l) (fun x => decide (x.1 ≤ (k : Int) - 1))
  have h2 : sm (fun x : Tr => decide (x.2.1 ≤ (k : Int) - 1) && decide (x.1 ≤ (k : Int) - 1)) l = sm (fun x => decide (x.1 ≤ (k : Int) - 1)) l := sm_congr fun x hx => by
    have := mem_allM.mp (L.mv x hx)
    simp only at this
    by_cases c : x.1 ≤ (k : Int) - 1
    · have : x.2.1 ≤ (k : Int) - 1 := by omega
      simp [c, this]
    · simp [c]
  have h3 : sm (fun x : Tr => decide (x.2.1 ≤ (k : Int) - 1) && !decide (x.1 ≤ (k : Int) - 1)) l = crsT l k := sm_congr fun x hx => by
    have e1 : decide (x.2.1 ≤ (k : Int) - 1) = decide (x.2.1 < (k : Int)) := by simp only [decide_eq_decide]; omega
    have e2 : (!decide (x.1 ≤ (k : Int) - 1)) = decide ((k : Int) ≤ x.1) := by
      by_cases c : x.1 ≤ (k : Int) - 1
      · have : ¬ (k : Int) ≤ x.1 := by omega
        simp [c, this]
      · have : (k : Int) ≤ x.1 := by omega
        simp [c, this]
    rw [e1, e2]
  have h4 : crsT l k = cn cs k := by
    by_cases c : k < gs.length
    · exact L.cr k c
    · rw [C.out (by omega)]
      refine sm_zero fun x hx => ?_
      have := mem_allM.mp (L.mv x hx)
      simp only at this
      have : ¬ (k : Int) ≤ x.1 := by omega
      simp [this]
  omega
end
end WC
namespace WC
open WF PySem
open L2 (atI ixN)
section
variable {N : Nat} {m lim : Int} {gs : List (Int × Int)} {cs xs ys : List Int}
theorem cn_ext {as bs : List Int} (hl : as.length = bs.length) (h : ∀ k : Nat, k < as.length → cn as k = cn bs k) : as = bs := by
  apply List.ext_getElem hl
  intro k h1 h2
  have := h k h1
  simpa [cn, h1, h2] using this
theorem ascM_ext {l l' : List (Int × Int)} (h : l.Pairwise fun a b => a.1 < b.1 ∨ (a.1 = b.1 ∧ a.2 < b.2)) (h' : l'.Pairwise fun a b => a.1 < b.1 ∨ (a.1 = b.1 ∧ a.2 < b.2)) (e : ∀ x, x ∈ l ↔ x ∈ l') : l = l' := by
  induction l generalizing l' with
  | nil =>
    cases l' with
    | nil => rfl
    | cons y l' => exact absurd ((e y).mpr List.mem_cons_self) (by simp)
  | cons x l ih =>
    cases l' with
    | nil => exact absurd ((e x).mp List.mem_cons_self) (by simp)
    | cons y l' =>
      rw [List.pairwise_cons] at h h'
      have hxy : x = y := by
        have a := (e x).mp List.mem_cons_self
        have b := (e y).mpr List.mem_cons_self
        rcases List.mem_cons.mp a with a | a
        · exact a
        · rcases List.mem_cons.mp b with b | b
          · exact b.symm
          · have p := h.1 y b
            have q := h'.1 x a
            omega
      subst hxy
      congr 1
      refine ih h.2 h'.2 fun z => ?_
      constructor
      · intro hz
        have p := h.1 z hz
        rcases List.mem_cons.mp ((e z).mp (List.mem_cons_of_mem _ hz)) with q | q
        · subst q; omega
        · exact q
      · intro hz
        have p := h'.1 z hz
        rcases List.mem_cons.mp ((e z).mpr (List.mem_cons_of_mem _ hz)) with q | q
        · subst q; omega
        · exact q
end
section
variable {N N2 : Nat} {m m2 lim : Int} {gs fs : List (Int × Int)} {xs ys us vs : List Int}
structure Far (lim : Int) (gs fs : List (Int × Int)) : Prop where
  ne : gs ≠ []
  far : ∀ i j : Nat, i < gs.length → j < fs.length → wt gs i + lim < wt fs j
  gr : ∀ j : Nat, j < fs.length → lim < wt fs j
theorem grp_app1 {k : Nat} (h : k < gs.length) : grp (gs ++ fs) k = grp gs k := by simp [grp, List.getElem?_append_left h]
theorem grp_app2 {k : Nat} : grp (gs ++ fs) ((gs.length + k : Nat) : Int) = grp fs k := by
  unfold grp
  rw [Int.toNat_natCast, Int.toNat_natCast, List.getD_eq_getElem?_getD, List.getD_eq_getElem?_getD, List.getElem?_append_right (by omega), Nat.add_sub_cancel_left]
theorem cn_app1 {k : Nat} (h : k < xs.length) : cn (xs ++ ys) k = cn xs k := by simp [cn, List.getElem?_append_left h]
theorem cn_app2 {k : Nat} : cn (xs ++ ys) ((xs.length + k : Nat) : Int) = cn ys k := by
  unfold cn
  rw [Int.toNat_natCast, Int.toNat_natCast, List.getD_eq_getElem?_getD, List.getD_eq_getElem?_getD, List.getElem?_append_right (by omega), Nat.add_sub_cancel_left]
theorem cn_app2' {k n : Nat} (h : xs.length = n) : cn (xs ++ ys) ((n + k : Nat) : Int) = cn ys k := by subst h; exact cn_app2
theorem wt_app1 {k : Int} (h : k < gs.length) : wt (gs ++ fs) k = wt gs k := by
  unfold wt
  by_cases c : k < 0
  · rw [if_pos c, if_pos c]
  · rw [if_neg c, if_neg c]
    obtain ⟨n, rfl⟩ := Int.eq_ofNat_of_zero_le (show 0 ≤ k by omega)
    rw [grp_app1 (by omega)]
theorem wt_app2 {k : Nat} : wt (gs ++ fs) ((gs.length + k : Nat) : Int) = wt fs k := by rw [wt_nat, wt_nat, grp_app2]
theorem stt_app1 : ∀ {k : Nat}, k < gs.length → stt lim (gs ++ fs) k = stt lim gs k
  | 0, _ => rfl
  | k + 1, h => by
    rw [stt, stt, wt_app1 (by omega), wt_app1 (by omega), stt_app1 (by omega)]
theorem Far.stt2 (F : Far lim gs fs) : ∀ {k : Nat}, k < fs.length → stt lim (gs ++ fs) (gs.length + k) = gs.length + stt lim fs k
  | 0, h => by
    have hn : 0 < gs.length := List.length_pos_iff.mpr F.ne
    obtain ⟨n, hn⟩ : ∃ n, gs.length = n + 1 := ⟨gs.length - 1, by omega⟩
    have f := F.far n 0 (by omega) h
    have e1 : wt (gs ++ fs) ((n + 1 : Nat) : Int) = wt fs (0 : Nat) := by
      have := wt_app2 (gs := gs) (fs := fs) (k := 0)
      rwa [Nat.add_zero, hn] at this
    have e2 : wt (gs ++ fs) (n : Nat) = wt gs n := wt_app1 (by omega)
    have e3 : stt lim (gs ++ fs) (n + 1) = n + 1 := by
      rw [stt, e1, e2, if_neg (by omega)]
    rw [Nat.add_zero, hn, e3]
    rfl
  | k + 1, h => by
    have ih := F.stt2 (k := k) (by omega)
    have e1 := wt_app2 (gs := gs) (fs := fs) (k := k + 1)
    have e2 := wt_app2 (gs := gs) (fs := fs) (k := k)
    rw [← Nat.add_assoc] at e1 ⊢
    rw [stt, stt, e1, e2, ih]
    split <;> rfl
theorem Far.consB1 (F : Far lim gs fs) {k : Nat} (h : k < gs.length) : consB lim (gs ++ fs) k = consB lim gs k := by
  have : grd lim (gs ++ fs) = grd lim gs := by unfold grd; rw [wt_app1 (by omega)]
  unfold consB
  rw [stt_app1 h, this]
theorem Far.grd2 (F : Far lim gs fs) (h : fs ≠ []) : grd lim fs = false := by
  unfold grd
  have := F.gr 0 (List.length_pos_iff.mpr h)
  have e : wt fs ((0 : Nat) : Int) = wt fs 0 := rfl
  simp; omega
theorem Far.consB2 (F : Far lim gs fs) {k : Nat} (h : k < fs.length) : consB lim (gs ++ fs) (gs.length + k) = consB lim fs k := by
  have hn : 0 < gs.length := List.length_pos_iff.mpr F.ne
  have g2 := F.grd2 (List.ne_nil_of_length_pos (by omega))
  unfold consB
  rw [F.stt2 h, g2]
  have e1 : decide (gs.length + stt lim fs k = gs.length + k) = decide (stt lim fs k = k) := by simp
  have e2 : decide (0 < gs.length + k) = true := by simp; omega
  rw [e1, e2]
  simp
theorem Far.suf2 (F : Far lim gs fs) (hx : xs.length = gs.length) : ∀ (r k : Nat), k + r = fs.length → 0 < r → suf lim (gs ++ fs) (xs ++ ys) (gs.length + k) = suf lim fs ys k
  | 0, k, _, h => absurd h (by omega)
  | r + 1, k, hk, _ => by
    rw [suf_rec (by rw [List.length_append]; omega), suf_rec (by omega), cn_app2' hx]
    congr 1
    unfold nxt
    rw [List.length_append]
    by_cases c : k + 1 < fs.length
    · have e1 := F.stt2 (k := k + 1) c
      rw [← Nat.add_assoc] at e1
      have ih := F.suf2 hx r (k + 1) (by omega) (by omega)
      rw [← Nat.add_assoc] at ih
      rw [F.stt2 (by omega), e1, ih]
      by_cases d : stt lim fs (k + 1) = stt lim fs k
      · rw [if_pos ⟨by omega, by omega⟩, if_pos ⟨c, d⟩]
      · rw [if_neg (fun h => d (by omega)), if_neg (fun h => d h.2)]
    · rw [if_neg (fun h => c (by omega)), if_neg (fun h => c h.1)]
theorem Far.suf1 (F : Far lim gs fs) (hx : xs.length = gs.length) : ∀ (r k : Nat), k + r = gs.length → 0 < r → suf lim (gs ++ fs) (xs ++ ys) k = suf lim gs xs k
  | 0, k, _, h => absurd h (by omega)
  | r + 1, k, hk, _ => by
    rw [suf_rec (by rw [List.length_append]; omega), suf_rec (by omega), cn_app1 (by omega)]
    congr 1
    unfold nxt
    rw [List.length_append]
    by_cases c : k + 1 < gs.length
    · have ih := F.suf1 hx r (k + 1) (by omega) (by omega)
      rw [stt_app1 c, stt_app1 (by omega), ih]
      by_cases d : stt lim gs (k + 1) = stt lim gs k
      · rw [if_pos ⟨by omega, d⟩, if_pos ⟨c, d⟩]
      · rw [if_neg (fun h => d h.2), if_neg (fun h => d h.2)]
    · rw [if_neg (fun h => ?_), if_neg (fun h => c h.1)]
      have e : k + 1 = gs.length := by omega
      have s := F.stt2 (k := 0) (by omega)
      rw [Nat.add_zero, ← e] at s
      have s2 := stt_le (lim := lim) (gs := gs ++ fs) k
      have s3 : stt lim fs 0 = 0 := rfl
      omega
theorem Far.sufA (F : Far lim gs fs) (hx : xs.length = gs.length) {k : Nat} (h : k < gs.length) : suf lim (gs ++ fs) (xs ++ ys) k = suf lim gs xs k := F.suf1 hx (gs.length - k) k (by omega) (by omega)
theorem Far.sufB (F : Far lim gs fs) (hx : xs.length = gs.length) {k : Nat} (h : k < fs.length) : suf lim (gs ++ fs) (xs ++ ys) (gs.length + k) = suf lim fs ys k := F.suf2 hx (fs.length - k) k (by omega) (by omega)
theorem range_add {n k : Nat} : List.range (n + k) = List.range n ++ (List.range k).map (n + ·) := by
  rw [List.range_add]
theorem map_app {α : Type} {f : Nat → α} {g h : Nat → α} {n k : Nat} (h1 : ∀ i, i < n → f i = g i) (h2 : ∀ i, i < k → f (n + i) = h i) : (List.range (n + k)).map f = (List.range n).map g ++ (List.range k).map h := by
  rw [range_add, List.map_append, List.map_map]
  congr 1
  · exact List.map_congr_left fun i hi => h1 i (List.mem_range.mp hi)
  · exact List.map_congr_left fun i hi => h2 i (List.mem_range.mp hi)
theorem Far.sufL (F : Far lim gs fs) (hx : xs.length = gs.length) : sufL lim (gs ++ fs) (xs ++ ys) = sufL lim gs xs ++ sufL lim fs ys := by
  unfold WC.sufL
  rw [List.length_append]
  exact map_app (fun i hi => F.sufA hx hi) fun i hi => F.sufB hx hi
theorem Far.crL (F : Far lim gs fs) (hx : xs.length = gs.length) (hu : us.length = gs.length) : crL lim (gs ++ fs) (xs ++ ys) (us ++ vs) = crL lim gs xs us ++ crL lim fs ys vs := by
  unfold WC.crL
  rw [List.length_append]
  exact map_app (fun i hi => by rw [F.sufA hx hi, F.sufA hu hi]) fun i hi => by rw [F.sufB hx hi, F.sufB hu hi]
def shM (n : Nat) (p : Int × Int) : Int × Int := (p.1 + n, p.2 + n)
theorem Far.mem_all (F : Far lim gs fs) (W : Wl N m lim gs) {p : Int × Int} : p ∈ allM lim (gs ++ fs) ↔ p ∈ allM lim gs ∨ ∃ q ∈ allM lim fs, p = shM gs.length q := by
  rw [mem_allM, mem_allM, List.length_append]
  obtain ⟨d, u⟩ := p
  simp only
  constructor
  · rintro ⟨h1, h2, h3, h4⟩
    by_cases c : d < gs.length
    · left
      rw [wt_app1 c, wt_app1 (by omega)] at h4
      exact ⟨h1, h2, c, h4⟩
    · right
      obtain ⟨k, hk⟩ := Int.eq_ofNat_of_zero_le (show 0 ≤ d - gs.length by omega)
      have ed : d = ((gs.length + k : Nat) : Int) := by omega
      subst ed
      have hkl : k < fs.length := by omega
      rw [wt_app2] at h4
      by_cases c2 : u < gs.length
      · exfalso
        rw [wt_app1 c2] at h4
        by_cases c3 : u < 0
        · have : wt gs u = 0 := by unfold wt; rw [if_pos c3]
          have := F.gr k hkl
          omega
        · obtain ⟨i, rfl⟩ := Int.eq_ofNat_of_zero_le (show 0 ≤ u by omega)
          have := F.far i k (by omega) hkl
          omega
      · obtain ⟨j, hj⟩ := Int.eq_ofNat_of_zero_le (show 0 ≤ u - gs.length by omega)
        have eu : u = ((gs.length + j : Nat) : Int) := by omega
        subst eu
        rw [wt_app2] at h4
        refine ⟨((k : Nat), (j : Nat)), mem_allM.mpr ⟨by simp only; omega, by simp only; omega, by simp only; omega, h4⟩, ?_⟩
        simp only [shM, Prod.mk.injEq]
        omega
  · rintro (⟨h1, h2, h3, h4⟩ | ⟨q, hq, e⟩)
    · refine ⟨h1, h2, by omega, ?_⟩
      rw [wt_app1 h3, wt_app1 (by omega)]
      exact h4
    · obtain ⟨a, b⟩ := q
      simp only [shM, Prod.mk.injEq] at e
      obtain ⟨e1, e2⟩ := e
      obtain ⟨h1, h2, h3, h4⟩ := mem_allM.mp hq
      simp only at h1 h2 h3 h4
      obtain ⟨k, rfl⟩ := Int.eq_ofNat_of_zero_le (show 0 ≤ a by omega)
      by_cases c : b < 0
      · exfalso
        have : wt fs b = 0 := by unfold wt; rw [if_pos c]
        have := F.gr k (by omega)
        omega
      · obtain ⟨j, rfl⟩ := Int.eq_ofNat_of_zero_le (show 0 ≤ b by omega)
        have e1' : d = ((gs.length + k : Nat) : Int) := by omega
        have e2' : u = ((gs.length + j : Nat) : Int) := by omega
        subst e1' e2'
        rw [wt_app2, wt_app2]
        exact ⟨by omega, by omega, by omega, h4⟩
theorem Far.allM (F : Far lim gs fs) (W : Wl N m lim gs) : allM lim (gs ++ fs) = allM lim gs ++ (allM lim fs).map (shM gs.length) := by
  refine ascM_ext allM_sorted ?_ fun p => ?_
  · rw [List.pairwise_append]
    refine ⟨allM_sorted, ?_, ?_⟩
    · rw [List.pairwise_map]
      exact allM_sorted.imp fun h => by simp only [shM]; omega
    · intro a ha b hb
      obtain ⟨q, hq, rfl⟩ := List.mem_map.mp hb
      have h1 := mem_allM.mp ha
      have h2 := mem_allM.mp hq
      simp only [shM]
      omega
  · rw [F.mem_all W, List.mem_append, List.mem_map]
    constructor
    · rintro (h | ⟨q, h, e⟩)
      · exact .inl h
      · exact .inr ⟨q, h, e.symm⟩
    · rintro (h | ⟨q, h, e⟩)
      · exact .inl h
      · exact .inr ⟨q, h, e.symm⟩
theorem Far.up2 (F : Far lim gs fs) {p : Int × Int} (h : p ∈ WC.allM lim fs) : 0 ≤ p.2 := by
  have h1 := mem_allM.mp h
  by_cases c : p.2 < 0
  · exfalso
    have : wt fs p.2 = 0 := by unfold wt; rw [if_pos c]
    obtain ⟨k, hk⟩ := Int.eq_ofNat_of_zero_le (show 0 ≤ p.1 by omega)
    have := F.gr k (by omega)
    rw [hk] at h1
    omega
  · omega
theorem Far.legM (F : Far lim gs fs) (W : Wl N m lim gs) (hx : xs.length = gs.length) : legM lim (gs ++ fs) (xs ++ ys) = legM lim gs xs ++ (legM lim fs ys).map (shM gs.length) := by
  unfold WC.legM
  rw [F.allM W, List.filter_append, List.filter_map]
  congr 1
  · refine List.filter_congr fun p hp => ?_
    have h1 := mem_allM.mp hp
    obtain ⟨d, u⟩ := p
    simp only at h1
    obtain ⟨k, rfl⟩ := Int.eq_ofNat_of_zero_le (show 0 ≤ d by omega)
    unfold legB
    simp only
    rw [cn_app1 (by omega), grp_app1 (by omega)]
    congr 1
    by_cases c : u < 0
    · simp [c]
    · obtain ⟨j, rfl⟩ := Int.eq_ofNat_of_zero_le (show 0 ≤ u by omega)
      rw [cn_app1 (by omega)]
  · refine congrArg (List.map _) (List.filter_congr fun p hp => ?_)
    have h1 := mem_allM.mp hp
    have h2 := F.up2 hp
    obtain ⟨d, u⟩ := p
    simp only at h1 h2
    obtain ⟨k, rfl⟩ := Int.eq_ofNat_of_zero_le (show 0 ≤ d by omega)
    obtain ⟨j, rfl⟩ := Int.eq_ofNat_of_zero_le (show 0 ≤ u by omega)
    show legB (gs ++ fs) (xs ++ ys) (shM gs.length ((k : Int), (j : Int))) = legB fs ys ((k : Int), (j : Int))
    have e0 : shM gs.length ((k : Int), (j : Int)) = (((gs.length + k : Nat) : Int), ((gs.length + j : Nat) : Int)) := by simp only [shM, Prod.mk.injEq]; omega
    rw [e0]
    unfold legB
    simp only
    rw [cn_app2' hx, cn_app2' hx, grp_app2]
    have e3 : decide (((gs.length + j : Nat) : Int) < 0) = false := by simp; omega
    have e4 : decide ((j : Int) < 0) = false := by simp only [decide_eq_false_iff_not]; omega
    rw [e3, e4]
theorem segP_app1 : ∀ {k : Nat}, k ≤ gs.length → segP lim (gs ++ fs) k = segP lim gs k
  | 0, _ => rfl
  | k + 1, h => by
    rw [segP, segP, stt_app1 (by omega), segP_app1 (by omega)]
def shL (n : Nat) (l : List Int) : List Int := l.map fun k => k + n
theorem Far.segP2 (F : Far lim gs fs) : ∀ {k : Nat}, k ≤ fs.length → segP lim (gs ++ fs) (gs.length + k) = segP lim gs gs.length ++ (segP lim fs k).map (shL gs.length)
  | 0, _ => by rw [Nat.add_zero, segP_app1 (Nat.le_refl _), segP]; simp
  | k + 1, h => by
    have ih := F.segP2 (k := k) (by omega)
    rw [← Nat.add_assoc, segP, F.stt2 (by omega), ih, segP]
    by_cases c : stt lim fs k = k
    · rw [if_pos (by omega), if_pos c, List.map_append, ← List.append_assoc]
      congr 1
      simp [shL]
      omega
    · rw [if_neg (by omega), if_neg c]
      have hk : 0 < k := by
        cases k with
        | zero => exact absurd rfl c
        | succ k => omega
      have hne := (segP_ok (lim := lim) (gs := fs) k).1 hk
      have hp := List.length_pos_iff.mpr hne
      have e1 : (segP lim gs gs.length ++ (segP lim fs k).map (shL gs.length)).length - 1 = (segP lim gs gs.length).length + ((segP lim fs k).length - 1) := by
        rw [List.length_append, List.length_map]; omega
      rw [e1, List.set_append_right _ _ (by omega), Nat.add_sub_cancel_left]
      congr 1
      rw [List.map_set]
      congr 1
      rw [List.getD_eq_getElem?_getD, List.getElem?_append_right (by omega), Nat.add_sub_cancel_left, List.getElem?_map, List.getD_eq_getElem?_getD]
      have hlt : (segP lim fs k).length - 1 < (segP lim fs k).length := by omega
      rw [List.getElem?_eq_getElem hlt]
      simp [shL]
      omega
theorem Far.segL (F : Far lim gs fs) : segL lim (gs ++ fs) = segL lim gs ++ (segL lim fs).map (shL gs.length) := by
  unfold WC.segL
  rw [List.length_append]
  exact F.segP2 (Nat.le_refl _)
theorem full_app : fullL (gs ++ fs) = fullL gs ++ fullL fs := by simp [fullL]
theorem Far.trC1 (F : Far lim gs fs) (hx : xs.length = gs.length) {k : Nat} (h : k < gs.length) : trC lim (gs ++ fs) (xs ++ ys) k = trC lim gs xs k := by
  have hs := stt_le (lim := lim) (gs := gs) k
  unfold trC totS
  rw [stt_app1 h, full_app, F.sufA (by simp) h, F.sufA (by simp) (by omega), F.sufA hx (by omega)]
  have : grd lim (gs ++ fs) = grd lim gs := by unfold grd; rw [wt_app1 (by have := List.length_pos_iff.mpr F.ne; omega)]
  rw [this]
theorem Far.trC2 (F : Far lim gs fs) (hx : xs.length = gs.length) {k : Nat} (h : k < fs.length) : trC lim (gs ++ fs) (xs ++ ys) (gs.length + k) = trC lim fs ys k := by
  have hs := stt_le (lim := lim) (gs := fs) k
  have g2 := F.grd2 (List.ne_nil_of_length_pos (by omega))
  have hn : 0 < gs.length := List.length_pos_iff.mpr F.ne
  unfold trC totS
  rw [F.stt2 h, full_app, F.sufB (by simp) h, F.sufB (by simp) (by omega), F.sufB hx (by omega), g2, if_neg (by omega), if_neg (by simp)]
theorem Far.trL (F : Far lim gs fs) (hx : xs.length = gs.length) : trL lim (gs ++ fs) (xs ++ ys) = trL lim gs xs ++ trL lim fs ys := by
  refine cn_ext (by simp) fun k hk => ?_
  rw [trL_len, List.length_append] at hk
  rw [cn_trL (by rw [List.length_append]; exact hk), List.length_append]
  by_cases c : k < gs.length
  · rw [cn_app1 (by simpa using c), cn_trL c, F.trC1 hx c]
    by_cases c1 : k + 1 < gs.length
    · rw [F.trC1 hx c1, stt_app1 c1, stt_app1 c]
      congr 1
      by_cases d : stt lim gs (k + 1) = stt lim gs k
      · rw [if_pos ⟨by omega, d⟩, if_pos ⟨c1, d⟩]
      · rw [if_neg (fun h => d h.2), if_neg (fun h => d h.2)]
    · have e : k + 1 = gs.length := by omega
      congr 1
      rw [if_neg (fun h => ?_), if_neg (fun h => c1 h.1)]
      have s := F.stt2 (k := 0) (by omega)
      rw [Nat.add_zero, ← e] at s
      have s2 := stt_le (lim := lim) (gs := gs ++ fs) k
      have s3 : stt lim fs 0 = 0 := rfl
      omega
  · obtain ⟨j, rfl⟩ : ∃ j, k = gs.length + j := ⟨k - gs.length, by omega⟩
    rw [cn_app2' (by simp), cn_trL (by omega), F.trC2 hx (by omega)]
    congr 1
    by_cases c1 : j + 1 < fs.length
    · have e1 := F.stt2 (k := j + 1) c1
      have e2 := F.trC2 (ys := ys) hx (k := j + 1) c1
      rw [← Nat.add_assoc] at e1 e2
      rw [e1, e2, F.stt2 (by omega)]
      by_cases d : stt lim fs (j + 1) = stt lim fs j
      · rw [if_pos ⟨by omega, by omega⟩, if_pos ⟨c1, d⟩]
      · rw [if_neg (fun h => d (by omega)), if_neg (fun h => d h.2)]
    · rw [if_neg (fun h => c1 (by omega)), if_neg (fun h => c1 h.1)]
theorem Far.cmp (F : Far lim gs fs) (hx : xs.length = gs.length) (hu : us.length = gs.length) : Cmp lim (gs ++ fs) (xs ++ ys) (us ++ vs) ↔ Cmp lim gs xs us ∧ Cmp lim fs ys vs := by
  unfold Cmp
  constructor
  · intro h
    refine ⟨fun k hk hc => ?_, fun k hk hc => ?_⟩
    · have := h k (by rw [List.length_append]; omega) (by rw [F.consB1 hk]; exact hc)
      rwa [F.sufA hx hk, F.sufA hu hk] at this
    · have := h (gs.length + k) (by rw [List.length_append]; omega) (by rw [F.consB2 hk]; exact hc)
      rwa [F.sufB hx hk, F.sufB hu hk] at this
  · rintro ⟨h1, h2⟩ k hk hc
    rw [List.length_append] at hk
    by_cases c : k < gs.length
    · rw [F.consB1 c] at hc
      rw [F.sufA hx c, F.sufA hu c]
      exact h1 k c hc
    · obtain ⟨j, rfl⟩ : ∃ j, k = gs.length + j := ⟨k - gs.length, by omega⟩
      rw [F.consB2 (by omega)] at hc
      rw [F.sufB hx (by omega), F.sufB hu (by omega)]
      exact h2 j (by omega) hc
theorem Far.jn (F : Far lim gs fs) {j : Bool} (hx : xs.length = gs.length) (hu : us.length = gs.length) : jn lim (gs ++ fs) j (xs ++ ys) (us ++ vs) = jn lim gs j xs us ++ jn lim fs j ys vs := by
  refine suf_inj (lim := lim) (gs := gs ++ fs) jn_len (by simp) fun k hk => ?_
  rw [suf_jn hk]
  rw [List.length_append] at hk
  by_cases c : k < gs.length
  · rw [F.sufA hx c, F.sufA hu c, F.sufA jn_len c, suf_jn c]
  · obtain ⟨i, rfl⟩ : ∃ i, k = gs.length + i := ⟨k - gs.length, by omega⟩
    rw [F.sufB hx (by omega), F.sufB hu (by omega), F.sufB jn_len (by omega), suf_jn (by omega)]
def andO : Option (List Int) → Option (List Int) → Option (List Int)
  | some a, some b => some (a ++ b)
  | _, _ => none
theorem compB_cmp : compB lim gs xs ys = true ↔ Cmp lim gs xs ys := compB_iff
theorem Far.cmbO (F : Far lim gs fs) {j : Bool} (hx : xs.length = gs.length) (hu : us.length = gs.length) : cmbO lim (gs ++ fs) j (xs ++ ys) (us ++ vs) = andO (cmbO lim gs j xs us) (cmbO lim fs j ys vs) := by
  by_cases c : Cmp lim gs xs us ∧ Cmp lim fs ys vs
  · rw [cmbO_some (comp_true ((F.cmp hx hu).mpr c)), cmbO_some (comp_true c.1), cmbO_some (comp_true c.2), F.jn hx hu]
    rfl
  · have h1 : compB lim (gs ++ fs) (xs ++ ys) (us ++ vs) = false := by
      cases e : compB lim (gs ++ fs) (xs ++ ys) (us ++ vs) with
      | false => rfl
      | true => exact absurd ((F.cmp hx hu).mp (compB_cmp.mp e)) c
    rw [cmbO_none h1]
    by_cases c1 : Cmp lim gs xs us
    · have h2 : compB lim fs ys vs = false := by
        cases e : compB lim fs ys vs with
        | false => rfl
        | true => exact absurd ⟨c1, compB_cmp.mp e⟩ c
      rw [cmbO_none h2]
      cases WC.cmbO lim gs j xs us <;> rfl
    · have h2 : compB lim gs xs us = false := by
        cases e : compB lim gs xs us with
        | false => rfl
        | true => exact absurd (compB_cmp.mp e) c1
      rw [cmbO_none h2]
      rfl
theorem fmap_congr {α β : Type} {f g : α → Option β} : ∀ {l : List α}, (∀ x ∈ l, f x = g x) → l.filterMap f = l.filterMap g
  | [], _ => rfl
  | x :: l, h => by
    have ih := fmap_congr (l := l) fun y hy => h y (List.mem_cons_of_mem _ hy)
    rw [List.filterMap_cons, List.filterMap_cons, h x List.mem_cons_self, ih]
def shO (n : Nat) (p : Bool × Int) : Bool × Int := (p.1, p.2 + n)
theorem Far.obsL (F : Far lim gs fs) (hx : xs.length = gs.length) (hu : us.length = gs.length) : obsL lim (gs ++ fs) (xs ++ ys) (us ++ vs) = obsL lim gs xs us ++ (obsL lim fs ys vs).map (shO gs.length) := by
  unfold WC.obsL obsP
  rw [List.length_append, range_add, List.filterMap_append, List.filterMap_map, List.map_filterMap]
  congr 1
  · refine fmap_congr fun k hk => ?_
    have c := List.mem_range.mp hk
    unfold obAt
    rw [F.sufA hx c, F.sufA hu c, F.consB1 c]
  · refine fmap_congr fun k hk => ?_
    have c := List.mem_range.mp hk
    simp only [Function.comp]
    unfold obAt
    rw [F.sufB hx c, F.sufB hu c, F.consB2 c]
    split
    · simp [shO]; omega
    · split
      · simp [shO]; omega
      · rfl
end
end WC
namespace WC
open WF PySem
open L2 (atI ixN)
section
variable {N : Nat} {m lim : Int} {gs : List (Int × Int)} {xs ys : List Int} {l : List Tr}
def dnT (l : List Tr) (g : Int) : Int := sm (fun x => decide (x.1 = g)) l
def dec1 (l : List Tr) (x : Tr) : List Tr := match l with
  | [] => []
  | y :: r => if y = x then (y.1, y.2.1, y.2.2 - 1) :: r else y :: dec1 r x
theorem sm_dec {p : Tr → Bool} {x : Tr} (hp : ∀ a b c c', p (a, b, c) = p (a, b, c')) : ∀ {l : List Tr}, x ∈ l → sm p (dec1 l x) = sm p l - (if p x = true then 1 else 0)
  | [], h => by cases h
  | y :: r, h => by
    rw [dec1]
    by_cases c : y = x
    · subst c
      rw [if_pos rfl, sm_cons, sm_cons]
      have : p (y.1, y.2.1, y.2.2 - 1) = p y := hp _ _ _ _
      rw [this]
      simp only
      split <;> omega
    · rw [if_neg c, sm_cons, sm_cons, sm_dec hp ((List.mem_cons.mp h).resolve_left (fun e => c e.symm))]
      omega
theorem dec_mem {x z : Tr} : ∀ {l : List Tr}, z ∈ dec1 l x → z ∈ l ∨ z = (x.1, x.2.1, x.2.2 - 1)
  | [], h => by cases h
  | y :: r, h => by
    rw [dec1] at h
    by_cases c : y = x
    · rw [if_pos c] at h
      rcases List.mem_cons.mp h with e | h
      · right; rw [e, c]
      · exact .inl (List.mem_cons_of_mem _ h)
    · rw [if_neg c] at h
      rcases List.mem_cons.mp h with e | h
      · exact .inl (by rw [e]; exact List.mem_cons_self)
      · rcases dec_mem h with h | h
        · exact .inl (List.mem_cons_of_mem _ h)
        · exact .inr h
theorem Cov.pos (L : Cov lim gs cs l) : Cov lim gs cs (l.filter fun x => decide (0 < x.2.2)) ∧ tot3 (l.filter fun x => decide (0 < x.2.2)) = tot3 l := by
  have key : ∀ p : Tr → Bool, sm p (l.filter fun x => decide (0 < x.2.2)) = sm p l := fun p => by
    have nn := L.nn
    clear L
    induction l with
    | nil => rfl
    | cons x l ih =>
      have ih := ih fun y hy => nn y (List.mem_cons_of_mem _ hy)
      have hx := nn x List.mem_cons_self
      rw [List.filter_cons, sm_cons]
      by_cases c : 0 < x.2.2
      · rw [if_pos (by simpa using c), sm_cons, ih]
      · rw [if_neg (by simpa using c), ih]
        have : x.2.2 = 0 := by omega
        split <;> omega
  refine ⟨⟨fun x hx => L.mv x (List.mem_filter.mp hx).1, fun x hx => L.nn x (List.mem_filter.mp hx).1, fun g hg => ?_⟩, ?_⟩
  · unfold crsT
    rw [key]
    exact L.cr g hg
  · rw [tot3_sm, tot3_sm, key]
theorem Cov.step (W : Wl N m lim gs) (hx : StOk gs xs) (L : Cov lim gs (crL lim gs xs ys) l) {x : Tr} (hm : x ∈ l) (hc : 0 < x.2.2) (hl : (x.1, x.2.1) ∈ legM lim gs xs) : Cov lim gs (crL lim gs (apm xs x.1 x.2.1 1) ys) (dec1 l x) ∧ tot3 (dec1 l x) = tot3 l - 1 := by
  refine ⟨⟨fun z hz => ?_, fun z hz => ?_, fun g hg => ?_⟩, ?_⟩
  · rcases dec_mem hz with h | h
    · exact L.mv z h
    · rw [h]; exact L.mv x hm
  · rcases dec_mem hz with h | h
    · exact L.nn z h
    · rw [h]; simp only; omega
  · unfold crsT
    rw [sm_dec (fun _ _ _ _ => rfl) hm]
    have := L.cr g hg
    unfold crsT at this
    rw [this, cn_crL hg, cn_crL hg, (W.suf_move hx.len (t := 1) (L.mv x hm) hg).1]
    have e : (decide (x.2.1 < (g : Int)) && decide ((g : Int) ≤ x.1)) = true ↔ x.2.1 < (g : Int) ∧ (g : Int) ≤ x.1 := by simp
    by_cases c : x.2.1 < (g : Int) ∧ (g : Int) ≤ x.1
    · rw [if_pos (e.mpr c), if_pos (by omega)]; omega
    · rw [if_neg (fun z => c (e.mp z)), if_neg (by omega)]; omega
  · rw [tot3_sm, tot3_sm, sm_dec (fun _ _ _ _ => rfl) hm]
    simp
end
end WC
namespace WC
open WF PySem
open L2 (atI ixN)
section
variable {N : Nat} {m lim : Int} {gs : List (Int × Int)} {xs ys : List Int} {l : List Tr}
theorem Jmp.cov (W : Wl N m lim gs) : ∀ {js : List Tr} {xs ys : List Int}, xs.length = gs.length → Jmp lim gs xs js ys → Cov lim gs (crL lim gs xs ys) js
  | [], xs, ys, _, h => by
    cases h
    exact ⟨fun x hx => (by cases hx), fun x hx => (by cases hx), fun g hg => (by rw [cn_crL hg]; show (0 : Int) = _; omega)⟩
  | (d, u, t) :: r, xs, ys, hl, ⟨h1, h2⟩ => by
    have ih := Jmp.cov W (xs := apm xs d u t) (by rw [apm_len]; exact hl) h2
    have hm : (d, u) ∈ allM lim gs := (List.mem_filter.mp h1.1).1
    refine ⟨fun x hx => ?_, fun x hx => ?_, fun g hg => ?_⟩
    · rcases List.mem_cons.mp hx with rfl | hx
      · exact hm
      · exact ih.mv x hx
    · rcases List.mem_cons.mp hx with rfl | hx
      · have := h1.2.1; simp only; omega
      · exact ih.nn x hx
    · have e := ih.cr g hg
      unfold crsT at e ⊢
      rw [sm_cons, e, cn_crL hg, cn_crL hg, (W.suf_move hl (t := t) hm hg).1]
      by_cases c : u < (g : Int) ∧ (g : Int) ≤ d
      · rw [if_pos (by simp [c]), if_pos (by omega)]
        simp only
        omega
      · rw [if_neg (by simpa using c), if_neg (by omega)]
        omega
theorem Pth.jmp1 : ∀ {n : Nat} {ys : List Int}, Pth lim gs n xs ys → ∃ js, Jmp lim gs xs js ys ∧ tot3 js = n
  | 0, _, h => ⟨[], h, rfl⟩
  | n + 1, _, ⟨z, p, h, hp, e⟩ => by
    obtain ⟨js, J, e2⟩ := Pth.jmp1 h
    have hl := mem_legM.mp hp
    subst e
    refine ⟨js ++ [(p.1, p.2, 1)], Jmp.snoc ⟨hp, by omega, by omega, fun _ => by omega⟩ J, ?_⟩
    rw [tot3_app, e2]
    show (n : Int) + (1 + 0) = _
    omega
theorem Pth.cov (W : Wl N m lim gs) (hx : StOk gs xs) {n : Nat} (h : Pth lim gs n xs ys) : ∃ l, Cov lim gs (crL lim gs xs ys) l ∧ tot3 l = n := by
  obtain ⟨js, J, e⟩ := h.jmp1
  exact ⟨js, J.cov W hx.len, e⟩
end
end WC
namespace WC
open WF PySem
open L2 (atI ixN)
def posT (l : List Tr) : List Tr := l.filter fun x => decide (0 < x.2.2)
section
variable {d u n e : Int}
end
def mvs (l : List Tr) : List (Int × Int) := l.map fun x => (x.1, x.2.1)
def capT (l : List Tr) : Int := (l.map fun t => (t.1 - t.2.1 - 1) * t.2.2).sum
structure LenOk (P : Int → Int → Prop) (l : List Tr) (e : Int) (acc out : List Tr) : Prop where
  cr : ∀ g, crsT out g = crsT acc g + crsT l g
  tt : tot3 out = tot3 acc + tot3 l + min e (capT l)
  nd : (mvs acc).Nodup → (mvs out).Nodup
  mem : (∀ x ∈ acc, 0 < x.2.2 ∧ P x.1 x.2.1) → ∀ x ∈ out, 0 < x.2.2 ∧ P x.1 x.2.1
end WC
namespace WC
open WF PySem
open L2 (atI ixN)
section
variable {t t' t2 o : Bool} {lim : Int} {gs : List (Int × Int)} {xs ys cs : List Int} {d u n e : Int} {Q : D → List D → Prop}
def kTr (x : Tr) : List L2.Key := [.inl x.1, .inl x.2.1]
def mdD (l : List Tr) : D := .dtk true (l.map kTr) (l.map fun x => .int x.2.2)
@[simp] theorem isUn_mdD {l : List Tr} : isUn (mdD l) = false := rfl
@[simp] theorem asDic_mdD {l : List Tr} : asDic (mdD l) = some (mdD l) := rfl
end
end WC
namespace WC
open WF PySem
open L2 (atI ixN)
section
variable {t t' t2 o : Bool} {lim : Int} {gs : List (Int × Int)} {xs ys cs : List Int} {d u n e : Int} {Q : D → List D → Prop}
end
end WC
namespace WC
open WF PySem
open L2 (atI ixN)
section
variable {t t' t2 o : Bool} {N : Nat} {m lim : Int} {gs : List (Int × Int)} {xs ys cs : List Int} {d u n e : Int} {Q : D → List D → Prop}
theorem Cov.perm {l l' : List Tr} (L : Cov lim gs cs l) (p : l'.Perm l) : Cov lim gs cs l' :=
  ⟨fun x h => L.mv x (p.mem_iff.mp h), fun x h => L.nn x (p.mem_iff.mp h), fun g hg => by unfold crsT; rw [sm_perm p]; exact L.cr g hg⟩
theorem LenOk.cov {l out : List Tr} (L : Cov lim gs cs l) (K : LenOk (fun a b => (a, b) ∈ allM lim gs) l e [] out) : Cov lim gs cs out :=
  ⟨fun x h => (K.mem (fun _ h => nomatch h) x h).2, fun x h => Int.le_of_lt (K.mem (fun _ h => nomatch h) x h).1, fun g hg => by rw [K.cr, L.cr g hg]; simp [crsT]⟩
end
end WC
namespace WC
open WF PySem
open L2 (atI ixN)
section
variable {t t' t2 o : Bool} {N : Nat} {m lim : Int} {gs : List (Int × Int)} {xs ys cs : List Int} {d u n e : Int} {Q : D → List D → Prop} {l : List Tr}
def ltB (x y : Tr) : Bool := if x.1 = y.1 then decide (x.2.1 < y.2.1) else decide (x.1 < y.1)
def ascB : List Tr → Bool
  | x :: y :: r => ltB x y && ascB (y :: r)
  | _ => true
end
end WC
namespace WC
open WF PySem
open L2 (atI ixN)
section
variable {t t' t2 o : Bool} {N : Nat} {m lim : Int} {gs : List (Int × Int)} {xs ys cs : List Int} {d u n e : Int} {Q : D → List D → Prop} {l : List Tr}
def nb0 (cs : List Int) (g v : Int) (n : Nat) : List Tr := (List.range n).map fun (k : Nat) => ((k : Int), (k : Int) - 1, if (k : Int) = g ∨ (k : Int) = g + 1 then cn cs k - v else cn cs k)
def stepsL (cs : List Int) (g v : Int) : List Tr := sort3 (posT (nb0 cs g v cs.length ++ [(g + 1, g - 1, v)]))
structure StepOk (lim : Int) (gs : List (Int × Int)) (cs : List Int) (g : Nat) (v : Int) : Prop where
  cov : Cov lim gs cs (stepsL cs g v)
  pos : ∀ x ∈ stepsL cs g v, 0 < x.2.2
  asc : ascB (stepsL cs g v) = true
  dn : dnT (stepsL cs g v) g = cn cs g - v
end
end WC
namespace WC
open WF PySem
open L2 (atI ixN Key)
section
variable {N n : Nat} {m lim : Int} {gs : List (Int × Int)} {xs ys zs cs : List Int} {l : List Tr}
end
end WC
namespace WC
open WF PySem
open L2 (atI ixN Key)
section
variable {N n : Nat} {m lim : Int} {gs : List (Int × Int)} {xs ys zs cs t p : List Int} {l : List Tr} {h : Int × Int} {k : Nat}
end
section
variable {β : Type} {enc : β → D} {L : List (List Int × β)} {y z : List Int} {v : β}
def gdD (enc : β → D) (L : List (List Int × β)) : D := .dtk true (L.map fun p => kS p.1) (L.map fun p => enc p.2)
def fng (L : List (List Int × β)) (y : List Int) : Option β := (L.find? fun p => decide (p.1 = y)).map Prod.snd
def setG (L : List (List Int × β)) (y : List Int) (v : β) : List (List Int × β) := if y ∈ L.map Prod.fst then L.map (fun p => if p.1 = y then (y, v) else p) else L ++ [(y, v)]
@[simp] theorem isUn_gdD : isUn (gdD enc L) = false := rfl
@[simp] theorem asDic_gdD : asDic (gdD enc L) = some (gdD enc L) := rfl
theorem purs_g (hp : ∀ v, (enc v).pur = true) : D.purs (L.map fun p => enc p.2) = true := purs_of fun d hd => by
  obtain ⟨q, _, rfl⟩ := List.mem_map.mp hd
  exact hp _
theorem lk_g : lk (L.map fun p => kS p.1) (L.map fun p => enc p.2) (kS y) = (fng L y).map enc := by
  induction L with
  | nil => rfl
  | cons p L ih =>
    rw [List.map_cons, List.map_cons, lk, ih]
    unfold fng
    rw [List.find?_cons]
    by_cases e : p.1 = y
    · rw [if_pos (by rw [e])]; simp [e]
    · rw [if_neg (fun z => e (kS_inj z))]; simp [e]
theorem gd_get (hp : ∀ v, (enc v).pur = true) : dGetD (gdD enc L) (sq true (y.map D.int)) = some ((fng L y).map enc) := by
  rw [gdD, dGetD_dtk, if_pos (.inr (purs_g hp)), keyT_st, Option.map_some, lk_g]
theorem kS_mem : kS y ∈ (L.map fun p => kS p.1) ↔ y ∈ L.map Prod.fst := by
  constructor
  · intro h
    obtain ⟨p, hp, e⟩ := List.mem_map.mp h
    exact List.mem_map.mpr ⟨p, hp, kS_inj e⟩
  · intro h
    obtain ⟨p, hp, rfl⟩ := List.mem_map.mp h
    exact List.mem_map.mpr ⟨p, hp, rfl⟩
theorem fng_set : fng (setG L y v) z = if z = y then some v else fng L z := by
  unfold setG
  by_cases h : y ∈ L.map Prod.fst
  · rw [if_pos h]
    induction L with
    | nil => cases h
    | cons p L ih =>
      unfold fng at ih ⊢
      rw [List.map_cons, List.find?_cons, List.find?_cons]
      by_cases e : p.1 = y
      · rw [if_pos e]
        by_cases c : z = y
        · subst c; simp
        · have c1 : ¬ y = z := fun q => c q.symm
          have c2 : ¬ p.1 = z := by rw [e]; exact c1
          simp only [c1, c2, decide_false]
          by_cases h2 : y ∈ L.map Prod.fst
          · exact ih h2
          · rw [if_neg c]
            congr 1
            have : L.map (fun p => if p.1 = y then (y, v) else p) = L := by
              conv => rhs; rw [← List.map_id L]
              exact List.map_congr_left fun q hq => by
                have : ¬ q.1 = y := fun e2 => h2 (List.mem_map.mpr ⟨q, hq, e2⟩)
                simp [this]
            rw [this]
      · rw [if_neg e]
        have h2 : y ∈ L.map Prod.fst := by
          rcases List.mem_cons.mp h with q | q
          · exact absurd q.symm e
          · exact q
        by_cases c : p.1 = z
        · have c1 : ¬ z = y := fun q => e (by rw [c, q])
          simp [c, c1]
        · simp only [c, decide_false]
          exact ih h2
  · rw [if_neg h]
    unfold fng
    rw [List.find?_append]
    by_cases c : z = y
    · subst c
      have : L.find? (fun p => decide (p.1 = z)) = none := List.find?_eq_none.mpr fun q hq e => h (List.mem_map.mpr ⟨q, hq, by simpa using e⟩)
      rw [this]
      simp
    · have c1 : ¬ y = z := fun q => c q.symm
      simp [c, c1]
theorem set_keys : (setG L y v).map Prod.fst = if y ∈ L.map Prod.fst then L.map Prod.fst else L.map Prod.fst ++ [y] := by
  unfold setG
  by_cases h : y ∈ L.map Prod.fst
  · rw [if_pos h, if_pos h, List.map_map]
    exact List.map_congr_left fun p _ => by
      by_cases e : p.1 = y <;> simp [e]
  · rw [if_neg h, if_neg h]; simp
theorem set_nd (hn : (L.map Prod.fst).Nodup) : ((setG L y v).map Prod.fst).Nodup := by
  rw [set_keys]
  split
  · exact hn
  · rename_i h
    rw [List.nodup_append]
    exact ⟨hn, by simp, fun a ha b hb e => h (by rw [← List.mem_singleton.mp hb, ← e]; exact ha)⟩
theorem fng_key : y ∈ L.map Prod.fst ↔ ∃ v, fng L y = some v := by
  unfold fng
  constructor
  · intro h
    cases e : L.find? fun p => decide (p.1 = y) with
    | none =>
      obtain ⟨p, hp, rfl⟩ := List.mem_map.mp h
      have := List.find?_eq_none.mp e p hp
      simp at this
    | some q => exact ⟨q.2, rfl⟩
  · rintro ⟨v, h⟩
    rw [Option.map_eq_some_iff] at h
    obtain ⟨q, hq, _⟩ := h
    have := List.find?_some hq
    exact List.mem_map.mpr ⟨q, List.mem_of_find?_eq_some hq, by simpa using this⟩
end
section
variable {β : Type} {N : Nat} {m lim : Int} {gs : List (Int × Int)} {xs z t : List Int} {h : Int × Int} {R : List Int → β → Prop} {C : List Int → Int × Int → β → Prop} {L : List (List Int × β)} {pre : List (List Int)} {hs : List (Int × Int)} {v w : β}
structure Swe (lim : Int) (gs : List (Int × Int)) (xs : List Int) (R : List Int → β → Prop) (C : List Int → Int × Int → β → Prop) (L : List (List Int × β)) (pre : List (List Int)) (z : List Int) (hs : List (Int × Int)) : Prop where
  nd : (L.map Prod.fst).Nodup
  rch : ∀ t v, fng L t = some v → StOk gs t ∧ obsL lim gs xs t = [] ∧ R t v
  x0 : ∃ v, fng L xs = some v
  dn : ∀ p ∈ pre, ∀ h ∈ legM lim gs p, ∃ v, fng L (apm p h.1 h.2 1) = some v ∧ C p h v
  dh : ∀ h ∈ hs, ∃ v, fng L (apm z h.1 h.2 1) = some v ∧ C z h v
theorem Swe.len (S : Swe lim gs xs R C L pre z hs) (W : Wl N m lim gs) : L.length ≤ (m.toNat + 1) ^ gs.length := by
  have := states_len (l := L.map Prod.fst) W S.nd fun y hy => by
    obtain ⟨v, hv⟩ := fng_key.mp hy
    exact (S.rch y v hv).1
  rwa [List.length_map] at this
theorem Swe.put (S : Swe lim gs xs R C L pre z hs) (ht : StOk gs t) (ho : obsL lim gs xs t = []) (e : apm z h.1 h.2 1 = t) (r : R t w) (c : C z h w)
    (mono : ∀ v, fng L t = some v → ∀ p h, C p h v → C p h w) : Swe lim gs xs R C (setG L t w) pre z (hs ++ [h]) := by
  have keep : ∀ {a : List Int} {p : List Int} {h : Int × Int}, (∃ v, fng L a = some v ∧ C p h v) → ∃ v, fng (setG L t w) a = some v ∧ C p h v := by
    rintro a p h ⟨v, hv, cv⟩
    rw [fng_set]
    by_cases q : a = t
    · subst q
      exact ⟨w, by rw [if_pos rfl], mono v hv p h cv⟩
    · exact ⟨v, by rw [if_neg q]; exact hv, cv⟩
  refine ⟨set_nd S.nd, fun a v hv => ?_, ?_, fun p hp h hh => keep (S.dn p hp h hh), fun h' hh => ?_⟩
  · rw [fng_set] at hv
    by_cases q : a = t
    · rw [if_pos q] at hv
      cases hv
      subst q
      exact ⟨ht, ho, r⟩
    · rw [if_neg q] at hv
      exact S.rch a v hv
  · obtain ⟨v, hv⟩ := S.x0
    by_cases q : xs = t
    · exact ⟨w, by rw [fng_set, if_pos q]⟩
    · exact ⟨v, by rw [fng_set, if_neg q]; exact hv⟩
  · rcases List.mem_append.mp hh with hh | hh
    · exact keep (S.dh h' hh)
    · rw [List.mem_singleton.mp hh]
      exact ⟨w, by rw [fng_set, if_pos e], c⟩
theorem Swe.next (S : Swe lim gs xs R C L pre z (legM lim gs z)) : Swe lim gs xs R C L (pre ++ [z]) [] [] :=
  ⟨S.nd, S.rch, S.x0, fun p hp h hh => by
    rcases List.mem_append.mp hp with hp | hp
    · exact S.dn p hp h hh
    · rw [List.mem_singleton.mp hp] at hh ⊢
      exact S.dh h hh, fun _ h => nomatch h⟩
theorem Swe.start (S : Swe lim gs xs R C L pre t []) : Swe lim gs xs R C L pre z [] := ⟨S.nd, S.rch, S.x0, S.dn, fun _ h => nomatch h⟩
end
end WC
namespace Wk11
open WC
open WF PySem
open L2 (atI ixN)
theorem dst_key {N : Nat} {m lim : Int} {gs : List (Int × Int)} {xs : List Int} {L : List (List Int × Int)} (W : Wl N m lim gs) (hx : StOk gs xs) (dL : Dst lim gs xs L) {y : List Int} : y ∈ L.map Prod.fst ↔ StOk gs y ∧ reachB lim gs xs y = true := by
  constructor
  · intro h
    obtain ⟨p, hp, rfl⟩ := List.mem_map.mp h
    obtain ⟨j, _, hj⟩ := dL.ok p hp
    refine ⟨hj.ok hx, ?_⟩
    unfold reachB
    rw [hj.reach W hx]
    rfl
  · rintro ⟨hy, h⟩
    have ho : obsL lim gs xs y = [] := by
      unfold reachB at h
      simpa using h
    obtain ⟨j, hj⟩ := (way_iff W hx hy).mpr ho
    obtain ⟨p, hp, e, _⟩ := dL.le j y hj
    exact List.mem_map.mpr ⟨p, hp, e⟩
theorem right_sp {Q : D → List D → Prop} {k : Nat} {a b c : Int} (r : Rg k a b c) (hk : k ≤ 1000) (q : ∀ a' c', Q (.bl true) [rngE a' b c']) : wF m__law_right_v13 [rngE a b c] Q := by
  rw [m__law_right_v13, wF_def]
  simp [b__law_right_v13]
  refine loop_rng (fun i S => ∃ a c x1 x2 x3 x4 x5 x6 x7 x8 x9 x10 x11, S = [rngE a b c, x1, x2, x3, x4, x5, x6, x7, x8, x9, x10, x11, .un] ∧ Rg (k + 100000 * i) a b c) ?_ ⟨_, _, _, _, _, _, _, _, _, _, _, _, _, rfl, by simpa using r⟩ ?_
  · rintro i hi S ⟨a, c, x1, x2, x3, x4, x5, x6, x7, x8, x9, x10, x11, rfl, r⟩
    have hi : i < 3 := by simpa using hi
    simp
    refine rwell_sp (n := 4) r (by omega) (by omega) (by omega) (by omega) (by omega) fun lim gs a c W r => ?_
    have hl : gs.length ≤ 4 := W.len
    have hl' : gs.length ≤ 100 := by omega
    have hp : ((2 : Int).toNat + 1) ^ gs.length ≤ 100000 := Nat.le_trans (Nat.pow_le_pow_right (by decide) hl) (by decide)
    simp
    refine rstate_sp r W (by omega) (by omega) (by omega) fun xs a c hx r => ?_
    have lx := hx.len
    simp
    refine rstate_sp r W (by omega) (by omega) (by omega) fun ys a c hy r => ?_
    simp
    refine jumps_sp (n := 2) r (by omega) W (by omega) (by omega) hx (by omega) fun zs js a c J hz hj r => ?_
    simp
    rw [show [sq true (ys.map D.int), sq true (zs.map D.int), sq true (xs.map D.int)] = [ys, zs, xs].map (stS true) from rfl]
    refine loop_pre (stS true) (fun pre S => ∃ x4 x5 x6 x7 x8 x9 x10 x11, S = [rngE a b c, .int i, wlD true lim gs, stS true xs, x4, x5, x6, x7, x8, x9, x10, x11, .un]) [ys, zs, xs] ?_ ⟨_, _, _, _, _, _, _, _, rfl⟩ ?_
    · rintro pre us post hus S ⟨x4, x5, x6, x7, x8, x9, x10, x11, rfl⟩
      have hu : StOk gs us := by
        have : us ∈ [ys, zs, xs] := by rw [hus]; simp
        simp only [List.mem_cons, List.not_mem_nil, or_false] at this
        rcases this with rfl | rfl | rfl
        · exact hy
        · exact hz
        · exact hx
      have lu := hu.len
      simp
      refine distances_sp W (by omega) hp hx fun L dL => ?_
      simp
      refine distances_sp W (by omega) hp hu fun M dM => ?_
      simp
      have k1 : asDT (dsD L) = some (L.map fun p => kS p.1, L.map fun p => .int p.2) := rfl
      have k2 : ksI (L.map fun p => kS p.1) = some (L.map Prod.fst) := by
        have := ksI_of (l := L.map Prod.fst)
        rw [List.map_map] at this
        exact this
      have k3 : intsD (L.map fun p => D.int p.2) = some (L.map Prod.snd) := by
        have := intsD_map' (l := L.map Prod.snd)
        rw [List.map_map] at this
        exact this
      have k4 : (L.map Prod.fst).zip (L.map Prod.snd) = L := by
        rw [List.zip_map']
        simp
      have ll : L.length ≤ 100000 := by
        have := states_len W dL.nd (fun x hx' => ((dst_key W hx dL).mp hx').1)
        rw [List.length_map] at this
        exact Nat.le_trans this hp
      simp [k1, k2, k3, k4]
      refine comp_map1 (enc := kyD) (φ := fun p : List Int × Int => stS true p.1) (t := fun p => (fnd M p.1).isSome) L (fun p _ => ?_) (by simp; omega) ?_
      · have e : kyD p = sq true (p.1.map D.int) := rfl
        rw [e]
        cases hf : fnd M p.1 <;> simp [hf]
      · rw [List.nil_append]
        obtain ⟨B, hB⟩ : ∃ B, B = (L.filter fun p => (fnd M p.1).isSome).map Prod.fst := ⟨_, rfl⟩
        have eB : (L.filter fun p => (fnd M p.1).isSome).map (fun p : List Int × Int => stS true p.1) = B.map (stS true) := by rw [hB, List.map_map]; rfl
        have mB : ∀ y, y ∈ B ↔ StOk gs y ∧ reachB lim gs xs y = true ∧ reachB lim gs us y = true := fun y => by
          rw [hB, List.mem_map]
          constructor
          · rintro ⟨p, hp', rfl⟩
            obtain ⟨h1, h2⟩ := List.mem_filter.mp hp'
            have a1 := (dst_key W hx dL).mp (List.mem_map.mpr ⟨p, h1, rfl⟩)
            have a2 : p.1 ∈ M.map Prod.fst := by
              cases hf : fnd M p.1 with
              | none => rw [hf] at h2; cases h2
              | some d => exact List.mem_map.mpr ⟨_, (fnd_mem dM.nd).mp hf, rfl⟩
            exact ⟨a1.1, a1.2, ((dst_key W hu dM).mp a2).2⟩
          · rintro ⟨h1, h2, h3⟩
            obtain ⟨p, hp', e⟩ := List.mem_map.mp ((dst_key W hx dL).mpr ⟨h1, h2⟩)
            have a2 := (dst_key W hu dM).mpr ⟨h1, h3⟩
            refine ⟨p, List.mem_filter.mpr ⟨hp', ?_⟩, e⟩
            rw [e]
            cases hf : fnd M y with
            | none => exact absurd a2 (fnd_none.mp hf)
            | some d => rfl
        have lB : B.length ≤ 100000 := by
          rw [hB, List.length_map]
          exact Nat.le_trans (List.length_filter_le _ _) ll
        have eD : D.dtk true (L.map fun p => kS p.1) (L.map fun p => D.int p.2) = dsD L := rfl
        rw [eB]
        have cB : compB lim gs xs us = !decide (B = []) := by
          cases hc : compB lim gs xs us with
          | true =>
            have hC : Cmp lim gs xs us := compB_iff.mp hc
            have : jn lim gs true xs us ∈ B := (mB _).mpr ⟨jn_ok W hx hu, reach_join hC, by rw [jn_comm]; exact reach_join hC.symm⟩
            have hne : B ≠ [] := fun e => by rw [e] at this; cases this
            simp [hne]
          | false =>
            have : B = [] := List.eq_nil_iff_forall_not_mem.mpr fun y hy' => by
              obtain ⟨_, h2, h3⟩ := (mB y).mp hy'
              have : compB lim gs xs us = true := comp_true ((reach_iff.mp h2).1.trans (reach_iff.mp h3).1.symm)
              rw [hc] at this
              cases this
            simp [this]
        have cS : compB lim gs us xs = compB lim gs xs us := by
          rw [Bool.eq_iff_iff, compB_iff, compB_iff]
          exact ⟨Cmp.symm, Cmp.symm⟩
        have eS : EqE 1 (stS true) := eSq (t := true) (enc := D.int) (eInt (n := 0))
        have q0 : ∀ o o' : Bool, eqD false (.lst o (B.map (stS true))) (.lst o' []) = some (.bl (decide (B = []))) := fun o o' => eqD_lst0 eS (by omega)
        have q1 : ∀ o o' : Bool, eqD true (.lst o (B.map (stS true))) (.lst o' []) = some (.bl (!decide (B = []))) := fun o o' => eqD_lst0 eS (by omega)
        have md : ∀ v : Bool, mulD2 (D.lst true [D.bl v]) (D.int 2) = some (.lst true [.bl v, .bl v]) := fun _ => rfl
        have cjo : cmbO lim gs true us xs = cmbO lim gs true xs us := by
          cases hc : compB lim gs xs us with
          | true => rw [cmbO_some (by rw [cS]; exact hc), cmbO_some hc, jn_comm]
          | false => rw [cmbO_none (by rw [cS]; exact hc), cmbO_none hc]
        simp [eD, are_compatible_eq W.ne hl' lx lu, wF_pick, st_of, aslW hl', q1, md]
        rw [same_eq (n := 8) (by simp) (by rw [cB]; simp)]
        cases hc : compB lim gs xs us with
        | false =>
          rw [hc] at cB
          have hB0 : B = [] := by simpa using cB.symm
          have cn0 : cmbO lim gs true xs us = none := cmbO_none hc
          rw [cn0] at cjo
          simp [join_eq W.ne hl' lx lu, join_eq W.ne hl' lu lx, wF_pick, st_of, aslW hl', cjo, cn0, osD]
          rw [same_eq (n := 8) (by simp) (by simp)]
          have enil : ∀ o o' : Bool, eqD false (.lst o []) (.lst o' []) = some (.bl true) := fun _ _ => rfl
          have ett : eqD true (.bl true) (.bl true) = some (.bl false) := rfl
          simp [hB0, enil, ett]
        | true =>
          rw [hc] at cB
          have hB0 : B ≠ [] := by simpa using cB.symm
          have hC : Cmp lim gs xs us := compB_iff.mp hc
          have cn0 : cmbO lim gs true xs us = some (jn lim gs true xs us) := cmbO_some hc
          rw [cn0] at cjo
          have hj' : StOk gs (jn lim gs true xs us) := jn_ok W hx hu
          have hjB : jn lim gs true xs us ∈ B := (mB _).mpr ⟨hj', reach_join hC, by rw [jn_comm]; exact reach_join hC.symm⟩
          have least : ∀ y ∈ B, reachB lim gs (jn lim gs true xs us) y = true := fun y hy' => by
            obtain ⟨h1, h2, h3⟩ := (mB y).mp hy'
            obtain ⟨a1, a2⟩ := reach_iff.mp h2
            obtain ⟨b1, b2⟩ := reach_iff.mp h3
            refine reach_iff.mpr ⟨(hC.jn (j := true)).symm.trans a1, fun k hk => ?_⟩
            have := a2 k hk
            have := b2 k hk
            rw [suf_jn hk]
            unfold cmb
            simp
            omega
          have lj := hj'.len
          generalize jn lim gs true xs us = J1 at hj' hjB least cjo cn0 lj
          simp [join_eq W.ne hl' lx lu, join_eq W.ne hl' lu lx, wF_pick, st_of, aslW hl', cjo, cn0, osD]
          rw [same_eq (n := 8) (by simp; omega) (by simp)]
          simp [q0, hB0]
          refine distances_sp W (by omega) hp hj' fun P dP => ?_
          have hin : ∀ o : Bool, inD true (sq true (J1.map D.int)) (.lst o (B.map (stS true))) = some (.bl false) := fun o => by
            rw [inD_enc (a := J1) eS (by omega) rfl]
            simp [hjB]
          have isT : isiD [sq true (J1.map D.int), .vl (.ty "tuple")] = some (.bl true) := rfl
          have fzB : D.frzs (B.map (stS true)) = B.map (stS true) := frzs_stS
          simp [hin, isT, fzB]
          refine comp_map0 (enc := stS true) (φ := fun _ => .bl true) B (fun y hy' => ?_) (by simp; omega) ?_
          · obtain ⟨h1, _, _⟩ := (mB y).mp hy'
            have a2 := (dst_key W hj' dP).mpr ⟨h1, least y hy'⟩
            cases hf : fnd P y with
            | none => exact absurd a2 (fnd_none.mp hf)
            | some d => simp [hf]
          · have e1 : ∀ l : List (List Int), boolsD (l.map fun _ => D.bl true) = some (l.map fun _ => true) := fun l => boolsD_mapf
            have e2 : (B.map fun _ => true).all id = true := by simp
            simp [e1, e2]
    · rintro S ⟨x4, x5, x6, x7, x8, x9, x10, x11, rfl⟩
      simp
      exact ⟨a, c, by simp, r.mono (by omega)⟩
  · rintro S ⟨a, c, x1, x2, x3, x4, x5, x6, x7, x8, x9, x10, x11, rfl, r⟩
    simp
    exact q _ _
theorem law_true {ns : List Int} (h : ns.length ≤ 63) : ∃ d, m_law_v14 [.scr ns] = some (.ok (.bl true), [d]) :=
  law_shape (n := 2) (by omega) (by omega) (fun a b Q r q => right_sp r (by omega) fun _ _ => q _) ns
end Wk11
namespace Wk12
open WC
open WF PySem
open L2 (atI ixN Key)
theorem std_nd : ∀ (l : List (Int × Int)), (stdS l.reverse).Nodup
  | [] => by simp [stdS]
  | p :: l => by
    rw [List.reverse_cons, stdS_snoc]
    unfold wdS
    have ih := std_nd l
    unfold List.Nodup at ih ⊢
    rw [List.pairwise_flatMap]
    refine ⟨fun h _ => ?_, ih.imp fun {a b} hab x hx y hy e => ?_⟩
    · unfold extS
      rw [List.pairwise_map]
      refine List.nodup_range.imp fun {a b} hab e => hab ?_
      have := (List.append_inj' e rfl).2
      exact Int.ofNat_inj.mp (by simpa using this)
    · obtain ⟨u, _, rfl⟩ := List.mem_map.mp hx
      obtain ⟨v, _, rfl⟩ := List.mem_map.mp hy
      exact hab (List.append_inj' e rfl).1
theorem Wl.std_nodup (gs : List (Int × Int)) : (stdS gs).Nodup := by
  have := std_nd gs.reverse
  rwa [List.reverse_reverse] at this
theorem keyI_kS {y : List Int} : keyI y = kS y := rfl
abbrev EL := List (List Int × List (List Int × Int))
theorem mgG_nd : ∀ (E : EL) (F : EL), ((F ++ E).map Prod.fst).Nodup → mgG (F.map fun q => kS q.1) (F.map fun q => dsF q.2) (E.map fun q => (q.1, dsF q.2)) = ((F ++ E).map (fun q => kS q.1), (F ++ E).map fun q => dsF q.2)
  | [], F, _ => by simp [mgG]
  | p :: E, F, h => by
    have hn : p.1 ∉ F.map Prod.fst := fun hm => by
      rw [List.map_append, List.nodup_append] at h
      exact h.2.2 _ hm _ (List.mem_map.mpr ⟨p, List.mem_cons_self, rfl⟩) rfl
    have hk : keyI p.1 ∉ F.map fun q => kS q.1 := fun hm => hn (kS_mem.mp hm)
    have := mgG_nd E (F ++ [p]) (by simpa using h)
    rw [List.map_cons]
    show mgG (pkK _ (keyI p.1)) (pkV _ _ (keyI p.1) (dsF p.2)) _ = _
    unfold pkK pkV
    rw [if_neg hk, if_neg hk]
    simpa [keyI_kS] using this
theorem dsF_pur (L : List (List Int × Int)) : (dsF L).pur = true := purs_of fun d hd => by
  obtain ⟨p, _, rfl⟩ := List.mem_map.mp hd
  rfl
theorem pairs_E : ∀ (E : EL), pairsG (E.map fun q => .tup [stS true q.1, dsF q.2]) = some (E.map fun q => (q.1, dsF q.2))
  | [] => rfl
  | p :: E => by
    have e1 : intsD (p.1.map D.int) = some p.1 := intsD_map'
    rw [List.map_cons]
    show (if (dsF p.2).pur = true then match intsD (p.1.map D.int), pairsG (E.map fun q => .tup [stS true q.1, dsF q.2]) with
      | some ns, some l => some ((ns, dsF p.2) :: l)
      | _, _ => none
      else none) = _
    rw [if_pos (dsF_pur _), e1, pairs_E E]
    rfl
theorem dsF_get {L : List (List Int × Int)} {y : List Int} : dGetD (dsF L) (sq true (y.map D.int)) = some ((fnd L y).map D.int) := by
  have e : ∀ o, dGetD (.dtk o (L.map fun p => kS p.1) (L.map fun p => .int p.2)) (sq true (y.map D.int)) = some ((fnd L y).map D.int) := fun o => by
    show (if D.Pal (L.map fun p => .int p.2) then _ else _) = _
    rw [if_pos (.inr (purs_of fun d hd => by obtain ⟨p, _, rfl⟩ := List.mem_map.mp hd; rfl)), keyT_st, Option.map_some]
    exact congrArg some (lk_g (enc := D.int))
  exact e false
theorem layers_dict {E : EL} (hn : (E.map Prod.fst).Nodup) : dictGD [.lst true (E.map fun q => .tup [stS true q.1, dsF q.2])] = some (gdD dsF E) := by
  rw [dictGD_lst, pairs_E]
  have := mgG_nd E [] (by simpa using hn)
  simp only [List.map_nil, List.nil_append] at this
  rw [Option.map_some, this]
  rfl
def eG (E : EL) : List (List Int × D) := E.map fun q => (q.1, dsF q.2)
theorem lkG_E {E : EL} {y : List Int} : lkG (eG E) (kS y) = (fng E y).map dsF := by
  unfold lkG eG keysG
  rw [List.map_map, List.map_map]
  rw [show lk (E.map ((fun q : List Int × D => q.1.map Sum.inl) ∘ fun q => (q.1, dsF q.2))) (E.map (Prod.snd ∘ fun q => (q.1, dsF q.2))) (kS y) = (fng E y).map dsF from lk_g (enc := dsF)]
  cases fng E y with
  | none => rfl
  | some L => simp [dsF_pur]
theorem fng_nd {β : Type} : ∀ {E : List (List Int × β)}, (E.map Prod.fst).Nodup → ∀ {p : List Int × β}, p ∈ E → fng E p.1 = some p.2
  | q :: E, hn, p, m => by
    rw [List.map_cons, List.nodup_cons] at hn
    unfold fng
    rw [List.find?_cons]
    rcases List.mem_cons.mp m with rfl | m
    · simp
    · have : q.1 ≠ p.1 := fun e => hn.1 (e ▸ List.mem_map.mpr ⟨p, m, rfl⟩)
      simp only [this, decide_false]
      exact fng_nd hn.2 m
theorem right_sp {Q : D → List D → Prop} {k : Nat} {a b c : Int} (r : Rg k a b c) (hk : k ≤ 1000) (q : ∀ a' c', Q (.bl true) [rngE a' b c']) : wF m__law_right_v46 [rngE a b c] Q := by
  rw [m__law_right_v46, wF_def]
  simp [b__law_right_v46]
  refine loop_rng (fun i S => ∃ a c x1 x2 x3 x4 x5 x6 x7 x8, S = [rngE a b c, x1, x2, x3, x4, x5, x6, x7, x8, .un] ∧ Rg (k + 100000 * i) a b c) ?_ ⟨_, _, _, _, _, _, _, _, _, _, rfl, by simpa using r⟩ ?_
  · rintro i hi S ⟨a, c, x1, x2, x3, x4, x5, x6, x7, x8, rfl, r⟩
    have hi : i < 3 := by simpa using hi
    simp
    refine rwell_sp (n := 4) r (by omega) (by omega) (by omega) (by omega) (by omega) fun lim gs a c W r => ?_
    have hl : gs.length ≤ 4 := W.len
    have hl' : gs.length ≤ 100 := by omega
    have hp : ((2 : Int).toNat + 1) ^ gs.length ≤ 100000 := Nat.le_trans (Nat.pow_le_pow_right (by decide) hl) (by decide)
    have hp2 : (stdS gs).length ≤ 100000 := Nat.le_trans (states_len W (Wl.std_nodup gs) fun x hx => W.mem_std.mp hx) hp
    simp [all_stands_eq W (by omega) hp]
    refine comp_ind0 (fun ds acc' T => T = [rngE a b c, .int i, wlD true lim gs, x3, x4, x5, x6, x7, x8, .un] ∧ ∃ (E : EL) (zs : List (List Int)), stdS gs = E.map Prod.fst ++ zs ∧ (∀ p ∈ E, Dst lim gs p.1 p.2) ∧ ds = zs.map (stS true) ∧ acc' = E.map fun q => .tup [stS true q.1, dsF q.2]) ?_ ?_ ⟨rfl, [], stdS gs, rfl, (fun p m => by cases m), frzs_stS, rfl⟩
    · rintro d ds acc' T ⟨rfl, E, zs, hE, hD, hds, rfl⟩
      cases zs with
      | nil => cases hds
      | cons z zs =>
        rw [List.map_cons] at hds
        cases hds
        have hz : StOk gs z := W.mem_std.mp (by rw [hE]; simp)
        have lE : E.length + (zs.length + 1) ≤ 100000 := by
          have := congrArg List.length hE
          simp at this
          omega
        simp
        refine distances_sp W (by omega) hp hz fun L dL => ?_
        simp
        refine ⟨by omega, E ++ [(z, L)], zs, by simp [hE], fun p1 p2 m => ?_, rfl, by simp⟩
        rcases List.mem_append.mp m with m | m
        · exact hD _ m
        · cases List.mem_singleton.mp m; exact dL
    rintro acc' T ⟨rfl, E, zs, hE, hD, hds, rfl⟩
    obtain rfl : zs = [] := by cases zs with
      | nil => rfl
      | cons z zs => cases hds
    rw [List.append_nil] at hE
    have hnd : (E.map Prod.fst).Nodup := hE ▸ Wl.std_nodup gs
    have hE' : E.length ≤ 100000 := by rw [hE] at hp2; simpa using hp2
    simp [layers_dict hnd]
    refine rstate_sp r W (by omega) (by omega) (by omega) fun xs a c hx r => ?_
    have lx := hx.len
    simp
    refine rstate_sp r W (by omega) (by omega) (by omega) fun ys a c hy r => ?_
    simp
    refine jumps_sp (n := 2) r (by omega) W (by omega) (by omega) hx (by omega) fun zs js a c J hz hj r => ?_
    simp
    rw [show [sq true (ys.map D.int), sq true (zs.map D.int), sq true (xs.map D.int)] = [ys, zs, xs].map (stS true) from rfl]
    refine loop_pre (stS true) (fun pre S => ∃ x5 x6 x7 x8, S = [rngE a b c, .int i, wlD true lim gs, gdD dsF E, stS true xs, x5, x6, x7, x8, .un]) [ys, zs, xs] ?_ ⟨_, _, _, _, rfl⟩ ?_
    · rintro pre us post hus S ⟨x5, x6, x7, x8, rfl⟩
      have hu : StOk gs us := by
        have : us ∈ [ys, zs, xs] := by rw [hus]; simp
        simp only [List.mem_cons, List.not_mem_nil, or_false] at this
        rcases this with rfl | rfl | rfl
        · exact hy
        · exact hz
        · exact hx
      have lu := hu.len
      have k0 : D.purs (E.map fun q => dsF q.2) = true := purs_g (enc := dsF) dsF_pur
      have k1 : asDT (gdD dsF E) = some (E.map fun p => kS p.1, E.map fun p => dsF p.2) := rfl
      have k2 : ksI (E.map fun p => kS p.1) = some (E.map Prod.fst) := by
        have := ksI_of (l := E.map Prod.fst)
        rw [List.map_map] at this
        exact this
      have k4 : (E.map Prod.fst).zip (E.map fun p => dsF p.2) = eG E := by
        rw [List.zip_map']; rfl
      simp [k0, k1, k2, k4]
      rw [show (eG E).map kyG = E.map fun q => stS true q.1 by unfold eG; rw [List.map_map]; rfl]
      refine comp_map1 (enc := fun q : List Int × List (List Int × Int) => stS true q.1) (φ := fun p => stS true p.1) (t := fun p => (fnd p.2 xs).isSome && (fnd p.2 us).isSome) E (fun p hp' => ?_) (by simp; omega) ?_
      · have e : fng E p.1 = some p.2 := fng_nd hnd hp'
        have ek : keyT (sq true (p.1.map D.int)) = some (kS p.1) := keyT_st
        simp [lkG_E, e, dsF_get, ek]
        cases fnd p.2 xs <;> cases fnd p.2 us <;> simp
      · rw [List.nil_append]
        obtain ⟨B, hB⟩ : ∃ B, B = (E.filter fun p => (fnd p.2 xs).isSome && (fnd p.2 us).isSome).map Prod.fst := ⟨_, rfl⟩
        have eB : (E.filter fun p => (fnd p.2 xs).isSome && (fnd p.2 us).isSome).map (fun p => stS true p.1) = B.map (stS true) := by rw [hB, List.map_map]; rfl
        have gotS : ∀ {p : List Int × List (List Int × Int)}, p ∈ E → ∀ {y : List Int}, StOk gs y → ((fnd p.2 y).isSome = true ↔ reachB lim gs p.1 y = true) := fun {p} m {y} hy => by
          have hp1 : StOk gs p.1 := W.mem_std.mp (by rw [hE]; exact List.mem_map.mpr ⟨p, m, rfl⟩)
          have hk := Wk11.dst_key W hp1 (hD p m) (y := y)
          cases hf : fnd p.2 y with
          | none =>
            have := fnd_none.mp hf
            simp only [Option.isSome_none, Bool.false_eq_true, false_iff]
            exact fun h => this (hk.mpr ⟨hy, h⟩)
          | some d =>
            simp only [Option.isSome_some, true_iff]
            exact (hk.mp (List.mem_map.mpr ⟨_, (fnd_mem (hD p m).nd).mp hf, rfl⟩)).2
        have mB : ∀ y, y ∈ B ↔ StOk gs y ∧ reachB lim gs y xs = true ∧ reachB lim gs y us = true := fun y => by
          rw [hB, List.mem_map]
          constructor
          · rintro ⟨p, hp', rfl⟩
            obtain ⟨h1, h2⟩ := List.mem_filter.mp hp'
            rw [Bool.and_eq_true] at h2
            exact ⟨W.mem_std.mp (by rw [hE]; exact List.mem_map.mpr ⟨p, h1, rfl⟩), (gotS h1 hx).mp h2.1, (gotS h1 hu).mp h2.2⟩
          · rintro ⟨h1, h2, h3⟩
            obtain ⟨p, hp', rfl⟩ := List.mem_map.mp (hE ▸ W.mem_std.mpr h1)
            exact ⟨p, List.mem_filter.mpr ⟨hp', by rw [(gotS hp' hx).mpr h2, (gotS hp' hu).mpr h3]; rfl⟩, rfl⟩
        have lB : B.length ≤ 100000 := by
          rw [hB, List.length_map]
          exact Nat.le_trans (List.length_filter_le _ _) hE'
        have eD : D.dtk true (E.map fun p => kS p.1) (E.map fun p => dsF p.2) = gdD dsF E := rfl
        rw [eB]
        have cB : compB lim gs xs us = !decide (B = []) := by
          cases hc : compB lim gs xs us with
          | true =>
            have hC : Cmp lim gs xs us := compB_iff.mp hc
            have : jn lim gs false xs us ∈ B := (mB _).mpr ⟨jn_ok W hx hu, reach_meet hC, by rw [jn_comm]; exact reach_meet hC.symm⟩
            have hne : B ≠ [] := fun e => by rw [e] at this; cases this
            simp [hne]
          | false =>
            have : B = [] := List.eq_nil_iff_forall_not_mem.mpr fun y hy' => by
              obtain ⟨_, h2, h3⟩ := (mB y).mp hy'
              have : compB lim gs xs us = true := comp_true ((reach_iff.mp h2).1.symm.trans (reach_iff.mp h3).1)
              rw [hc] at this
              cases this
            simp [this]
        have cS : compB lim gs us xs = compB lim gs xs us := by
          rw [Bool.eq_iff_iff, compB_iff, compB_iff]
          exact ⟨Cmp.symm, Cmp.symm⟩
        have eS : EqE 1 (stS true) := eSq (t := true) (enc := D.int) (eInt (n := 0))
        have q0 : ∀ o o' : Bool, eqD false (.lst o (B.map (stS true))) (.lst o' []) = some (.bl (decide (B = []))) := fun o o' => eqD_lst0 eS (by omega)
        have q1 : ∀ o o' : Bool, eqD true (.lst o (B.map (stS true))) (.lst o' []) = some (.bl (!decide (B = []))) := fun o o' => eqD_lst0 eS (by omega)
        have cjo : cmbO lim gs false us xs = cmbO lim gs false xs us := by
          cases hc : compB lim gs xs us with
          | true => rw [cmbO_some (by rw [cS]; exact hc), cmbO_some hc, jn_comm]
          | false => rw [cmbO_none (by rw [cS]; exact hc), cmbO_none hc]
        have ett : ∀ v : Bool, eqD true (.bl v) (.bl v) = some (.bl false) := fun v => by cases v <;> rfl
        cases hc : compB lim gs xs us with
        | false =>
          rw [hc] at cB
          have hB0 : B = [] := by simpa using cB.symm
          have cn0 : cmbO lim gs false xs us = none := cmbO_none hc
          rw [cn0] at cjo
          simp [eD, are_compatible_eq W.ne hl' lx lu, meet_eq W.ne hl' lx lu, meet_eq W.ne hl' lu lx, wF_pick, st_of, aslW hl', cjo, cn0, osD, q0, q1, hc]
          rw [same_eq (n := 8) (by simp) (by simp)]
          have enil : ∀ o o' : Bool, eqD false (.lst o []) (.lst o' []) = some (.bl true) := fun _ _ => rfl
          have enil1 : ∀ o o' : Bool, eqD true (.lst o []) (.lst o' []) = some (.bl false) := fun _ _ => rfl
          simp [hB0, enil, enil1, ett, are_compatible_eq W.ne hl' lx lu, hc, st_of]
        | true =>
          rw [hc] at cB
          have hB0 : B ≠ [] := by simpa using cB.symm
          have hC : Cmp lim gs xs us := compB_iff.mp hc
          have cn0 : cmbO lim gs false xs us = some (jn lim gs false xs us) := cmbO_some hc
          rw [cn0] at cjo
          have hj' : StOk gs (jn lim gs false xs us) := jn_ok W hx hu
          have hjB : jn lim gs false xs us ∈ B := (mB _).mpr ⟨hj', reach_meet hC, by rw [jn_comm]; exact reach_meet hC.symm⟩
          have most : ∀ y ∈ B, reachB lim gs y (jn lim gs false xs us) = true := fun y hy' => by
            obtain ⟨h1, h2, h3⟩ := (mB y).mp hy'
            obtain ⟨a1, a2⟩ := reach_iff.mp h2
            obtain ⟨b1, b2⟩ := reach_iff.mp h3
            refine reach_iff.mpr ⟨a1.trans (hC.jn (j := false)), fun k hk => ?_⟩
            have := a2 k hk
            have := b2 k hk
            rw [suf_jn hk]
            unfold cmb
            simp
            omega
          have lj := hj'.len
          generalize jn lim gs false xs us = J1 at hj' hjB most cjo cn0 lj
          simp [eD, meet_eq W.ne hl' lx lu, meet_eq W.ne hl' lu lx, wF_pick, st_of, aslW hl', cjo, cn0, osD]
          rw [same_eq (n := 8) (by simp; omega) (by simp)]
          have hin : ∀ o : Bool, inD true (sq true (J1.map D.int)) (.lst o (B.map (stS true))) = some (.bl false) := fun o => by
            rw [inD_enc (a := J1) eS (by omega) rfl]
            simp [hjB]
          have isT : isiD [sq true (J1.map D.int), .vl (.ty "tuple")] = some (.bl true) := rfl
          have fzB : D.frzs (B.map (stS true)) = B.map (stS true) := frzs_stS
          simp [q0, q1, hB0, hin, isT, fzB, are_compatible_eq W.ne hl' lx lu, hc, st_of, ett]
          refine comp_map0 (enc := stS true) (φ := fun _ => .bl true) B (fun y hy' => ?_) (by simp; omega) ?_
          · obtain ⟨h1, _, _⟩ := (mB y).mp hy'
            obtain ⟨p, hp', rfl⟩ := List.mem_map.mp (hE ▸ W.mem_std.mpr h1)
            have e := fng_nd hnd hp'
            have hf := (gotS hp' hj').mpr (most p.1 hy')
            simp [gd_get dsF_pur, e, dsF_get]
            exact hf
          · have e1 : ∀ l : List (List Int), boolsD (l.map fun _ => D.bl true) = some (l.map fun _ => true) := fun l => boolsD_mapf
            have e2 : (B.map fun _ => true).all id = true := by simp
            simp [e1, e2]
    · rintro S ⟨x5, x6, x7, x8, rfl⟩
      simp
      exact ⟨a, c, by simp, r.mono (by omega)⟩
  · rintro S ⟨a, c, x1, x2, x3, x4, x5, x6, x7, x8, rfl, r⟩
    simp
    exact q _ _
theorem law_true {ns : List Int} (h : ns.length ≤ 63) : ∃ d, m_law_v52 [.scr ns] = some (.ok (.bl true), [d]) :=
  law_shape (n := 2) (by omega) (by omega) (fun a b Q r q => right_sp r (by omega) fun _ _ => q _) ns
end Wk12
namespace Wk12
open WF WC PySem PySem.Spec PyProof.Rows L2
def d__law_fold : He.DefD := ⟨("_law_fold", none), "_law_fold", "_law_fold", defArgs (top 14), defBody (top 14), defScope (top 14), [], []⟩
def d__law_draw : He.DefD := ⟨("_law_draw", none), "_law_draw", "_law_draw", defArgs (top 13), defBody (top 13), defScope (top 13), [], []⟩
def d__law_pick : He.DefD := ⟨("_law_pick", none), "_law_pick", "_law_pick", defArgs (top 16), defBody (top 16), defScope (top 16), [], []⟩
def d__law_random_well : He.DefD := ⟨("_law_random_well", none), "_law_random_well", "_law_random_well", defArgs (top 18), defBody (top 18), defScope (top 18), [], []⟩
def d__law_random_state : He.DefD := ⟨("_law_random_state", none), "_law_random_state", "_law_random_state", defArgs (top 19), defBody (top 19), defScope (top 19), [], []⟩
def d_segment_starts : He.DefD := ⟨("segment_starts", none), "segment_starts", "segment_starts", defArgs (top 1), defBody (top 1), defScope (top 1), [], []⟩
def d_state_from_counts : He.DefD := ⟨("state_from_counts", none), "state_from_counts", "state_from_counts", defArgs (top 6), defBody (top 6), defScope (top 6), [], []⟩
def d_suffix_counts : He.DefD := ⟨("suffix_counts", none), "suffix_counts", "suffix_counts", defArgs (top 5), defBody (top 5), defScope (top 5), [], []⟩
def d_segments : He.DefD := ⟨("segments", none), "segments", "segments", defArgs (top 2), defBody (top 2), defScope (top 2), [], []⟩
def d_is_grounded : He.DefD := ⟨("is_grounded", none), "is_grounded", "is_grounded", defArgs (top 3), defBody (top 3), defScope (top 3), [], []⟩
def d_conserved_starts : He.DefD := ⟨("conserved_starts", none), "conserved_starts", "conserved_starts", defArgs (top 4), defBody (top 4), defScope (top 4), [], []⟩
def d_are_compatible : He.DefD := ⟨("are_compatible", none), "are_compatible", "are_compatible", defArgs (top 8), defBody (top 8), defScope (top 8), [], []⟩
def d_combine : He.DefD := ⟨("combine", none), "combine", "combine", defArgs (top 9), defBody (top 9), defScope (top 9), [], []⟩
def d_meet : He.DefD := ⟨("meet", none), "meet", "meet", defArgs (top 10), defBody (top 10), defScope (top 10), [], []⟩
def d__law_weight : He.DefD := ⟨("_law_weight", none), "_law_weight", "_law_weight", defArgs (top 20), defBody (top 20), defScope (top 20), [], []⟩
def d__law_all_moves : He.DefD := ⟨("_law_all_moves", none), "_law_all_moves", "_law_all_moves", defArgs (top 21), defBody (top 21), defScope (top 21), [], []⟩
def d__law_legal_moves : He.DefD := ⟨("_law_legal_moves", none), "_law_legal_moves", "_law_legal_moves", defArgs (top 22), defBody (top 22), defScope (top 22), [], []⟩
def d__law_applied : He.DefD := ⟨("_law_applied", none), "_law_applied", "_law_applied", defArgs (top 23), defBody (top 23), defScope (top 23), [], []⟩
def d__law_random_jumps : He.DefD := ⟨("_law_random_jumps", none), "_law_random_jumps", "_law_random_jumps", defArgs (top 24), defBody (top 24), defScope (top 24), [], []⟩
def d__law_distances : He.DefD := ⟨("_law_distances", none), "_law_distances", "_law_distances", defArgs (top 25), defBody (top 25), defScope (top 25), [], []⟩
def d__law_all_stands : He.DefD := ⟨("_law_all_stands", none), "_law_all_stands", "_law_all_stands", defArgs (top 26), defBody (top 26), defScope (top 26), [], []⟩
def d__law_same : He.DefD := ⟨("_law_same", none), "_law_same", "_law_same", defArgs (top 15), defBody (top 15), defScope (top 15), [], []⟩
def d__law_as_lists : He.DefD := ⟨("_law_as_lists", none), "_law_as_lists", "_law_as_lists", defArgs (top 17), defBody (top 17), defScope (top 17), [], []⟩
def d__law_right : He.DefD := ⟨("_law_right", none), "_law_right", "_law_right", defArgs (top 27), defBody (top 27), defScope (top 27), [], []⟩
def d__law_stream : He.DefD := ⟨("_law_stream", none), "_law_stream", "_law_stream", defArgs (top 12), defBody (top 12), defScope (top 12), [], []⟩
def d_law : He.DefD := ⟨("law", none), "law", "law", defArgs (top 28), defBody (top 28), defScope (top 28), [], []⟩
def fac0 : List He.Fa := [.glo "_law_fold", .glo "_law_draw", .glo "_law_pick", .glo "_law_random_well", .glo "_law_random_state", .glo "segment_starts", .glo "state_from_counts", .glo "suffix_counts", .glo "segments", .glo "is_grounded", .glo "conserved_starts", .glo "are_compatible", .glo "combine", .glo "meet", .glo "_law_weight", .glo "_law_all_moves", .glo "_law_legal_moves", .glo "_law_applied", .glo "_law_random_jumps", .glo "_law_distances", .glo "_law_all_stands", .glo "_law_same", .glo "_law_as_lists", .glo "_law_right", .glo "_law_stream", .glo "law", .free "abs", .free "all", .free "bool", .free "dict"]
def fac1 : List He.Fa := [.free "divmod", .free "enumerate", .free "int", .free "isinstance", .free "len", .free "list", .free "max", .free "min", .free "range", .free "str", .free "sum", .free "tuple", .free "zip"]
def fac : List He.Fa := fac0 ++ fac1
def fns0 : List He.DefD := [d__law_fold, d__law_draw, d__law_pick, d__law_random_well, d__law_random_state, d_segment_starts, d_state_from_counts, d_suffix_counts, d_segments, d_is_grounded, d_conserved_starts, d_are_compatible, d_combine, d_meet, d__law_weight, d__law_all_moves, d__law_legal_moves, d__law_applied, d__law_random_jumps, d__law_distances, d__law_all_stands, d__law_same, d__law_as_lists, d__law_right, d__law_stream, d_law]
def fns : List He.DefD := fns0
def loo0 : List Str := ["segment_starts", "segments", "is_grounded", "conserved_starts", "suffix_counts", "state_from_counts", "are_compatible", "combine", "meet", "_law_stream", "_law_draw", "_law_fold", "_law_same", "_law_pick", "_law_as_lists", "_law_random_well", "_law_random_state", "_law_weight", "_law_all_moves", "_law_legal_moves", "_law_applied", "_law_random_jumps", "_law_distances", "_law_all_stands", "_law_right"]
def loo : List Str := loo0
abbrev R : PySem.W.OpenRow := PySem.W.OpenLaw.row PySem.Challenge.rw_wellfolk_k12_meets
abbrev hk : PySem.W.Hook := He.hookD 4 fac fns
def ob (s : PySem.W.SharedT) : He.AlD := He.obsDG 4 fac fns (HandSHeadRun.getT s)
theorem ob_eq (s : PySem.W.SharedT) : ob s = hk.obs s.abs := He.obsDG_eq (HandSHeadRun.getT_eq s)
theorem run (w : World) : HandSHeadRun.RunEq R (PySem.W.view R.prog [28]) hk ob 4000 loo w := by
  intro os
  kernel_rfl
def nm : Nat → Str
  | 1 => "segment_starts"
  | 2 => "segments"
  | 3 => "is_grounded"
  | 4 => "conserved_starts"
  | 5 => "suffix_counts"
  | 6 => "state_from_counts"
  | 8 => "are_compatible"
  | 9 => "combine"
  | 10 => "meet"
  | 12 => "_law_stream"
  | 13 => "_law_draw"
  | 14 => "_law_fold"
  | 15 => "_law_same"
  | 16 => "_law_pick"
  | 17 => "_law_as_lists"
  | 18 => "_law_random_well"
  | 19 => "_law_random_state"
  | 20 => "_law_weight"
  | 21 => "_law_all_moves"
  | 22 => "_law_legal_moves"
  | 23 => "_law_applied"
  | 24 => "_law_random_jumps"
  | 25 => "_law_distances"
  | 26 => "_law_all_stands"
  | 27 => "_law_right"
  | 28 => "law"
  | _ => "law"
theorem tx_of {K : PySem.W.Frag} {h : Heap} {mg : Str → Option Value} (X : K.In h) (G : h.Ns mainGlobals mg) (c : He.SaysD fac fns K) : ∃ fdd : Nat → FuncData, Tx K mg (fun i => He.ga K (nm i)) fdd := by
  obtain ⟨fd14, F14⟩ := c.def_ 0 (d := d__law_fold) rfl
  obtain ⟨fd13, F13⟩ := c.def_ 1 (d := d__law_draw) rfl
  obtain ⟨fd16, F16⟩ := c.def_ 2 (d := d__law_pick) rfl
  obtain ⟨fd18, F18⟩ := c.def_ 3 (d := d__law_random_well) rfl
  obtain ⟨fd19, F19⟩ := c.def_ 4 (d := d__law_random_state) rfl
  obtain ⟨fd1, F1⟩ := c.def_ 5 (d := d_segment_starts) rfl
  obtain ⟨fd6, F6⟩ := c.def_ 6 (d := d_state_from_counts) rfl
  obtain ⟨fd5, F5⟩ := c.def_ 7 (d := d_suffix_counts) rfl
  obtain ⟨fd2, F2⟩ := c.def_ 8 (d := d_segments) rfl
  obtain ⟨fd3, F3⟩ := c.def_ 9 (d := d_is_grounded) rfl
  obtain ⟨fd4, F4⟩ := c.def_ 10 (d := d_conserved_starts) rfl
  obtain ⟨fd8, F8⟩ := c.def_ 11 (d := d_are_compatible) rfl
  obtain ⟨fd9, F9⟩ := c.def_ 12 (d := d_combine) rfl
  obtain ⟨fd10, F10⟩ := c.def_ 13 (d := d_meet) rfl
  obtain ⟨fd20, F20⟩ := c.def_ 14 (d := d__law_weight) rfl
  obtain ⟨fd21, F21⟩ := c.def_ 15 (d := d__law_all_moves) rfl
  obtain ⟨fd22, F22⟩ := c.def_ 16 (d := d__law_legal_moves) rfl
  obtain ⟨fd23, F23⟩ := c.def_ 17 (d := d__law_applied) rfl
  obtain ⟨fd24, F24⟩ := c.def_ 18 (d := d__law_random_jumps) rfl
  obtain ⟨fd25, F25⟩ := c.def_ 19 (d := d__law_distances) rfl
  obtain ⟨fd26, F26⟩ := c.def_ 20 (d := d__law_all_stands) rfl
  obtain ⟨fd15, F15⟩ := c.def_ 21 (d := d__law_same) rfl
  obtain ⟨fd17, F17⟩ := c.def_ 22 (d := d__law_as_lists) rfl
  obtain ⟨fd27, F27⟩ := c.def_ 23 (d := d__law_right) rfl
  obtain ⟨fd12, F12⟩ := c.def_ 24 (d := d__law_stream) rfl
  obtain ⟨fd28, F28⟩ := c.def_ 25 (d := d_law) rfl
  refine ⟨(fun i => match i with | 1 => fd1 | 2 => fd2 | 3 => fd3 | 4 => fd4 | 5 => fd5 | 6 => fd6 | 8 => fd8 | 9 => fd9 | 10 => fd10 | 12 => fd12 | 13 => fd13 | 14 => fd14 | 15 => fd15 | 16 => fd16 | 17 => fd17 | 18 => fd18 | 19 => fd19 | 20 => fd20 | 21 => fd21 | 22 => fd22 | 23 => fd23 | 24 => fd24 | 25 => fd25 | 26 => fd26 | 27 => fd27 | _ => fd28), ?_⟩
  exact ⟨F14, He.glo_ok X G (c.fact 0 (f := .glo "_law_fold") rfl), F13, He.glo_ok X G (c.fact 1 (f := .glo "_law_draw") rfl), F16, He.glo_ok X G (c.fact 2 (f := .glo "_law_pick") rfl), F18, He.glo_ok X G (c.fact 3 (f := .glo "_law_random_well") rfl), F19, He.glo_ok X G (c.fact 4 (f := .glo "_law_random_state") rfl), F1, He.glo_ok X G (c.fact 5 (f := .glo "segment_starts") rfl), F6, He.glo_ok X G (c.fact 6 (f := .glo "state_from_counts") rfl), F5, He.glo_ok X G (c.fact 7 (f := .glo "suffix_counts") rfl), F2, He.glo_ok X G (c.fact 8 (f := .glo "segments") rfl), F3, He.glo_ok X G (c.fact 9 (f := .glo "is_grounded") rfl), F4, He.glo_ok X G (c.fact 10 (f := .glo "conserved_starts") rfl), F8, He.glo_ok X G (c.fact 11 (f := .glo "are_compatible") rfl), F9, He.glo_ok X G (c.fact 12 (f := .glo "combine") rfl), F10, He.glo_ok X G (c.fact 13 (f := .glo "meet") rfl), F20, He.glo_ok X G (c.fact 14 (f := .glo "_law_weight") rfl), F21, He.glo_ok X G (c.fact 15 (f := .glo "_law_all_moves") rfl), F22, He.glo_ok X G (c.fact 16 (f := .glo "_law_legal_moves") rfl), F23, He.glo_ok X G (c.fact 17 (f := .glo "_law_applied") rfl), F24, He.glo_ok X G (c.fact 18 (f := .glo "_law_random_jumps") rfl), F25, He.glo_ok X G (c.fact 19 (f := .glo "_law_distances") rfl), F26, He.glo_ok X G (c.fact 20 (f := .glo "_law_all_stands") rfl), F15, He.glo_ok X G (c.fact 21 (f := .glo "_law_same") rfl), F17, He.glo_ok X G (c.fact 22 (f := .glo "_law_as_lists") rfl), F27, He.glo_ok X G (c.fact 23 (f := .glo "_law_right") rfl), F12, He.glo_ok X G (c.fact 24 (f := .glo "_law_stream") rfl), F28, He.glo_ok X G (c.fact 25 (f := .glo "law") rfl), He.free_ok X G (c.fact 26 (f := .free "abs") rfl), He.free_ok X G (c.fact 27 (f := .free "all") rfl), He.free_ok X G (c.fact 28 (f := .free "bool") rfl), He.free_ok X G (c.fact 29 (f := .free "dict") rfl), He.free_ok X G (c.fact 30 (f := .free "divmod") rfl), He.free_ok X G (c.fact 31 (f := .free "enumerate") rfl), He.free_ok X G (c.fact 32 (f := .free "int") rfl), He.free_ok X G (c.fact 33 (f := .free "isinstance") rfl), He.free_ok X G (c.fact 34 (f := .free "len") rfl), He.free_ok X G (c.fact 35 (f := .free "list") rfl), He.free_ok X G (c.fact 36 (f := .free "max") rfl), He.free_ok X G (c.fact 37 (f := .free "min") rfl), He.free_ok X G (c.fact 38 (f := .free "range") rfl), He.free_ok X G (c.fact 39 (f := .free "str") rfl), He.free_ok X G (c.fact 40 (f := .free "sum") rfl), He.free_ok X G (c.fact 41 (f := .free "tuple") rfl), He.free_ok X G (c.fact 42 (f := .free "zip") rfl)⟩
theorem facts {P : Program} {w : World} {K : PySem.W.Frag} {h : Heap} {mg : Str → Option Value} {f : Addr} (X : K.In h) (G : h.Ns mainGlobals mg) (hfa : mg ("law" : Str) = some (.ref f)) (c : He.SaysD fac fns K) :
    ∃ fd : FuncData, (∀ (s : Shared) (v : Value), BindsTo s fd ⟨[v], []⟩ [("_law_script", v)]) ∧ ∀ base : Heap, K.In base → base.Ns mainGlobals mg → FnOk P w K mg base (L2.CX P w) 16 f fd ["_law_script"] (spOf K 1 m_law_v52) := by
  obtain ⟨fdd, T⟩ := tx_of X G c
  have e := hfa.symm.trans T.g_law
  cases e
  have b := FunD.bindsA (ps := ["_law_script"]) T.F_law fun _ _ _ _ _ _ us hl => match us, hl with | [_], _ => rfl
  exact ⟨fdd 28, fun s v => b s [v] rfl, fun base _ _ => ok_law T⟩
theorem sp_law {K : PySem.W.Frag} {H : Hp} {a : Addr} {ns : List Int}  (h : ∃ d, m_law_v52 [.scr ns] = some (.ok (.bl true), [d])) (hS : SqL K H a (ns.map V.int)) : spOf K 1 m_law_v52 [.ref a] H (fun v _ => v = .bl true) fun _ _ _ => False := by
  obtain ⟨d, h⟩ := h
  refine ⟨rfl, [.scr ns], [], rfl, ⟨H, [], fun _ _ h => h, .scr hS .nil, .nil, fun _ m => nomatch m⟩, ?_⟩
  rw [h]
  exact ⟨rfl, fun v H' j => j.is_bl⟩
end Wk12
open PySem PySem.W PySem.Calls PyProof.Rows
theorem PySem.Challenge.cw_wellfolk_k12_meets_holds : PySem.Challenge.rw_wellfolk_k12_meets.Holds := by
  w_on; o_law
  refine HandSHeadRun.head_any (r := OpenLaw.row PySem.Challenge.rw_wellfolk_k12_meets) (q := view (OpenLaw.row PySem.Challenge.rw_wellfolk_k12_meets).prog [28]) (H := Wk12.hk) (ob := Wk12.ob) (M := 4000) (loose := Wk12.loo) (d := HandSHeadRun.topDef (OpenLaw.row PySem.Challenge.rw_wellfolk_k12_meets).prog 28) (kwd := []) Wk12.ob_eq
    (by kernel_rfl) (fun s => by kernel_rfl) Wk12.run (by kernel_rfl) (by kernel_rfl) (by kernel_rfl) (by rfl) (by first | assumption | decide +kernel) (by decide +kernel) ⟨rfl, rfl, rfl, rfl, rfl, by decide +kernel⟩ ?hw ?hc
  case hw => w_witness2
  case hc =>
    refine L2.walk_ofE (l := PySem.Challenge.rw_wellfolk_k12_meets) (n := 63) (k := 16) (x := "_law_script") (CX := L2.CX0) rfl (by decide) (by kernel_rfl) ⟨rfl, by decide, by decide⟩ ?F (fun _ _ _ _ z => z)
    intro w mg fa h Y G hmg0
    obtain ⟨K, KX, c⟩ := Y
    have hmg : mg ("law" : PySem.Str) = some (.ref fa) := by
      have e : (HandSHeadRun.topDef (OpenLaw.row PySem.Challenge.rw_wellfolk_k12_meets).prog 28).name = ("law" : PySem.Str) := by kernel_rfl
      rw [← e]
      exact hmg0
    obtain ⟨fd, hb, hF⟩ := Wk12.facts (P := (PySem.Challenge.rw_wellfolk_k12_meets).prog) (w := w) KX G hmg c
    exact ⟨K, fd, (fun vs H Q _ => WF.spOf K 1 WC.m_law_v52 vs H Q fun _ _ _ => False), KX, hb, fun H a ns hl _ hS => Wk12.sp_law (Wk12.law_true hl) hS, fun base h1 h2 => WF.fn_cx0 (hF base h1 h2)⟩
