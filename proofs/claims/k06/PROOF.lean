import PyProof.Rows.All
import Wide.All
import OpenK.AllK
import Wide.FinOn
import HandS.ForMost
import HandS.Walk
import HandS.Nested
import HandS.HeadHook1
import HandS.ForExc
import HandS.CallSlots
import HandS.NoneIn
import HandS.Style
import HandS.TupAny
import HandS.TupMul
import HandS.Wide
import HandS.WideBits
import HandS.Deep
import HandS.IsInst
import HandS.Zip
import KE.GoesMore
import KE.GoesZip
import PyProof.EnumMake
import HandS.Rev
import HandS.Defaults
import HandS.MakeKwOnly
import HandS.SortInts
import HandS.SortRule
import HandS.SetFor
import HandS.Strs
import HandS.CallLocal
import HandS.TupSets
import HandS.TupLen
import HandS.More
import HandS.Conv
import HandS.WordsDict
import KE.KDictDisplayH
import HandS.DictTup
import HandS.DictComp
import HandS.HeadEnd
import PyProof.ReprRoads
import HandS.OwnIter
import PyProof.CollectWalk
import HandS.ExcInit
import HandS.ExcIs
import HandS.ExcField
import KE.KExcInit
import KE.KTryMore
import HandS.TryMany
import HandS.HeadHook4
import HandS.Base
import PyProof.ReprBulk
import KE.KStateDown
import Lean
import HandS.Head0
import HandS.Head1
import HandS.Head2
import HandS.HeadHook2
import PySem.Challenge.RW_wellfolk_k06_segments_and_suffix_counts
set_option Elab.async false
set_option linter.all false
set_option maxRecDepth 100000
set_option maxHeartbeats 0
namespace WF
open PySem PySem.Spec PyProof.Rows L2
inductive D where
  | un | non | bl (b : Bool) | int (i : Int) | str (x : Str) | vl (v : V)
  | tup (xs : List D) | lst (o : Bool) (xs : List D)
  | dic (o : Bool) (ks : List Key) (xs : List D)
  | dtk (o : Bool) (ks : List (List Key)) (xs : List D)
  | scr (ns : List Int)
  | hld (u : HO)
  | con (u : HO)
  | tab (nm : Nat → Nat → Str)
  | obj (o : Bool) (c : Str) (fs : List Str) (xs : List D)
  | exn (c : Str) (fs : List Str) (xs : List D)
mutual
def D.frz : D → D
  | .tup xs => .tup (D.frzs xs)
  | .exn c fs xs => .exn c fs (D.frzs xs)
  | .lst _ xs => .lst false (D.frzs xs)
  | .dic _ ks xs => .dic false ks (D.frzs xs)
  | .dtk _ ks xs => .dtk false ks (D.frzs xs)
  | .hld _ => .un
  | .tab _ => .un
  | .obj _ c fs xs => .obj false c fs (D.frzs xs)
  | d => d
def D.frzs : List D → List D
  | [] => []
  | x :: xs => x.frz :: D.frzs xs
end
theorem D.frzs_map : ∀ xs : List D, D.frzs xs = xs.map D.frz
  | [] => rfl
  | x :: xs => by simp [D.frzs, D.frzs_map xs]
example : (D.tup [.lst true [.int 3]]).frz = D.tup [.lst false [.int 3]] := rfl
def GSub (G H : Hp) : Prop := ∀ a o, G a = some o → H a = some o
theorem GSub.refl {G : Hp} : GSub G G := fun _ _ h => h
theorem GSub.trans {G H J : Hp} (a : GSub G H) (b : GSub H J) : GSub G J := fun x o h => b x o (a x o h)
theorem sqL_mono {K : PySem.W.Frag} {G G' : Hp} {p : Addr} {xs : List V} (g : GSub G G') (h : SqL K G p xs) : SqL K G' p xs := by
  rcases h with (h | ⟨o, h⟩) | h
  · exact .inl (.inl (g _ _ h))
  · exact .inl (.inr ⟨o, g _ _ h⟩)
  · exact .inr h
def exk (p : Addr) (cls : Value) (dd : Option Addr) : HO := .ext fun h => ∃ (o : Obj) (vs : Array Value), h.get? p = some o ∧ o.cls = cls ∧ o.dict = dd ∧ o.data = .fields vs
def HldOk (u : HO) : Prop := (∀ xs, u ≠ .tup xs) ∧ (∀ ps, u ≠ .tbl ps) ∧ (∀ φ, u ≠ .ext φ) ∧ ∀ fs, u ≠ .xd fs
def TabG (G H : Hp) (P : Addr) (nm : Nat → Nat → Str) : Prop := ∃ ps : Array Value, H P = some (.tbl ps) ∧ TriplesOk ps.toList ∧ ∀ (pos : Pos) (cv : Value), codeAmong pos ps.toList = some cv → ∃ c, cv = .ref c ∧ G c = some (LamX.CodeO c (nm pos.line pos.col))
theorem TabG.mono {G G' H H' : Hp} {P : Addr} {nm : Nat → Nat → Str} (t : TabG G H P nm) (g : GSub G G') (h : ∀ o, H P = some o → H' P = some o) : TabG G' H' P nm := by
  obtain ⟨ps, a, b, c⟩ := t
  exact ⟨ps, h _ a, b, fun pos cv e => let ⟨x, e1, e2⟩ := c pos cv e; ⟨x, e1, g _ _ e2⟩⟩
abbrev Pr := V × D
inductive Reps (K : PySem.W.Frag) (G H : Hp) : List Pr → List Addr → Prop where
  | nil : Reps K G H [] []
  | un {v L fp} : Reps K G H L fp → Reps K G H ((v, .un) :: L) fp
  | non {L fp} : Reps K G H L fp → Reps K G H ((.non, .non) :: L) fp
  | bl {b L fp} : Reps K G H L fp → Reps K G H ((.bl b, .bl b) :: L) fp
  | int {i L fp} : Reps K G H L fp → Reps K G H ((.int i, .int i) :: L) fp
  | str {x L fp} : Reps K G H L fp → Reps K G H ((.str x, .str x) :: L) fp
  | vl {v L fp} : Reps K G H L fp → Reps K G H ((v, .vl v) :: L) fp
  | tup {p C vs ds f L fp} : G p = some (.tup vs) → C.map Prod.fst = vs → C.map Prod.snd = ds → Reps K G H C f → Reps K G H L fp → Reps K G H ((.ref p, .tup ds) :: L) (f ++ fp)
  | exn {p dd c fs kvs C ds L fp} : G p = some (exk p (.ref (He.ga K c)) dd) → (dd = none ∧ kvs = [] ∨ ∃ dx, dd = some dx ∧ G dx = some (.xd kvs)) → kvs.map Prod.fst = fs → C.map Prod.fst = kvs.map Prod.snd → C.map Prod.snd = ds → Reps K G H C [] → Reps K G H L fp → Reps K G H ((.ref p, .exn c fs ds) :: L) fp
  | hld {p u L fp} : HldOk u → H p = some u → Reps K G H L fp → Reps K G H ((.ref p, .hld u) :: L) (p :: fp)
  | con {p u L fp} : (∀ ps, u ≠ .tbl ps) → G p = some u → Reps K G H L fp → Reps K G H ((.ref p, .con u) :: L) fp
  | tab {p nm L fp} : TabG G H p nm → Reps K G H L fp → Reps K G H ((.ref p, .tab nm) :: L) (p :: fp)
  | of {p dx c fs kvs C ds L fp} : G p = some (.ins (He.ga K c) dx kvs) → G dx = some (.own p) → kvs.map Prod.fst = fs → C.map Prod.fst = kvs.map Prod.snd → C.map Prod.snd = ds → Reps K G H C [] → Reps K G H L fp → Reps K G H ((.ref p, .obj false c fs ds) :: L) fp
  | oo {p dx c fs kvs C ds f L fp} : H p = some (.ins (He.ga K c) dx kvs) → H dx = some (.own p) → kvs.map Prod.fst = fs → C.map Prod.fst = kvs.map Prod.snd → C.map Prod.snd = ds → Reps K G H C f → Reps K G H L fp → Reps K G H ((.ref p, .obj true c fs ds) :: L) (p :: dx :: (f ++ fp))
  | scr {p ns L fp} : SqL K G p (ns.map V.int) → Reps K G H L fp → Reps K G H ((.ref p, .scr ns) :: L) fp
  | lf {p C vs ds L fp} : G p = some (.lst vs) → C.map Prod.fst = vs → C.map Prod.snd = ds → Reps K G H C [] → Reps K G H L fp → Reps K G H ((.ref p, .lst false ds) :: L) fp
  | lo {p C vs ds f L fp} : H p = some (.lst vs) → C.map Prod.fst = vs → C.map Prod.snd = ds → Reps K G H C f → Reps K G H L fp → Reps K G H ((.ref p, .lst true ds) :: L) (p :: (f ++ fp))
  | kf {p C ks ds kvs L fp} : G p = some (.dK kvs) → kvs.map Prod.fst = ks → C.map Prod.fst = kvs.map Prod.snd → C.map Prod.snd = ds → Reps K G H C [] → Reps K G H L fp → Reps K G H ((.ref p, .dic false ks ds) :: L) fp
  | ko {p C ks ds kvs f L fp} : H p = some (.dK kvs) → kvs.map Prod.fst = ks → C.map Prod.fst = kvs.map Prod.snd → C.map Prod.snd = ds → Reps K G H C f → Reps K G H L fp → Reps K G H ((.ref p, .dic true ks ds) :: L) (p :: (f ++ fp))
  | tf {p C ks ds kvs L fp} : G p = some (.dT kvs) → kvs.map Prod.fst = ks → C.map Prod.fst = kvs.map Prod.snd → C.map Prod.snd = ds → Reps K G H C [] → Reps K G H L fp → Reps K G H ((.ref p, .dtk false ks ds) :: L) fp
  | to {p C ks ds kvs f L fp} : H p = some (.dT kvs) → kvs.map Prod.fst = ks → C.map Prod.fst = kvs.map Prod.snd → C.map Prod.snd = ds → Reps K G H C f → Reps K G H L fp → Reps K G H ((.ref p, .dtk true ks ds) :: L) (p :: (f ++ fp))
section
variable {K : PySem.W.Frag} {G G' H H' : Hp}
theorem Reps.mono {L : List Pr} {fp : List Addr} (r : Reps K G H L fp) (g : GSub G G') (h : ∀ a o, a ∈ fp → H a = some o → H' a = some o) : Reps K G' H' L fp := by
  induction r with
  | nil => exact .nil
  | un _ ih => exact .un (ih h)
  | non _ ih => exact .non (ih h)
  | bl _ ih => exact .bl (ih h)
  | int _ ih => exact .int (ih h)
  | str _ ih => exact .str (ih h)
  | vl _ ih => exact .vl (ih h)
  | hld q a _ ih => exact .hld q (h _ _ List.mem_cons_self a) (ih fun a o m => h a o (List.mem_cons_of_mem _ m))
  | con q a _ ih => exact .con q (g _ _ a) (ih h)
  | tab a _ ih => exact .tab (a.mono g fun o e => h _ _ List.mem_cons_self e) (ih fun a o m => h a o (List.mem_cons_of_mem _ m))
  | of a a2 e b c _ _ ih1 ih2 => exact .of (g _ _ a) (g _ _ a2) e b c (ih1 fun a o m => nomatch m) (ih2 h)
  | oo a a2 e b c _ _ ih1 ih2 => exact .oo (h _ _ (List.mem_cons_self) a) (h _ _ (List.mem_cons_of_mem _ List.mem_cons_self) a2) e b c (ih1 fun a o m => h a o (List.mem_cons_of_mem _ (List.mem_cons_of_mem _ (List.mem_append_left _ m)))) (ih2 fun a o m => h a o (List.mem_cons_of_mem _ (List.mem_cons_of_mem _ (List.mem_append_right _ m))))
  | scr a _ ih => exact .scr (sqL_mono g a) (ih h)
  | tup a b c _ _ ih1 ih2 => exact .tup (g _ _ a) b c (ih1 fun a o m => h a o (List.mem_append_left _ m)) (ih2 fun a o m => h a o (List.mem_append_right _ m))
  | exn a a2 e b c _ _ ih1 ih2 => exact .exn (g _ _ a) (a2.imp id fun ⟨dx, e1, e2⟩ => ⟨dx, e1, g _ _ e2⟩) e b c (ih1 fun a o m => nomatch m) (ih2 h)
  | lf a b c _ _ ih1 ih2 => exact .lf (g _ _ a) b c (ih1 fun a o m => nomatch m) (ih2 h)
  | lo a b c _ _ ih1 ih2 => exact .lo (h _ _ (List.mem_cons_self) a) b c (ih1 fun a o m => h a o (List.mem_cons_of_mem _ (List.mem_append_left _ m))) (ih2 fun a o m => h a o (List.mem_cons_of_mem _ (List.mem_append_right _ m)))
  | kf a e b c _ _ ih1 ih2 => exact .kf (g _ _ a) e b c (ih1 fun a o m => nomatch m) (ih2 h)
  | ko a e b c _ _ ih1 ih2 => exact .ko (h _ _ (List.mem_cons_self) a) e b c (ih1 fun a o m => h a o (List.mem_cons_of_mem _ (List.mem_append_left _ m))) (ih2 fun a o m => h a o (List.mem_cons_of_mem _ (List.mem_append_right _ m)))
  | tf a e b c _ _ ih1 ih2 => exact .tf (g _ _ a) e b c (ih1 fun a o m => nomatch m) (ih2 h)
  | to a e b c _ _ ih1 ih2 => exact .to (h _ _ (List.mem_cons_self) a) e b c (ih1 fun a o m => h a o (List.mem_cons_of_mem _ (List.mem_append_left _ m))) (ih2 fun a o m => h a o (List.mem_cons_of_mem _ (List.mem_append_right _ m)))
theorem Reps.append {L L' : List Pr} {fp fp' : List Addr} (r : Reps K G H L fp) (r' : Reps K G H L' fp') : Reps K G H (L ++ L') (fp ++ fp') := by
  induction r with
  | nil => exact r'
  | un _ ih => exact .un ih
  | non _ ih => exact .non ih
  | bl _ ih => exact .bl ih
  | int _ ih => exact .int ih
  | str _ ih => exact .str ih
  | vl _ ih => exact .vl ih
  | hld q a _ ih => exact .hld q a ih
  | con q a _ ih => exact .con q a ih
  | tab a _ ih => exact .tab a ih
  | of a a2 e b c r1 _ _ ih2 => exact .of a a2 e b c r1 ih2
  | oo a a2 e b c r1 _ _ ih2 => have q := Reps.oo (G := G) a a2 e b c r1 ih2; rw [← List.append_assoc] at q; exact q
  | scr a _ ih => exact .scr a ih
  | tup a b c r1 _ _ ih2 => rw [List.append_assoc]; exact .tup a b c r1 ih2
  | exn a a2 e b c r1 _ _ ih2 => exact .exn a a2 e b c r1 ih2
  | lf a b c r1 _ _ ih2 => exact .lf a b c r1 ih2
  | lo a b c r1 _ _ ih2 => have q := Reps.lo (G := G) a b c r1 ih2; rw [← List.append_assoc] at q; exact q
  | kf a e b c r1 _ _ ih2 => exact .kf a e b c r1 ih2
  | ko a e b c r1 _ _ ih2 => have q := Reps.ko (G := G) a e b c r1 ih2; rw [← List.append_assoc] at q; exact q
  | tf a e b c r1 _ _ ih2 => exact .tf a e b c r1 ih2
  | to a e b c r1 _ _ ih2 => have q := Reps.to (G := G) a e b c r1 ih2; rw [← List.append_assoc] at q; exact q
theorem Reps.uncons {x : Pr} {L : List Pr} {fp : List Addr} (r : Reps K G H (x :: L) fp) : ∃ f1 f2, fp = f1 ++ f2 ∧ Reps K G H [x] f1 ∧ Reps K G H L f2 := by
  cases r with
  | un r => exact ⟨[], _, rfl, .un .nil, r⟩
  | non r => exact ⟨[], _, rfl, .non .nil, r⟩
  | bl r => exact ⟨[], _, rfl, .bl .nil, r⟩
  | int r => exact ⟨[], _, rfl, .int .nil, r⟩
  | str r => exact ⟨[], _, rfl, .str .nil, r⟩
  | vl r => exact ⟨[], _, rfl, .vl .nil, r⟩
  | hld q a r => exact ⟨[_], _, rfl, .hld q a .nil, r⟩
  | con q a r => exact ⟨[], _, rfl, .con q a .nil, r⟩
  | tab a r => exact ⟨[_], _, rfl, .tab a .nil, r⟩
  | of a a2 e b c r1 r => exact ⟨[], _, rfl, .of a a2 e b c r1 .nil, r⟩
  | oo a a2 e b c r1 r => exact ⟨_ :: _ :: _, _, rfl, by have := Reps.oo (G := G) a a2 e b c r1 (.nil (K := K) (G := G) (H := H)); rwa [List.append_nil] at this, r⟩
  | scr a r => exact ⟨[], _, rfl, .scr a .nil, r⟩
  | tup a b c r1 r => exact ⟨_, _, rfl, by have := Reps.tup a b c r1 (.nil (K := K) (G := G) (H := H)); rwa [List.append_nil] at this, r⟩
  | exn a a2 e b c r1 r => exact ⟨[], _, rfl, .exn a a2 e b c r1 .nil, r⟩
  | lf a b c r1 r => exact ⟨[], _, rfl, .lf a b c r1 .nil, r⟩
  | lo a b c r1 r => exact ⟨_ :: _, _, rfl, by have := Reps.lo (G := G) a b c r1 (.nil (K := K) (G := G) (H := H)); rwa [List.append_nil] at this, r⟩
  | kf a e b c r1 r => exact ⟨[], _, rfl, .kf a e b c r1 .nil, r⟩
  | ko a e b c r1 r => exact ⟨_ :: _, _, rfl, by have := Reps.ko (G := G) a e b c r1 (.nil (K := K) (G := G) (H := H)); rwa [List.append_nil] at this, r⟩
  | tf a e b c r1 r => exact ⟨[], _, rfl, .tf a e b c r1 .nil, r⟩
  | to a e b c r1 r => exact ⟨_ :: _, _, rfl, by have := Reps.to (G := G) a e b c r1 (.nil (K := K) (G := G) (H := H)); rwa [List.append_nil] at this, r⟩
theorem Reps.cons {x : Pr} {L : List Pr} {f1 f2 : List Addr} (r1 : Reps K G H [x] f1) (r2 : Reps K G H L f2) : Reps K G H (x :: L) (f1 ++ f2) := r1.append r2
theorem Reps.unappend : ∀ {L L' : List Pr} {fp : List Addr}, Reps K G H (L ++ L') fp → ∃ f1 f2, fp = f1 ++ f2 ∧ Reps K G H L f1 ∧ Reps K G H L' f2
  | [], L', fp, r => ⟨[], fp, rfl, .nil, r⟩
  | x :: L, L', fp, r => by
    obtain ⟨f1, f2, rfl, r1, r2⟩ := Reps.uncons (L := L ++ L') r
    obtain ⟨f3, f4, rfl, r3, r4⟩ := Reps.unappend r2
    exact ⟨f1 ++ f3, f4, by rw [List.append_assoc], r1.cons r3, r4⟩
theorem Reps.perm {L L' : List Pr} (p : L.Perm L') : ∀ {fp : List Addr}, Reps K G H L fp → ∃ fp', fp.Perm fp' ∧ Reps K G H L' fp' := by
  induction p with
  | nil => intro fp r; exact ⟨fp, .refl _, r⟩
  | cons x _ ih =>
    intro fp r
    obtain ⟨f1, f2, rfl, r1, r2⟩ := r.uncons
    obtain ⟨f3, p3, r3⟩ := ih r2
    exact ⟨f1 ++ f3, p3.append_left f1, r1.cons r3⟩
  | swap x y l =>
    intro fp r
    obtain ⟨f1, f2, rfl, r1, r2⟩ := r.uncons
    obtain ⟨f3, f4, rfl, r3, r4⟩ := r2.uncons
    refine ⟨f3 ++ (f1 ++ f4), ?_, r3.cons (r1.cons r4)⟩
    rw [← List.append_assoc, ← List.append_assoc]
    exact List.Perm.append_right _ List.perm_append_comm
  | trans _ _ ih1 ih2 =>
    intro fp r
    obtain ⟨f1, p1, r1⟩ := ih1 r
    obtain ⟨f2, p2, r2⟩ := ih2 r1
    exact ⟨f2, p1.trans p2, r2⟩
theorem Reps.freeze {L : List Pr} {fp : List Addr} (r : Reps K G H L fp) (g : GSub G G') (h : ∀ a o, a ∈ fp → H a = some o → G' a = some o) : Reps K G' H (L.map fun x => (x.1, x.2.frz)) [] := by
  have mp1 : ∀ {C : List Pr} {vs : List V}, C.map Prod.fst = vs → (C.map fun x : Pr => (x.1, x.2.frz)).map Prod.fst = vs := fun {C vs} e => by
    rw [← e, List.map_map]; rfl
  have mp2 : ∀ {C : List Pr} {ds : List D}, C.map Prod.snd = ds → (C.map fun x : Pr => (x.1, x.2.frz)).map Prod.snd = D.frzs ds := fun {C ds} e => by
    rw [← e, List.map_map, D.frzs_map, List.map_map]; rfl
  induction r with
  | nil => exact .nil
  | un _ ih => exact .un (ih h)
  | non _ ih => exact .non (ih h)
  | bl _ ih => exact .bl (ih h)
  | int _ ih => exact .int (ih h)
  | str _ ih => exact .str (ih h)
  | vl _ ih => exact .vl (ih h)
  | hld q a _ ih => exact .un (ih fun a o m => h a o (List.mem_cons_of_mem _ m))
  | con q a _ ih => exact .con q (g _ _ a) (ih h)
  | tab a _ ih => exact .un (ih fun a o m => h a o (List.mem_cons_of_mem _ m))
  | of a a2 e b c _ _ ih1 ih2 => exact .of (g _ _ a) (g _ _ a2) e (mp1 b) (mp2 c) (ih1 fun a o m => nomatch m) (ih2 h)
  | oo a a2 e b c _ _ ih1 ih2 => exact .of (h _ _ (List.mem_cons_self) a) (h _ _ (List.mem_cons_of_mem _ List.mem_cons_self) a2) e (mp1 b) (mp2 c) (ih1 fun a o m => h a o (List.mem_cons_of_mem _ (List.mem_cons_of_mem _ (List.mem_append_left _ m)))) (ih2 fun a o m => h a o (List.mem_cons_of_mem _ (List.mem_cons_of_mem _ (List.mem_append_right _ m))))
  | scr a _ ih => exact .scr (sqL_mono g a) (ih h)
  | tup a b c _ _ ih1 ih2 => exact Reps.tup (f := []) (g _ _ a) (mp1 b) (mp2 c) (ih1 fun a o m => h a o (List.mem_append_left _ m)) (ih2 fun a o m => h a o (List.mem_append_right _ m))
  | exn a a2 e b c _ _ ih1 ih2 => exact .exn (g _ _ a) (a2.imp id fun ⟨dx, e1, e2⟩ => ⟨dx, e1, g _ _ e2⟩) e (mp1 b) (mp2 c) (ih1 fun a o m => nomatch m) (ih2 h)
  | lf a b c _ _ ih1 ih2 => exact .lf (g _ _ a) (mp1 b) (mp2 c) (ih1 fun a o m => nomatch m) (ih2 h)
  | lo a b c _ _ ih1 ih2 => exact .lf (h _ _ (List.mem_cons_self) a) (mp1 b) (mp2 c) (ih1 fun a o m => h a o (List.mem_cons_of_mem _ (List.mem_append_left _ m))) (ih2 fun a o m => h a o (List.mem_cons_of_mem _ (List.mem_append_right _ m)))
  | kf a e b c _ _ ih1 ih2 => exact .kf (g _ _ a) e (mp1 b) (mp2 c) (ih1 fun a o m => nomatch m) (ih2 h)
  | ko a e b c _ _ ih1 ih2 => exact .kf (h _ _ (List.mem_cons_self) a) e (mp1 b) (mp2 c) (ih1 fun a o m => h a o (List.mem_cons_of_mem _ (List.mem_append_left _ m))) (ih2 fun a o m => h a o (List.mem_cons_of_mem _ (List.mem_append_right _ m)))
  | tf a e b c _ _ ih1 ih2 => exact .tf (g _ _ a) e (mp1 b) (mp2 c) (ih1 fun a o m => nomatch m) (ih2 h)
  | to a e b c _ _ ih1 ih2 => exact .tf (h _ _ (List.mem_cons_self) a) e (mp1 b) (mp2 c) (ih1 fun a o m => h a o (List.mem_cons_of_mem _ (List.mem_append_left _ m))) (ih2 fun a o m => h a o (List.mem_cons_of_mem _ (List.mem_append_right _ m)))
end
def Joint (K : PySem.W.Frag) (H : Hp) (L : List Pr) : Prop :=
  ∃ G fp, GSub G H ∧ Reps K G H L fp ∧ fp.Nodup ∧ ∀ a ∈ fp, G a = none
section
variable {K : PySem.W.Frag} {H H' : Hp} {L L' : List Pr} {x : Pr}
theorem Joint.perm (p : L.Perm L') (j : Joint K H L) : Joint K H L' := by
  obtain ⟨G, fp, g, r, n, z⟩ := j
  obtain ⟨fp', pp, r'⟩ := r.perm p
  exact ⟨G, fp', g, r', pp.nodup_iff.mp n, fun a h => z a (pp.mem_iff.mpr h)⟩
theorem Joint.drop (j : Joint K H (x :: L)) : Joint K H L := by
  obtain ⟨G, fp, g, r, n, z⟩ := j
  obtain ⟨f1, f2, rfl, r1, r2⟩ := r.uncons
  exact ⟨G, f2, g, r2, (List.nodup_append.mp n).2.1, fun a h => z a (List.mem_append_right _ h)⟩
theorem Joint.ext (j : Joint K H L) (e : ∀ a o, H a = some o → H' a = some o) : Joint K H' L := by
  obtain ⟨G, fp, g, r, n, z⟩ := j
  exact ⟨G, fp, g.trans e, r.mono .refl fun a o _ h => e a o h, n, z⟩
theorem Joint.new {p : Addr} {o : HO} (j : Joint K H L) (h : H p = none) : Joint K (upd H p o) L :=
  j.ext fun a u e => by rw [upd_ne (ne_of_none e h)]; exact e
theorem Joint.freeze {v : V} {d : D} (j : Joint K H ((v, d) :: L)) : Joint K H ((v, d.frz) :: (v, d.frz) :: L) := by
  obtain ⟨G, fp, g, r, n, z⟩ := j
  obtain ⟨f1, f2, rfl, r1, r2⟩ := r.uncons
  obtain ⟨n1, n2, n3⟩ := List.nodup_append.mp n
  let G' : Hp := fun a => if a ∈ f1 then H a else G a
  have gg : GSub G G' := fun a o e => by
    show (if a ∈ f1 then H a else G a) = some o
    split
    · exact g a o e
    · exact e
  have gH : GSub G' H := fun a o e => by
    have e : (if a ∈ f1 then H a else G a) = some o := e
    split at e
    · exact e
    · exact g a o e
  have fr : Reps K G' H [(v, d.frz)] [] := r1.freeze gg fun a o m e => by
    show (if a ∈ f1 then H a else G a) = some o
    rw [if_pos m]; exact e
  refine ⟨G', f2, gH, fr.cons (fr.cons (r2.mono gg fun _ _ _ h => h)), n2, fun a m => ?_⟩
  show (if a ∈ f1 then H a else G a) = none
  rw [if_neg (fun q => n3 a q a m rfl)]
  exact z a (List.mem_append_right _ m)
theorem Joint.nil : Joint K H [] := ⟨fun _ => none, [], (fun _ _ e => by cases e), Reps.nil, List.nodup_nil, (fun _ m => by cases m)⟩
theorem Joint.un {v : V} (j : Joint K H L) : Joint K H ((v, .un) :: L) := by
  obtain ⟨G, fp, g, r, n, z⟩ := j
  exact ⟨G, fp, g, .un r, n, z⟩
theorem Joint.dropL : ∀ {L1 : List Pr}, Joint K H (L1 ++ L) → Joint K H L
  | [], j => j
  | _ :: _, j => (Joint.drop j).dropL
end
end WF
namespace WF
open PySem PySem.Spec PyProof.Rows L2
structure Xn where
  C : Str
  fs : List (Str × D)
inductive Out where
  | ok (d : D)
  | ex (x : Xn)
abbrev S0 := List D
abbrev EM := S0 → Option (Out × S0)
def retM (d : D) : EM := fun S => some (.ok d, S)
def optM (o : Option D) : EM := fun S => match o with
  | some d => some (.ok d, S)
  | none => none
def bindM (fa : EM) (g : D → EM) : EM := fun S => match fa S with
  | some (.ok d, S') => g d S'
  | some (.ex x, S') => some (.ex x, S')
  | none => none
structure Cfg where
  K : PySem.W.Frag
  PV : List (Option (Option V))
  rs : List Pr
  W : WX
def slotL (σ : L2.St) (S : S0) : List Pr := (σ.map (·.getD .non)).zip S
structure SJ (c : Cfg) (S : S0) (tm : List Pr) (σ : L2.St) (H : Hp) : Prop where
  len : σ.length = S.length
  set : ∀ (i : Nat) d, S[i]? = some d → d ≠ .un → ∃ v, σ[i]? = some (some v)
  pv : ∀ (i : Nat) o, c.PV[i]? = some (some o) → σ[i]? = some o
  lp : c.PV.length = σ.length
  jt : Joint c.K H (slotL σ S ++ (tm ++ c.rs))
def XJ (c : Cfg) (x : Xn) (S : S0) (cls : Value) (dd : Option Addr) (σ : L2.St) (H : Hp) : Prop :=
  ∃ fv : List Pr, cls = .ref (He.ga c.K x.C) ∧ fv.map Prod.snd = x.fs.map Prod.snd ∧ ((dd = none ∧ fv = []) ∨ ∃ dx, dd = some dx ∧ H dx = some (.xd ((x.fs.map Prod.fst).zip (fv.map Prod.fst)))) ∧ SJ c S fv σ H
def post (c : Cfg) (o : Option (Out × S0)) (tm : List Pr) (σ : L2.St) (Q : VK) : Prop := match o with
  | some (.ok d, S) => ∀ v H, SJ c S ((v, d) :: tm) σ H → Q v H
  | some (.ex x, S) => ∀ cls dd H, XJ c x S cls dd σ H → c.W cls dd σ H
  | none => False
def T (c : Cfg) (f : EM) : TE := fun σ H Q => ∃ S tm, SJ c S tm σ H ∧ post c (f S) tm σ Q
section
variable {c : Cfg} {S : S0} {tm : List Pr} {σ : L2.St} {H H' : Hp} {x : Pr} {X : Cx}
theorem perm_take {A B : List Pr} : (A ++ (x :: B)).Perm (x :: (A ++ B)) := List.perm_middle
theorem perm_sw {A B C : List Pr} : (A ++ (B ++ C)).Perm (B ++ (A ++ C)) := by
  rw [← List.append_assoc, ← List.append_assoc]
  exact List.Perm.append_right _ List.perm_append_comm
theorem SJ.take (j : SJ c S (x :: tm) σ H) : Joint c.K H (x :: (slotL σ S ++ (tm ++ c.rs))) := j.jt.perm perm_take
theorem SJ.put {tm' : List Pr} (j : SJ c S tm' σ H) (k : Joint c.K H' (x :: (slotL σ S ++ (tm ++ c.rs)))) : SJ c S (x :: tm) σ H' := ⟨j.len, j.set, j.pv, j.lp, k.perm perm_take.symm⟩
theorem SJ.with {tm' : List Pr} (j : SJ c S tm' σ H) (k : Joint c.K H' (slotL σ S ++ (tm ++ c.rs))) : SJ c S tm σ H' := ⟨j.len, j.set, j.pv, j.lp, k⟩
theorem SJ.drop (j : SJ c S (x :: tm) σ H) : SJ c S tm σ H := j.with j.take.drop
theorem SJ.dropL : ∀ {ex : List Pr}, SJ c S (ex ++ tm) σ H → SJ c S tm σ H
  | [], j => j
  | _ :: _, j => (SJ.drop j).dropL
theorem SJ.ext (j : SJ c S tm σ H) (e : ∀ a o, H a = some o → H' a = some o) : SJ c S tm σ H' := j.with (j.jt.ext e)
theorem pe_mono {e : Expr} {t t' : TE} (h : PE X e t) (hi : ∀ σ H Q, t' σ H Q → t σ H Q) : PE X e t' := ⟨fun pins s σ H Q I w => h.run pins s σ H Q I (hi σ H Q w)⟩
theorem pt_mono {e : Expr} {t t' : TT} (h : PT X e t) (hi : ∀ σ H Q, t' σ H Q → t σ H Q) : PT X e t' := ⟨fun pins s σ H Q I w => h.run pins s σ H Q I (hi σ H Q w)⟩
theorem ps_mono {e : Stmt} {t t' : TS} (h : PS X e t) (hi : ∀ D σ H, t' D σ H → t D σ H) : PS X e t' := ⟨fun pins s σ H D I w => h.run pins s σ H D I (hi D σ H w)⟩
theorem pss_mono {e : List Stmt} {t t' : TS} (h : PSs X e t) (hi : ∀ D σ H, t' D σ H → t D σ H) : PSs X e t' := ⟨fun pins s σ H D I w => h.run pins s σ H D I (hi D σ H w)⟩
theorem post_bind {fa : EM} {g : D → EM} {tm0 : List Pr} {Q : VK} (j : SJ c S tm σ H) (p : post c (bindM fa g S) tm0 σ Q) :
    T c fa σ H (fun v H1 => ∃ d S', SJ c S' ((v, d) :: tm) σ H1 ∧ post c (g d S') tm0 σ Q) := by
  refine ⟨S, tm, j, ?_⟩
  unfold bindM at p
  cases h : fa S with
  | none => rw [h] at p; exact p.elim
  | some o =>
    obtain ⟨o, S'⟩ := o
    cases o with
    | ok d => rw [h] at p; exact fun v H' j' => ⟨d, S', j', p⟩
    | ex x => rw [h] at p; exact p
theorem post_opt {o : Option D} {Q : VK} (p : post c (optM o S) tm σ Q) : ∃ d, o = some d ∧ ∀ v H, SJ c S ((v, d) :: tm) σ H → Q v H := by
  unfold optM at p
  cases o with
  | none => exact p.elim
  | some d => exact ⟨d, rfl, p⟩
theorem T.mono {f : EM} {Q Q' : VK} (h : T c f σ H Q) (q : ∀ v H, Q v H → Q' v H) : T c f σ H Q' := by
  obtain ⟨S, tm, j, p⟩ := h
  refine ⟨S, tm, j, ?_⟩
  unfold post at p ⊢
  split at p
  · exact fun v H j => q v H (p v H j)
  · exact p
  · exact p
def Op2 (K : PySem.W.Frag) (r : R2) (op : D → D → Option D) : Prop := ∀ H (R : List Pr) v1 v2 d1 d2 d (Q : VK), op d1 d2 = some d → Joint K H ((v2, d2) :: (v1, d1) :: R) → (∀ v H', Joint K H' ((v, d) :: R) → Q v H') → r v1 v2 H Q
def Op1 (K : PySem.W.Frag) (r : V → Hp → VK → Prop) (op : D → Option D) : Prop := ∀ H (R : List Pr) v1 d1 d (Q : VK), op d1 = some d → Joint K H ((v1, d1) :: R) → (∀ v H', Joint K H' ((v, d) :: R) → Q v H') → r v1 H Q
def binM (op : D → D → Option D) (fa fb : EM) : EM := bindM fa fun x => bindM fb fun y => optM (op x y)
def unM (op : D → Option D) (fa : EM) : EM := bindM fa fun x => optM (op x)
theorem t_op2 {r : R2} {op : D → D → Option D} {fa fb : EM} {Q : VK} (hs : Op2 c.K r op) (h : T c (binM op fa fb) σ H Q) : tOp r (T c fa) (T c fb) σ H Q := by
  obtain ⟨S, tm, j, p⟩ := h
  refine (post_bind j p).mono fun v1 H1 ⟨d1, S1, j1, p1⟩ => ?_
  refine (post_bind j1 p1).mono fun v2 H2 ⟨d2, S2, j2, p2⟩ => ?_
  obtain ⟨d, e, q⟩ := post_opt p2
  exact hs _ _ _ _ _ _ _ _ e (j2.take.perm ((List.Perm.cons _ perm_take))) fun v H' k => q v H' (j2.put k)
theorem t_op1 {r : V → Hp → VK → Prop} {op : D → Option D} {fa : EM} {Q : VK} (hs : Op1 c.K r op) (h : T c (unM op fa) σ H Q) : tUn r (T c fa) σ H Q := by
  obtain ⟨S, tm, j, p⟩ := h
  refine (post_bind j p).mono fun v1 H1 ⟨d1, S1, j1, p1⟩ => ?_
  obtain ⟨d, e, q⟩ := post_opt p1
  exact hs _ _ _ _ _ _ e j1.take fun v H' k => q v H' (j1.put k)
variable {a b e : Expr} {fa fb fe : EM} {pos : Pos}
theorem w_bin {o : Operator} {r : R2} {op : D → D → Option D} (ho : OpR X (binaryOp o) r) (hs : Op2 c.K r op) (ha : PE X a (T c fa)) (hb : PE X b (T c fb)) : PE X (.BinOp a o b pos) (T c (binM op fa fb)) :=
  pe_mono (pe_op ho ha hb) fun _ _ _ h => t_op2 hs h
theorem w_un {o : UnaryOp} {r : V → Hp → VK → Prop} {op : D → Option D} (ho : UnR X (unaryOp o) r) (hs : Op1 c.K r op) (ha : PE X a (T c fa)) : PE X (.UnaryOp o a pos) (T c (unM op fa)) :=
  pe_mono (pe_un ho ha) fun _ _ _ h => t_op1 hs h
theorem post_ret {d : D} {v : V} {Q : VK} (j : SJ c S tm σ H) (hr : ∀ R, Joint c.K H R → Joint c.K H ((v, d) :: R)) (p : post c (retM d S) tm σ Q) : Q v H := p v H (j.put (hr _ j.jt))
theorem w_c {v : V} {d : D} (he : PE X e (tC v)) (hr : ∀ H R, Joint c.K H R → Joint c.K H ((v, d) :: R)) : PE X e (T c (retM d)) :=
  pe_mono he fun σ H Q h => let ⟨S, tm, j, p⟩ := h; post_ret j (hr H) p
theorem j_int {i : Int} (H : Hp) (R : List Pr) (j : Joint c.K H R) : Joint c.K H ((.int i, .int i) :: R) := let ⟨G, fp, g, r, n, z⟩ := j; ⟨G, fp, g, .int r, n, z⟩
theorem j_bl {i : Bool} (H : Hp) (R : List Pr) (j : Joint c.K H R) : Joint c.K H ((.bl i, .bl i) :: R) := let ⟨G, fp, g, r, n, z⟩ := j; ⟨G, fp, g, .bl r, n, z⟩
theorem j_non (H : Hp) (R : List Pr) (j : Joint c.K H R) : Joint c.K H ((.non, .non) :: R) := let ⟨G, fp, g, r, n, z⟩ := j; ⟨G, fp, g, .non r, n, z⟩
theorem j_vl {v : V} (H : Hp) (R : List Pr) (j : Joint c.K H R) : Joint c.K H ((v, .vl v) :: R) := let ⟨G, fp, g, r, n, z⟩ := j; ⟨G, fp, g, .vl r, n, z⟩
theorem w_int {i : Int} {k} : PE X (.Constant (.int i) k pos) (T c (retM (.int i))) := w_c pe_int j_int
theorem w_bl {i : Bool} {k} : PE X (.Constant (.bool i) k pos) (T c (retM (.bl i))) := w_c pe_bl j_bl
theorem w_non {k} : PE X (.Constant .none k pos) (T c (retM .non)) := w_c pe_non j_non
theorem slot_get : ∀ {σ : L2.St} {S : S0} {i : Nat} {v : V} {d : D}, σ[i]? = some (some v) → S[i]? = some d → σ.length = S.length → ∃ Z, (slotL σ S).Perm ((v, d) :: Z) ∧ (∀ d', (slotL σ (S.set i d')).Perm ((v, d') :: Z)) ∧ ∀ v' d', (slotL (σ.set i (some v')) (S.set i d')).Perm ((v', d') :: Z)
  | o :: σ, e :: S, 0, v, d, h1, h2, _ => by
    simp at h1 h2
    subst h1 h2
    exact ⟨slotL σ S, .refl _, fun _ => .refl _, fun _ _ => .refl _⟩
  | o :: σ, e :: S, i + 1, v, d, h1, h2, hl => by
    obtain ⟨Z, p1, p2, p3⟩ := slot_get (σ := σ) (S := S) (i := i) (by simpa using h1) (by simpa using h2) (by simpa using hl)
    have sw : ∀ {x y : Pr} {A : List Pr}, A.Perm (x :: Z) → (y :: A).Perm (x :: y :: Z) := fun p => (List.Perm.cons _ p).trans (List.Perm.swap _ _ _)
    exact ⟨(o.getD .non, e) :: Z, sw p1, fun d' => sw (p2 d'), fun v' d' => sw (p3 v' d')⟩
  | [], _, _, _, _, h1, _, _ => by simp at h1
  | _ :: _, [], _, _, _, _, h2, _ => by simp at h2
theorem slot_set : ∀ {σ : L2.St} {S : S0} {i : Nat}, i < S.length → σ.length = S.length → ∃ Z v0 d0, (slotL σ S).Perm ((v0, d0) :: Z) ∧ (∀ v' d', (slotL (σ.set i (some v')) (S.set i d')).Perm ((v', d') :: Z))
  | o :: σ, e :: S, 0, _, _ => ⟨slotL σ S, o.getD .non, e, .refl _, fun _ _ => .refl _⟩
  | o :: σ, e :: S, i + 1, hi, hl => by
    obtain ⟨Z, v0, d0, p1, p3⟩ := slot_set (σ := σ) (S := S) (i := i) (by simpa using hi) (by simpa using hl)
    have sw : ∀ {x y : Pr} {A : List Pr}, A.Perm (x :: Z) → (y :: A).Perm (x :: y :: Z) := fun p => (List.Perm.cons _ p).trans (List.Perm.swap _ _ _)
    exact ⟨(o.getD .non, e) :: Z, v0, d0, sw p1, fun v' d' => sw (p3 v' d')⟩
  | [], [], _, h, _ => by simp at h
  | [], _ :: _, _, _, h => by simp at h
  | _ :: _, [], _, h, _ => by simp at h
def isUn : D → Bool
  | .un => true
  | _ => false
theorem isUn_ne {d : D} (h : isUn d = false) : d ≠ .un := fun e => by rw [e] at h; cases h
def varM (i : Nat) : EM := fun S => match S[i]? with
  | some d => if isUn d then none else some (.ok d.frz, S.set i d.frz)
  | none => none
theorem SJ.get {i : Nat} {d : D} (j : SJ c S tm σ H) (h : S[i]? = some d) (hu : isUn d = false) : ∃ v, σ[i]? = some (some v) ∧ ∃ Z, Joint c.K H ((v, d) :: Z) ∧
    ∀ (d' : D) (tm' : List Pr) H', Joint c.K H' ((v, d') :: (tm' ++ Z)) → SJ c (S.set i d') (tm' ++ tm) σ H' := by
  obtain ⟨v, e⟩ := j.set i d h (isUn_ne hu)
  obtain ⟨Z, p1, p2, _⟩ := slot_get e h j.len
  refine ⟨v, e, Z ++ (tm ++ c.rs), j.jt.perm (List.Perm.append_right _ p1), fun d' tm' H' k => ⟨?_, fun n u h' hn => ?_, j.pv, j.lp, ?_⟩⟩
  · rw [List.length_set]; exact j.len
  · by_cases hi : n = i
    · exact ⟨v, by rw [hi]; exact e⟩
    · rw [List.getElem?_set_ne (Ne.symm hi)] at h'
      exact j.set n u h' hn
  · refine k.perm ?_
    have e1 : ((v, d') :: (tm' ++ (Z ++ (tm ++ c.rs)))).Perm (((v, d') :: Z) ++ ((tm' ++ tm) ++ c.rs)) := by
      refine List.Perm.cons _ ?_
      rw [List.append_assoc tm' tm]
      exact perm_sw
    exact e1.trans (List.Perm.append_right _ (p2 d').symm)
theorem w_var {i : Nat} (he : PE X e (tVar i)) : PE X e (T c (varM i)) := by
  refine pe_mono he fun σ H Q h => ?_
  obtain ⟨S, tm, j, p⟩ := h
  unfold varM at p
  split at p
  · rename_i d hd
    split at p
    · exact p.elim
    · rename_i hu
      obtain ⟨v, ev, Z, k, put⟩ := j.get hd (by simpa using hu)
      refine ⟨v, ev, p v H ?_⟩
      have k2 := k.freeze
      exact put d.frz [(v, d.frz)] H k2
  · exact p.elim
end
end WF
namespace WF
open PySem PySem.Spec PyProof.Rows L2
section
variable {K : PySem.W.Frag} {G H H' : Hp} {L R : List Pr} {p : Addr} {vs : List V} {ds : List D}
theorem Reps.has {fp : List Addr} (r : Reps K G H L fp) : ∀ a ∈ fp, ∃ o, H a = some o := by
  induction r with
  | nil => intro a m; cases m
  | un _ ih => exact ih
  | non _ ih => exact ih
  | bl _ ih => exact ih
  | int _ ih => exact ih
  | str _ ih => exact ih
  | vl _ ih => exact ih
  | hld q h _ ih => intro a m; rcases List.mem_cons.mp m with rfl | m; exact ⟨_, h⟩; exact ih a m
  | con _ _ _ ih => exact ih
  | tab h _ ih => intro a m; rcases List.mem_cons.mp m with rfl | m; (obtain ⟨ps, h, _⟩ := h; exact ⟨_, h⟩); exact ih a m
  | of _ _ _ _ _ _ _ ih1 ih2 => exact ih2
  | oo h h2 _ _ _ _ _ ih1 ih2 => intro a m; rcases List.mem_cons.mp m with rfl | m; exact ⟨_, h⟩; rcases List.mem_cons.mp m with rfl | m; exact ⟨_, h2⟩; rcases List.mem_append.mp m with m | m; exact ih1 a m; exact ih2 a m
  | scr _ _ ih => exact ih
  | tup _ _ _ _ _ ih1 ih2 => intro a m; rcases List.mem_append.mp m with m | m; exact ih1 a m; exact ih2 a m
  | exn _ _ _ _ _ _ _ ih1 ih2 => exact ih2
  | lf _ _ _ _ _ ih1 ih2 => exact ih2
  | lo h _ _ _ _ ih1 ih2 => intro a m; rcases List.mem_cons.mp m with rfl | m; exact ⟨_, h⟩; rcases List.mem_append.mp m with m | m; exact ih1 a m; exact ih2 a m
  | kf _ _ _ _ _ _ ih1 ih2 => exact ih2
  | ko h _ _ _ _ _ ih1 ih2 => intro a m; rcases List.mem_cons.mp m with rfl | m; exact ⟨_, h⟩; rcases List.mem_append.mp m with m | m; exact ih1 a m; exact ih2 a m
  | tf _ _ _ _ _ _ ih1 ih2 => exact ih2
  | to h _ _ _ _ _ ih1 ih2 => intro a m; rcases List.mem_cons.mp m with rfl | m; exact ⟨_, h⟩; rcases List.mem_append.mp m with m | m; exact ih1 a m; exact ih2 a m
theorem zip_fst : ∀ {vs : List V} {ds : List D}, vs.length = ds.length → (vs.zip ds).map Prod.fst = vs
  | [], [], _ => rfl
  | v :: vs, d :: ds, h => by rw [List.zip_cons_cons, List.map_cons, zip_fst (by simpa using h)]
  | [], _ :: _, h => by simp at h
  | _ :: _, [], h => by simp at h
theorem zip_snd : ∀ {vs : List V} {ds : List D}, vs.length = ds.length → (vs.zip ds).map Prod.snd = ds
  | [], [], _ => rfl
  | v :: vs, d :: ds, h => by rw [List.zip_cons_cons, List.map_cons, zip_snd (by simpa using h)]
  | [], _ :: _, h => by simp at h
  | _ :: _, [], h => by simp at h
theorem zip_map : ∀ {C : List Pr}, (C.map Prod.fst).zip (C.map Prod.snd) = C
  | [] => rfl
  | x :: C => by rw [List.map_cons, List.map_cons, List.zip_cons_cons, zip_map]
theorem Joint.tup (hl : vs.length = ds.length) (j : Joint K H (vs.zip ds ++ R)) (h : H p = none) : Joint K (upd H p (.tup vs)) ((.ref p, .tup ds) :: R) := by
  obtain ⟨G, fp, g, r, n, z⟩ := j
  obtain ⟨f1, f2, rfl, r1, r2⟩ := r.unappend
  have hp : G p = none := by
    cases q : G p with
    | none => rfl
    | some o => rw [g p o q] at h; cases h
  have gg : GSub G (upd G p (.tup vs)) := fun a o e => by rw [upd_ne (ne_of_none e hp)]; exact e
  have hh : ∀ a o, H a = some o → upd H p (.tup vs) a = some o := fun a o e => by rw [upd_ne (ne_of_none e h)]; exact e
  refine ⟨upd G p (.tup vs), f1 ++ f2, fun a o e => ?_, .tup upd_same (zip_fst hl) (zip_snd hl) (r1.mono gg fun a o _ => hh a o) (r2.mono gg fun a o _ => hh a o), n, fun a m => ?_⟩
  · by_cases ha : a = p
    · subst ha; rw [upd_same] at e ⊢; exact e
    · rw [upd_ne ha] at e ⊢; exact g a o e
  · obtain ⟨o, ho⟩ := r.has a m
    rw [upd_ne (ne_of_none ho h)]
    exact z a m
theorem Joint.lst (hl : vs.length = ds.length) (j : Joint K H (vs.zip ds ++ R)) (h : H p = none) : Joint K (upd H p (.lst vs)) ((.ref p, .lst true ds) :: R) := by
  obtain ⟨G, fp, g, r, n, z⟩ := j
  obtain ⟨f1, f2, rfl, r1, r2⟩ := r.unappend
  have hp : G p = none := by
    cases q : G p with
    | none => rfl
    | some o => rw [g p o q] at h; cases h
  have hh : ∀ a o, H a = some o → upd H p (.lst vs) a = some o := fun a o e => by rw [upd_ne (ne_of_none e h)]; exact e
  refine ⟨G, p :: (f1 ++ f2), fun a o e => hh a o (g a o e), .lo upd_same (zip_fst hl) (zip_snd hl) (r1.mono .refl fun a o _ => hh a o) (r2.mono .refl fun a o _ => hh a o), List.nodup_cons.mpr ⟨fun m => ?_, n⟩, fun a m => ?_⟩
  · obtain ⟨o, ho⟩ := r.has p m
    rw [h] at ho; cases ho
  · rcases List.mem_cons.mp m with rfl | m
    · exact hp
    · exact z a m
theorem Joint.untup (j : Joint K H ((.ref p, .tup ds) :: R)) : ∃ vs, H p = some (.tup vs) ∧ vs.length = ds.length ∧ Joint K H (vs.zip ds ++ R) := by
  obtain ⟨G, fp, g, r, n, z⟩ := j
  cases r with
  | @tup p C vs ds f L fp a b e r1 r2 =>
    subst b e
    refine ⟨_, g _ _ a, by simp, G, _, g, ?_, n, z⟩
    rw [zip_map]
    exact r1.append r2
theorem Joint.unlst {o : Bool} (j : Joint K H ((.ref p, .lst o ds) :: R)) : ∃ vs, H p = some (.lst vs) ∧ vs.length = ds.length ∧ Joint K H (vs.zip ds ++ R) := by
  obtain ⟨G, fp, g, r, n, z⟩ := j
  cases r with
  | @lf p C vs ds L fp a b e r1 r2 =>
    subst b e
    refine ⟨_, g _ _ a, by simp, G, _, g, ?_, n, z⟩
    rw [zip_map]
    exact r1.append r2
  | @lo p C vs ds f L fp a b e r1 r2 =>
    subst b e
    refine ⟨_, a, by simp, G, _, g, ?_, (List.nodup_cons.mp n).2, fun a m => z a (List.mem_cons_of_mem _ m)⟩
    rw [zip_map]
    exact r1.append r2
theorem Joint.is_int {v : V} {i : Int} (j : Joint K H ((v, .int i) :: R)) : v = .int i := by
  obtain ⟨G, fp, g, r, n, z⟩ := j
  cases r; rfl
theorem Joint.is_bl {v : V} {i : Bool} (j : Joint K H ((v, .bl i) :: R)) : v = .bl i := by
  obtain ⟨G, fp, g, r, n, z⟩ := j
  cases r; rfl
theorem Joint.is_str {v : V} {i : Str} (j : Joint K H ((v, .str i) :: R)) : v = .str i := by
  obtain ⟨G, fp, g, r, n, z⟩ := j
  cases r; rfl
theorem Joint.is_non {v : V} (j : Joint K H ((v, .non) :: R)) : v = .non := by
  obtain ⟨G, fp, g, r, n, z⟩ := j
  cases r; rfl
theorem Joint.is_vl {v w : V} (j : Joint K H ((v, .vl w) :: R)) : v = w := by
  obtain ⟨G, fp, g, r, n, z⟩ := j
  cases r; rfl
theorem Joint.is_tup {v : V} (j : Joint K H ((v, .tup ds) :: R)) : ∃ p, v = .ref p := by
  obtain ⟨G, fp, g, r, n, z⟩ := j
  cases r; exact ⟨_, rfl⟩
theorem Joint.is_lst {v : V} {o : Bool} (j : Joint K H ((v, .lst o ds) :: R)) : ∃ p, v = .ref p := by
  obtain ⟨G, fp, g, r, n, z⟩ := j
  cases r <;> exact ⟨_, rfl⟩
end
def argsM : List EM → (List D → EM) → EM
  | [], g => g []
  | f :: fs, g => bindM f fun d => argsM fs fun ds => g (d :: ds)
def tArgs (c : Cfg) : List EM → TA
  | [] => tNil
  | f :: fs => tCons (T c f) (tArgs c fs)
section
variable {c : Cfg} {X : Cx}
theorem tArgs_mono : ∀ {fs : List EM} {σ : L2.St} {H : Hp} {Q Q' : List V → Hp → Prop}, tArgs c fs σ H Q → (∀ vs H, Q vs H → Q' vs H) → tArgs c fs σ H Q'
  | [], _, _, _, _, h, q => q _ _ h
  | f :: fs, _, _, _, _, h, q => T.mono h fun _ _ h2 => tArgs_mono h2 fun vs H h3 => q _ H h3
theorem SJ.perm {S : S0} {tm tm' : List Pr} {σ : L2.St} {H : Hp} (p : tm.Perm tm') (j : SJ c S tm σ H) : SJ c S tm' σ H := j.with (j.jt.perm (List.Perm.append_left _ (List.Perm.append_right _ p)))
theorem post_args : ∀ (fs : List EM) {g : List D → EM} {S : S0} {tm tm0 : List Pr} {σ : L2.St} {H : Hp} {Q : VK}, SJ c S tm σ H → post c (argsM fs g S) tm0 σ Q →
    tArgs c fs σ H (fun vs H1 => ∃ ds S', vs.length = ds.length ∧ ds.length = fs.length ∧ SJ c S' (vs.zip ds ++ tm) σ H1 ∧ post c (g ds S') tm0 σ Q)
  | [], _, S, _, _, _, _, _, j, p => ⟨[], S, rfl, rfl, j, p⟩
  | f :: fs, g, S, tm, tm0, σ, H, Q, j, p => by
    refine (post_bind (fa := f) j p).mono fun v H1 ⟨d, S1, j1, p1⟩ => ?_
    refine tArgs_mono (post_args fs j1 p1) fun vs H2 ⟨ds, S2, e1, e2, j2, p2⟩ => ?_
    exact ⟨d :: ds, S2, by simp [e1], by simp [e2], j2.perm perm_take, p2⟩
theorem wa_nil : PA X [] (tArgs c []) := pa_nil
theorem wa_cons {e : Expr} {es : List Expr} {f : EM} {fs : List EM} (h : PE X e (T c f)) (hr : PA X es (tArgs c fs)) (hs : starEach (e :: es) X.env = (false, eval e X.env) :: starEach es X.env := by rfl) : PA X (e :: es) (tArgs c (f :: fs)) := pa_cons h hr hs
def CallS (K : PySem.W.Frag) (r : List V → Hp → VK → Prop) (op : List D → Option D) : Prop := ∀ H (R : List Pr) vs ds d (Q : VK), vs.length = ds.length → op ds = some d → Joint K H (vs.zip ds ++ R) → (∀ v H', Joint K H' ((v, d) :: R) → Q v H') → r vs H Q
def cbM (op : List D → Option D) (fs : List EM) : EM := argsM fs fun ds => optM (op ds)
theorem t_cb {r : List V → Hp → VK → Prop} {op : List D → Option D} {fs : List EM} {σ : L2.St} {H : Hp} {Q : VK} (hs : CallS c.K r op) (h : T c (cbM op fs) σ H Q) : tCB r (tArgs c fs) σ H Q := by
  obtain ⟨S, tm, j, p⟩ := h
  refine tArgs_mono (post_args fs j p) fun vs H1 ⟨ds, S1, e1, e2, j1, p1⟩ => ?_
  obtain ⟨d, e, q⟩ := post_opt p1
  refine hs H1 (slotL σ S1 ++ (tm ++ c.rs)) vs ds d Q e1 e (j1.jt.perm ?_) fun v H' k => q v H' (j1.put k)
  rw [List.append_assoc]
  exact perm_sw
variable {x : Str} {id ty : String} {e : Expr} {es : List Expr} {fs : List EM} {r : List V → Hp → VK → Prop} {op : List D → Option D} {p pos : Pos}
theorem w_callB (hc : CallR X (.builtin id) r) (hs : CallS c.K r op) (hg : Gl X x) (hm : X.mg x = none) (hv : bootBuiltins x = some (.builtin id)) (ha : PA X (e :: es) (tArgs c fs)) (hn : x ≠ "__name__" := by decide) (hdb : (x == ("__debug__" : Str)) = false := by decide)
    (he : starEach (e :: es) X.env = (false, eval e X.env) :: starEach es X.env := by rfl) (hpl : (backTo pos (starEach es X.env)).any (·.1) = false := by rfl) : PE X (.Call (.Name x p) (e :: es) [] pos) (T c (cbM op fs)) :=
  pe_mono (pe_callB hc hg hm hv ha hn hdb he hpl) fun _ _ _ h => t_cb hs h
theorem w_callTy (hc : CallR X (.type ty) r) (hs : CallS c.K r op) (hg : Gl X x) (hm : X.mg x = none) (hv : bootBuiltins x = some (.type ty)) (ha : PA X (e :: es) (tArgs c fs)) (hn : x ≠ "__name__" := by decide) (hdb : (x == ("__debug__" : Str)) = false := by decide)
    (he : starEach (e :: es) X.env = (false, eval e X.env) :: starEach es X.env := by rfl) (hpl : (backTo pos (starEach es X.env)).any (·.1) = false := by rfl) : PE X (.Call (.Name x p) (e :: es) [] pos) (T c (cbM op fs)) :=
  pe_mono (pe_callTy hc hg hm hv ha hn hdb he hpl) fun _ _ _ h => t_cb hs h
def tupM (fs : List EM) : EM := argsM fs fun ds => retM (.tup ds)
def lstM (fs : List EM) : EM := argsM fs fun ds => retM (.lst true ds)
theorem w_tup {k} (ha : PA X es (tArgs c fs)) (hl : fs.length ≤ 1000 := by decide) : PE X (.Tuple es k pos) (T c (tupM fs)) := pe_mono (pe_tup ha) fun σ H Q h => by
  obtain ⟨S, tm, j, p⟩ := h
  refine tArgs_mono (post_args fs j p) fun vs H1 ⟨ds, S1, e1, e2, j1, p1⟩ => ⟨Nat.le_trans (by omega : vs.length ≤ 1000) (by decide), fun q hq => p1 _ _ (j1.put (Joint.tup e1 (j1.jt.perm ?_) hq))⟩
  rw [List.append_assoc]
  exact perm_sw
theorem w_lst (ha : PA X es (tArgs c fs)) (hl : fs.length ≤ 1000 := by decide) : PE X (.List es pos) (T c (lstM fs)) := pe_mono (pe_lst ha) fun σ H Q h => by
  obtain ⟨S, tm, j, p⟩ := h
  refine tArgs_mono (post_args fs j p) fun vs H1 ⟨ds, S1, e1, e2, j1, p1⟩ => ⟨Nat.le_trans (by omega : vs.length ≤ 1000) (by decide), fun q hq => p1 _ _ (j1.put (Joint.lst e1 (j1.jt.perm ?_) hq))⟩
  rw [List.append_assoc]
  exact perm_sw
end
inductive Fl where
  | nx | rt (d : D) | bk | ct | ex (x : Xn)
abbrev SM := S0 → Option (Fl × S0)
def postS (c : Cfg) (o : Option (Fl × S0)) (tm : List Pr) (E : Ends) : Prop := match o with
  | some (.nx, S) => ∀ σ H, SJ c S tm σ H → E.nx σ H
  | some (.rt d, S) => ∀ v σ H, SJ c S ((v, d) :: tm) σ H → E.rt v H
  | some (.bk, S) => ∀ σ H, SJ c S tm σ H → E.bk σ H
  | some (.ct, S) => ∀ σ H, SJ c S tm σ H → E.ct σ H
  | some (.ex x, S) => ∀ cls dd σ H, XJ c x S cls dd σ H → c.W cls dd σ H
  | none => False
def U (c : Cfg) (f : SM) : TS := fun E σ H => ∃ S tm, SJ c S tm σ H ∧ postS c (f S) tm E
def seqM (f g : SM) : SM := fun S => match f S with
  | some (.nx, S') => g S'
  | o => o
def skipM : SM := fun S => some (.nx, S)
def failM : SM := fun _ => none
def raiseM (x f : Str) (fe : EM) : SM := fun S => match fe S with
  | some (.ok d, S') => some (.ex ⟨x, [(f, d)]⟩, S')
  | some (.ex y, S') => some (.ex y, S')
  | none => none
def raise0M (x : Str) : SM := fun S => some (.ex ⟨x, []⟩, S)
def bindS (fa : EM) (g : D → SM) : SM := fun S => match fa S with
  | some (.ok d, S') => g d S'
  | some (.ex x, S') => some (.ex x, S')
  | none => none
section
variable {c : Cfg} {X : Cx} {S : S0} {tm tm0 : List Pr} {σ : L2.St} {H : Hp} {E : Ends} {fa fe : EM} {f g : SM} {st : Stmt} {sts : List Stmt} {e : Expr} {pos : Pos}
theorem post_bindS {g : D → SM} (j : SJ c S tm σ H) (p : postS c (bindS fa g S) tm0 E) : T c fa σ H (fun v H1 => ∃ d S', SJ c S' ((v, d) :: tm) σ H1 ∧ postS c (g d S') tm0 E) := by
  refine ⟨S, tm, j, ?_⟩
  unfold bindS at p
  cases h : fa S with
  | none => rw [h] at p; exact p.elim
  | some o =>
    obtain ⟨o, S'⟩ := o
    cases o with
    | ok d => rw [h] at p; exact fun v H' j' => ⟨d, S', j', p⟩
    | ex x => rw [h] at p; exact fun cls dd H' xj => p cls dd σ H' xj
theorem u_seq (h : U c (seqM f g) E σ H) : tSeq (U c f) (U c g) E σ H := by
  obtain ⟨S, tm, j, p⟩ := h
  refine ⟨S, tm, j, ?_⟩
  unfold seqM at p
  cases h : f S with
  | none => rw [h] at p; exact p.elim
  | some o =>
    obtain ⟨o, S'⟩ := o
    rw [h] at p
    cases o with
    | nx => exact fun σ' H' j' => ⟨S', tm, j', p⟩
    | rt d => exact p
    | bk => exact p
    | ct => exact p
    | ex x => exact p
theorem ws_cons (h1 : PS X st (U c f)) (h2 : PSs X sts (U c g)) : PSs X (st :: sts) (U c (seqM f g)) := pss_mono (pss_cons h1 h2) fun _ _ _ h => u_seq h
theorem ws_one (h1 : PS X st (U c f)) : PSs X [st] (U c f) := pss_one h1
theorem ws_nil : PSs X [] (U c skipM) := pss_mono pss_nil fun E σ H h => let ⟨S, tm, j, p⟩ := h; p σ H j
def retS (fe : EM) : SM := bindS fe fun d S => some (.rt d, S)
theorem w_ret (he : PE X e (T c fe)) : PS X (.Return (some e) pos) (U c (retS fe)) := ps_mono (ps_ret he) fun E σ H h => by
  obtain ⟨S, tm, j, p⟩ := h
  exact (post_bindS j p).mono fun v H1 ⟨d, S', j', p'⟩ => p' v σ H1 j'
def exprS (fe : EM) : SM := bindS fe fun _ S => some (.nx, S)
theorem w_expr (he : PE X e (T c fe)) (hs : swapsWith e none pos.line X.env = pure false := by rfl) : PS X (.Expr e pos) (U c (exprS fe)) := ps_mono (ps_expr he hs) fun E σ H h => by
  obtain ⟨S, tm, j, p⟩ := h
  exact (post_bindS j p).mono fun v H1 ⟨d, S', j', p'⟩ => p' σ H1 j'.drop
abbrev GM := D → S0 → Option S0
def UG (c : Cfg) (g : GM) : TG := fun v σ H Q => ∃ d S tm, SJ c S ((v, d) :: tm) σ H ∧ match g d S with
  | some S' => ∀ σ' H', SJ c S' tm σ' H' → Q σ' H'
  | none => False
abbrev GMs := List D → S0 → Option S0
def UGs (c : Cfg) (g : GMs) : TGs := fun vs σ H Q => ∃ ds S tm, vs.length = ds.length ∧ SJ c S (vs.zip ds ++ tm) σ H ∧ match g ds S with
  | some S' => ∀ σ' H', SJ c S' tm σ' H' → Q σ' H'
  | none => False
theorem pg_mono {t : Expr} {g g' : TG} (h : PG X t g) (hi : ∀ v σ H Q, g' v σ H Q → g v σ H Q) : PG X t g' := by
  constructor
  intro pins s σ H v u Q I r w
  exact h.run pins s σ H v u Q I r (hi v σ H Q w)
theorem pgs_mono {t : List Expr} {g g' : TGs} (h : PGs X t g) (hi : ∀ v σ H Q, g' v σ H Q → g v σ H Q) : PGs X t g' := by
  constructor
  intro pins s σ H v u Q I r w
  exact h.run pins s σ H v u Q I r (hi v σ H Q w)
def gSetM (i : Nat) : GM := fun d S => if i < S.length then some (S.set i d) else none
theorem SJ.setSlot {i : Nat} {v : V} {d : D} (j : SJ c S ((v, d) :: tm) σ H) (hi : i < S.length) (hp : c.PV[i]? = some none) : SJ c (S.set i d) tm (σ.set i (some v)) H := by
  obtain ⟨Z, v0, d0, p1, p2⟩ := slot_set hi j.len
  refine ⟨by rw [List.length_set, List.length_set]; exact j.len, fun n u h hn => ?_, fun n u h => ?_, by rw [List.length_set]; exact j.lp, ?_⟩
  · by_cases hni : n = i
    · subst hni
      exact ⟨v, List.getElem?_set_self (by rw [j.len]; exact hi)⟩
    · rw [List.getElem?_set_ne (Ne.symm hni)] at h ⊢
      exact j.set n u h hn
  · have hni : n ≠ i := fun e => by rw [e, hp] at h; cases h
    rw [List.getElem?_set_ne (Ne.symm hni)]
    exact j.pv n u h
  · have k := j.take.perm (List.Perm.cons _ (List.Perm.append_right _ p1))
    have k2 : Joint c.K H ((v, d) :: (Z ++ (tm ++ c.rs))) := (k.perm (List.Perm.swap _ _ _)).drop
    exact k2.perm (List.Perm.append_right _ (p2 v d).symm)
theorem wg_name {i : Nat} {x : Str} (hN : X.N.Nodup) (hi : X.N[i]? = some x) (hx : Loc X.env.scope x) (hp : c.PV[i]? = some none) (hf : X.fn x = true ∨ X.env.scope.names.lookup x = some .local := by first | exact .inl rfl | exact .inr rfl | assumption) : PG X (.Name x pos) (UG c (gSetM i)) :=
  pg_mono (pg_name hN hi hx hf) fun v σ H Q h => by
    obtain ⟨d, S, tm, j, p⟩ := h
    unfold gSetM at p
    split at p
    · rename_i heq
      split at heq
      · cases heq
        exact p _ _ (j.setSlot (by assumption) hp)
      · cases heq
    · exact p.elim
def gNilM : GMs := fun ds S => match ds with
  | [] => some S
  | _ => none
def gConsM (g : GM) (gs : GMs) : GMs := fun ds S => match ds with
  | d :: r => (g d S).bind fun S' => gs r S'
  | [] => none
theorem wgs_nil : PGs X [] (UGs c gNilM) := pgs_mono pgs_nil fun vs σ H Q h => by
  obtain ⟨ds, S, tm, hl, j, p⟩ := h
  cases ds with
  | nil =>
    cases vs with
    | nil => exact ⟨rfl, p σ H j⟩
    | cons _ _ => simp at hl
  | cons _ _ => exact p.elim
theorem wgs_cons {t : Expr} {ts : List Expr} {g : GM} {gs : GMs} (h1 : PG X t (UG c g)) (h2 : PGs X ts (UGs c gs)) (hs : (assignEach (t :: ts) X.env).map (·.2) = assign t X.env :: (assignEach ts X.env).map (·.2) := by rfl) : PGs X (t :: ts) (UGs c (gConsM g gs)) := pgs_mono (pgs_cons h1 h2 hs) fun vs σ H Q h => by
  obtain ⟨ds, S, tm, hl, j, p⟩ := h
  cases ds with
  | nil => exact p.elim
  | cons d r =>
    cases vs with
    | nil => simp at hl
    | cons v r' =>
      refine ⟨v, r', rfl, d, S, r'.zip r ++ tm, j, ?_⟩
      have p : match (g d S).bind fun S' => gs r S' with | some S' => ∀ σ' H', SJ c S' tm σ' H' → Q σ' H' | none => False := p
      cases hg : g d S with
      | none => rw [hg] at p; exact p.elim
      | some S' =>
        rw [hg] at p
        exact fun σ' H' j' => ⟨r, S', tm, by simpa using hl, j', p⟩
end
end WF
namespace WF
open PySem PySem.Spec PyProof.Rows L2
section
variable {c : Cfg} {X : Cx} {S : S0} {tm tm0 : List Pr} {σ : L2.St} {H : Hp} {E : Ends} {fa fb fc fe : EM} {f g : SM} {st : Stmt} {sts ss2 : List Stmt} {e a b : Expr} {pos : Pos}
def asgM (fe : EM) (g : GM) : SM := bindS fe fun d S => (g d S).map fun S' => (Fl.nx, S')
theorem w_asg {t : Expr} {g : GM} (he : PE X e (T c fe)) (hg : PG X t (UG c g)) (hs : swapsWithSole [t] e pos.line X.env = pure false := by rfl) (hw : swappedStores [t] e X.env = pure none := by rfl) (h1 : List.map (fun x => x.snd) (assignEach [t] X.env) = [assign t X.env] := by rfl) : PS X (.Assign [t] e pos) (U c (asgM fe g)) :=
  ps_mono (ps_asg he hg hs hw h1) fun E σ H h => by
    obtain ⟨S, tm, j, p⟩ := h
    refine (post_bindS j p).mono fun v H1 ⟨d, S', j', p'⟩ => ⟨d, S', tm, j', ?_⟩
    cases hg : g d S' with
    | none => rw [hg] at p'; exact p'
    | some S2 => rw [hg] at p'; exact p'
theorem w_set {i : Nat} {x : Str} {px : Pos} (he : PE X e (T c fe)) (hN : X.N.Nodup) (hi : X.N[i]? = some x) (hx : Loc X.env.scope x) (hp : c.PV[i]? = some none) (hs : swapsWith e (some (.Name x px)) pos.line X.env = pure false := by rfl) (hf : X.fn x = true ∨ X.env.scope.names.lookup x = some .local := by first | exact .inl rfl | exact .inr rfl | assumption) :
    PS X (.Assign [.Name x px] e pos) (U c (asgM fe (gSetM i))) :=
  ps_mono (ps_set hN hi hx he hs hf) fun E σ H h => by
    obtain ⟨S, tm, j, p⟩ := h
    refine (post_bindS j p).mono fun v H1 ⟨d, S', j', p'⟩ => ?_
    unfold gSetM at p'
    by_cases hl : i < S'.length
    · rw [if_pos hl] at p'
      exact p' _ _ (j'.setSlot hl hp)
    · rw [if_neg hl] at p'; exact p'.elim
def gTupM (n : Nat) (gs : GMs) : GM := fun d S => match d with
  | .tup ds => if ds.length = n then gs ds S else none
  | .lst _ ds => if ds.length = n then gs ds S else none
  | _ => none
theorem PG.or {t : Expr} {g g' : TG} (h : PG X t g) (h' : PG X t g') : PG X t (fun v σ H Q => g v σ H Q ∨ g' v σ H Q) :=
  ⟨fun pins s σ H v u Q I r w => w.elim (h.run pins s σ H v u Q I r) (h'.run pins s σ H v u Q I r)⟩
theorem wg_tup {es : List Expr} {k : Nat} {gs : GMs} {n : Nat} (hK : c.K = X.K) (hc : X.calm = true) (h : PGs X es (UGs c gs)) (hn : (assignEach es X.env).length = n := by rfl) (hst : (assignEach es X.env).findIdx? (·.1) = none := by rfl) : PG X (.Tuple es k pos) (UG c (gTupM n gs)) :=
  pg_mono (PG.or (pg_tup hc h hn hst) (pg_unl hc h hn hst)) fun v σ H Q h => by
    obtain ⟨d, S, tm, j, p⟩ := h
    unfold gTupM at p
    split at p
    · rename_i S' heq
      split at heq
      · rename_i ds
        split at heq
        · rename_i hlen
          obtain ⟨q, rfl⟩ := j.take.is_tup
          obtain ⟨vs, sq, hl, k⟩ := j.take.untup
          refine .inl ⟨q, vs, rfl, .inl (.inl sq), hl.trans hlen, ds, S, tm, hl, j.with ?_, ?_⟩
          · rw [List.append_assoc]
            exact k.perm perm_sw
          · rw [heq]; exact p
        · cases heq
      · rename_i o ds
        split at heq
        · rename_i hlen
          obtain ⟨q, rfl⟩ := j.take.is_lst
          obtain ⟨vs, sq, hl, k⟩ := j.take.unlst
          refine .inr ⟨q, vs, rfl, .inl (.inl sq), hl.trans hlen, ds, S, tm, hl, j.with ?_, ?_⟩
          · rw [List.append_assoc]
            exact k.perm perm_sw
          · rw [heq]; exact p
        · cases heq
      · cases heq
    · exact p.elim
def Tt (c : Cfg) (f : EM) : TT := tB (T c f)
theorem wt_val (h : PE X e (T c fe)) (he : ∀ whole, isTrue e X.env whole = (do let v ← whole; standAt e.pos; holding [v] (truthy v)) := by intro _; rfl) : PT X e (Tt c fe) := pt_val h he
def brM (d : D) (f g : EM) : EM := match d with
  | .bl true => f
  | .bl false => g
  | _ => fun _ => none
def brS (d : D) (f g : SM) : SM := match d with
  | .bl true => f
  | .bl false => g
  | _ => fun _ => none
def andM (fa fb : EM) : EM := bindM fa fun d => brM d fb (retM (.bl false))
def orM (fa fb : EM) : EM := bindM fa fun d => brM d (retM (.bl true)) fb
def notM (fa : EM) : EM := bindM fa fun d => brM d (retM (.bl false)) (retM (.bl true))
def ifM (fc fa fb : EM) : EM := bindM fc fun d => brM d fa fb
def ifS (fc : EM) (f g : SM) : SM := bindS fc fun d => brS d f g
theorem br_post {d : D} {v : V} {Q : VK} (j : SJ c S ((v, d) :: tm) σ H) (p : post c (brM d fa fb S) tm0 σ Q) : (v = .bl true ∧ post c (fa S) tm0 σ Q) ∨ (v = .bl false ∧ post c (fb S) tm0 σ Q) := by
  unfold brM at p
  split at p
  · exact .inl ⟨j.take.is_bl, p⟩
  · exact .inr ⟨j.take.is_bl, p⟩
  · exact p.elim
theorem br_postS {d : D} {v : V} (j : SJ c S ((v, d) :: tm) σ H) (p : postS c (brS d f g S) tm0 E) : (v = .bl true ∧ postS c (f S) tm0 E) ∨ (v = .bl false ∧ postS c (g S) tm0 E) := by
  unfold brS at p
  split at p
  · exact .inl ⟨j.take.is_bl, p⟩
  · exact .inr ⟨j.take.is_bl, p⟩
  · exact p.elim
theorem t_and {Q : Bool → Hp → Prop} (h : Tt c (andM fa fb) σ H Q) : tAnd (Tt c fa) (Tt c fb) σ H Q := by
  obtain ⟨S, tm, j, p⟩ := h
  refine (post_bind j p).mono fun v H1 ⟨d, S1, j1, p1⟩ => ?_
  rcases br_post j1 p1 with ⟨rfl, p2⟩ | ⟨rfl, p2⟩
  · exact ⟨true, rfl, S1, tm, j1.drop, p2⟩
  · obtain ⟨b, e, q⟩ := post_ret j1.drop (j_bl H1) p2
    cases e
    exact ⟨false, rfl, q⟩
theorem t_or {Q : Bool → Hp → Prop} (h : Tt c (orM fa fb) σ H Q) : tOr (Tt c fa) (Tt c fb) σ H Q := by
  obtain ⟨S, tm, j, p⟩ := h
  refine (post_bind j p).mono fun v H1 ⟨d, S1, j1, p1⟩ => ?_
  rcases br_post j1 p1 with ⟨rfl, p2⟩ | ⟨rfl, p2⟩
  · obtain ⟨b, e, q⟩ := post_ret j1.drop (j_bl H1) p2
    cases e
    exact ⟨true, rfl, q⟩
  · exact ⟨false, rfl, S1, tm, j1.drop, p2⟩
theorem pw_mono {t t' : TT} (h : PW X e t) (hi : ∀ σ H Q, t' σ H Q → t σ H Q) : PW X e t' := ⟨fun w pins s σ H Q I q => h.run w pins s σ H Q I (hi σ H Q q)⟩
variable {rest : List Expr}
theorem ww_and1 (ha : PT X a (Tt c fa)) : PW X (.BoolOp .And [a] pos) (Tt c fa) := pw_and1 ha
theorem ww_or1 (ha : PT X a (Tt c fa)) : PW X (.BoolOp .Or [a] pos) (Tt c fa) := pw_or1 ha
theorem ww_and (ha : PT X a (Tt c fa)) (hb : PW X (.BoolOp .And (b :: rest) pos) (Tt c fb)) : PW X (.BoolOp .And (a :: b :: rest) pos) (Tt c (andM fa fb)) := pw_mono (pw_and ha hb) fun _ _ _ h => t_and h
theorem ww_or (ha : PT X a (Tt c fa)) (hb : PW X (.BoolOp .Or (b :: rest) pos) (Tt c fb)) : PW X (.BoolOp .Or (a :: b :: rest) pos) (Tt c (orM fa fb)) := pw_mono (pw_or ha hb) fun _ _ _ h => t_or h
theorem wt_w (h : PW X e (Tt c fe)) : PT X e (Tt c fe) := h.pt
theorem wt_not (ha : PT X a (Tt c fa)) : PT X (.UnaryOp .Not a pos) (Tt c (notM fa)) := pt_mono (pt_not ha) fun σ H Q h => by
  obtain ⟨S, tm, j, p⟩ := h
  refine (post_bind j p).mono fun v H1 ⟨d, S1, j1, p1⟩ => ?_
  rcases br_post j1 p1 with ⟨rfl, p2⟩ | ⟨rfl, p2⟩
  · obtain ⟨b, e, q⟩ := post_ret j1.drop (j_bl H1) p2
    cases e
    exact ⟨true, rfl, q⟩
  · obtain ⟨b, e, q⟩ := post_ret j1.drop (j_bl H1) p2
    cases e
    exact ⟨false, rfl, q⟩
theorem w_one {op} (h : PE X a (T c fa)) : PE X (.BoolOp op [a] pos) (T c fa) := pe_one h
theorem w_and (ha : PE X a (T c fa)) (hb : PE X (.BoolOp .And (b :: rest) pos) (T c fb)) : PE X (.BoolOp .And (a :: b :: rest) pos) (T c (andM fa fb)) := pe_mono (pe_and ha hb) fun σ H Q h => by
  obtain ⟨S, tm, j, p⟩ := h
  refine (post_bind j p).mono fun v H1 ⟨d, S1, j1, p1⟩ => ?_
  rcases br_post j1 p1 with ⟨rfl, p2⟩ | ⟨rfl, p2⟩
  · exact ⟨true, rfl, S1, tm, j1.drop, p2⟩
  · exact ⟨false, rfl, post_ret j1.drop (j_bl H1) p2⟩
theorem w_or (ha : PE X a (T c fa)) (hb : PE X (.BoolOp .Or (b :: rest) pos) (T c fb)) : PE X (.BoolOp .Or (a :: b :: rest) pos) (T c (orM fa fb)) := pe_mono (pe_or ha hb) fun σ H Q h => by
  obtain ⟨S, tm, j, p⟩ := h
  refine (post_bind j p).mono fun v H1 ⟨d, S1, j1, p1⟩ => ?_
  rcases br_post j1 p1 with ⟨rfl, p2⟩ | ⟨rfl, p2⟩
  · exact ⟨true, rfl, post_ret j1.drop (j_bl H1) p2⟩
  · exact ⟨false, rfl, S1, tm, j1.drop, p2⟩
theorem w_ifE {ce : Expr} (hc : PT X ce (Tt c fc)) (ha : PE X a (T c fa)) (hb : PE X b (T c fb)) : PE X (.IfExp ce a b pos) (T c (ifM fc fa fb)) := pe_mono (pe_ifExp hc ha hb) fun σ H Q h => by
  obtain ⟨S, tm, j, p⟩ := h
  refine (post_bind j p).mono fun v H1 ⟨d, S1, j1, p1⟩ => ?_
  rcases br_post j1 p1 with ⟨rfl, p2⟩ | ⟨rfl, p2⟩
  · exact ⟨true, rfl, S1, tm, j1.drop, p2⟩
  · exact ⟨false, rfl, S1, tm, j1.drop, p2⟩
theorem w_if {ce : Expr} (hc : PT X ce (Tt c fc)) (ha : PSs X sts (U c f)) (hb : PSs X ss2 (U c g)) : PS X (.If ce sts ss2 pos) (U c (ifS fc f g)) := ps_mono (ps_if hc ha hb) fun E σ H h => by
  obtain ⟨S, tm, j, p⟩ := h
  refine (post_bindS j p).mono fun v H1 ⟨d, S1, j1, p1⟩ => ?_
  rcases br_postS j1 p1 with ⟨rfl, p2⟩ | ⟨rfl, p2⟩
  · exact ⟨true, rfl, S1, tm, j1.drop, p2⟩
  · exact ⟨false, rfl, S1, tm, j1.drop, p2⟩
end
end WF
namespace WF
open PySem PySem.Spec PyProof.Rows L2
abbrev Fn := List D → Option (Out × List D)
def XF (K : PySem.W.Frag) (x : Xn) (L : List Pr) (cls : Value) (dd : Option Addr) (H : Hp) : Prop :=
  ∃ fv : List Pr, cls = .ref (He.ga K x.C) ∧ fv.map Prod.snd = x.fs.map Prod.snd ∧ ((dd = none ∧ fv = []) ∨ ∃ dx, dd = some dx ∧ H dx = some (.xd ((x.fs.map Prod.fst).zip (fv.map Prod.fst)))) ∧ Joint K H (fv ++ L)
def spOf (K : PySem.W.Frag) (n : Nat) (m : Fn) : Sp := fun vs H Q E => vs.length = n ∧ ∃ ds rs, ds.length = n ∧ Joint K H (vs.zip ds ++ rs) ∧ match m ds with
  | some (.ok r, ds') => ds'.length = n ∧ ∀ v H', Joint K H' ((v, r) :: (vs.zip ds' ++ rs)) → Q v H'
  | some (.ex x, ds') => ds'.length = n ∧ ∀ cls dd H', XF K x (vs.zip ds' ++ rs) cls dd H' → E cls dd H'
  | none => False
inductive Ar where
  | v (f : EM)
  | s (i : Nat)
abbrev Av := Sum D Nat
def argsA : List Ar → (List Av → EM) → EM
  | [], g => g []
  | .v f :: r, g => bindM f fun d => argsA r fun ds => g (.inl d :: ds)
  | .s i :: r, g => fun S => match S[i]? with
    | some d => if isUn d then none else argsA r (fun ds => g (.inr i :: ds)) S
    | none => none
def tArgsA (c : Cfg) : List Ar → TA
  | [] => tNil
  | .v f :: r => tCons (T c f) (tArgsA c r)
  | .s i :: r => tCons (tVar i) (tArgsA c r)
inductive AvOk (σ : L2.St) : List Av → List V → List Pr → Prop where
  | nil : AvOk σ [] [] []
  | v {d v as vs L} : AvOk σ as vs L → AvOk σ (.inl d :: as) (v :: vs) ((v, d) :: L)
  | s {i v as vs L} : σ[i]? = some (some v) → AvOk σ as vs L → AvOk σ (.inr i :: as) (v :: vs) L
def takeA : List Av → S0 → Option (List D × S0)
  | [], S => some ([], S)
  | .inl d :: r, S => (takeA r S).map fun x => (d :: x.1, x.2)
  | .inr i :: r, S => match S[i]? with
    | some d => if isUn d then none else (takeA r (S.set i .un)).map fun x => (d :: x.1, x.2)
    | none => none
def putA : List Av → List D → S0 → S0
  | .inl _ :: r, _ :: ds, S => putA r ds S
  | .inr i :: r, d :: ds, S => (putA r ds S).set i d
  | _, _, S => S
def callM (m : Fn) (as : List Ar) : EM := argsA as fun av S => match takeA av S with
  | some (ds, S1) => match m ds with
    | some (o, ds') => if ds'.length = av.length then some (o, putA av ds' S1) else none
    | none => none
  | none => none
section
variable {c : Cfg} {X : Cx}
theorem tArgsA_mono : ∀ {fs : List Ar} {σ : L2.St} {H : Hp} {Q Q' : List V → Hp → Prop}, tArgsA c fs σ H Q → (∀ vs H, Q vs H → Q' vs H) → tArgsA c fs σ H Q'
  | [], _, _, _, _, h, q => q _ _ h
  | .v f :: fs, _, _, _, _, h, q => T.mono h fun _ _ h2 => tArgsA_mono h2 fun vs H h3 => q _ H h3
  | .s i :: fs, _, _, _, _, ⟨v, e, h⟩, q => ⟨v, e, tArgsA_mono h fun vs H h3 => q _ H h3⟩
theorem post_argsA : ∀ (fs : List Ar) {g : List Av → EM} {S : S0} {tm tm0 : List Pr} {σ : L2.St} {H : Hp} {Q : VK}, SJ c S tm σ H → post c (argsA fs g S) tm0 σ Q →
    tArgsA c fs σ H (fun vs H1 => ∃ as S' L, AvOk σ as vs L ∧ as.length = fs.length ∧ SJ c S' (L ++ tm) σ H1 ∧ post c (g as S') tm0 σ Q)
  | [], _, S, _, _, _, _, _, j, p => ⟨[], S, [], .nil, rfl, j, p⟩
  | .v f :: fs, g, S, tm, tm0, σ, H, Q, j, p => by
    refine (post_bind (fa := f) j p).mono fun v H1 ⟨d, S1, j1, p1⟩ => ?_
    refine tArgsA_mono (post_argsA fs j1 p1) fun vs H2 ⟨as, S2, L, a, al, j2, p2⟩ => ?_
    exact ⟨.inl d :: as, S2, _, .v a, by simp [al], j2.perm perm_take, p2⟩
  | .s i :: fs, g, S, tm, tm0, σ, H, Q, j, p => by
    unfold argsA at p
    split at p
    · rename_i d hd
      split at p
      · exact p.elim
      · rename_i hu
        obtain ⟨v, ev⟩ := j.set i d hd (isUn_ne (by simpa using hu))
        refine ⟨v, ev, tArgsA_mono (post_argsA fs j p) fun vs H2 ⟨as, S2, L, a, al, j2, p2⟩ => ?_⟩
        exact ⟨.inr i :: as, S2, L, .s ev a, by simp [al], j2, p2⟩
    · exact p.elim
structure SL (c : Cfg) (S : S0) (σ : L2.St) : Prop where
  len : σ.length = S.length
  set : ∀ (i : Nat) d, S[i]? = some d → d ≠ .un → ∃ v, σ[i]? = some (some v)
  pv : ∀ (i : Nat) o, c.PV[i]? = some (some o) → σ[i]? = some o
  lp : c.PV.length = σ.length
theorem SJ.sl {S : S0} {tm : List Pr} {σ : L2.St} {H : Hp} (j : SJ c S tm σ H) : SL c S σ := ⟨j.len, j.set, j.pv, j.lp⟩
theorem SL.sj {S : S0} {tm : List Pr} {σ : L2.St} {H : Hp} (l : SL c S σ) (j : Joint c.K H (slotL σ S ++ (tm ++ c.rs))) : SJ c S tm σ H := ⟨l.len, l.set, l.pv, l.lp, j⟩
theorem SL.upd {S : S0} {σ : L2.St} {i : Nat} {v : V} {d : D} (l : SL c S σ) (h : σ[i]? = some (some v)) : SL c (S.set i d) σ :=
  ⟨by rw [List.length_set]; exact l.len, fun n u h' hn => by
    by_cases hi : n = i
    · exact ⟨v, by rw [hi]; exact h⟩
    · rw [List.getElem?_set_ne (Ne.symm hi)] at h'
      exact l.set n u h' hn, l.pv, l.lp⟩
theorem take_ok : ∀ {as : List Av} {vs : List V} {L : List Pr} {S S1 : S0} {ds : List D} {σ : L2.St} {H : Hp} {R : List Pr}, AvOk σ as vs L → takeA as S = some (ds, S1) → SL c S σ → Joint c.K H (slotL σ S ++ (L ++ R)) →
    vs.length = ds.length ∧ as.length = ds.length ∧ SL c S1 σ ∧ Joint c.K H (vs.zip ds ++ (slotL σ S1 ++ R)) ∧
    ∀ ds' : List D, ds'.length = ds.length → SL c (putA as ds' S1) σ ∧ ∀ (H' : Hp) (R' : List Pr), Joint c.K H' (vs.zip ds' ++ (slotL σ S1 ++ R')) → Joint c.K H' (slotL σ (putA as ds' S1) ++ R')
  | _, _, _, S, _, _, σ, H, R, .nil, e, l, j => by
    simp only [takeA, Option.some.injEq, Prod.mk.injEq] at e
    obtain ⟨rfl, rfl⟩ := e
    refine ⟨rfl, rfl, l, j, fun ds' hd => ?_⟩
    have : ds' = [] := by cases ds' with | nil => rfl | cons _ _ => simp at hd
    subst this
    exact ⟨l, fun H' R' k => k⟩
  | .inl d :: as, v :: vs, _, S, S1, ds, σ, H, R, .v a, e, l, j => by
    simp only [takeA, Option.map_eq_some_iff] at e
    obtain ⟨⟨ds2, S2⟩, e2, e3⟩ := e
    simp only [Prod.mk.injEq] at e3
    obtain ⟨rfl, rfl⟩ := e3
    rename_i L
    have jj : Joint c.K H (slotL σ S ++ (L ++ ((v, d) :: R))) := j.perm (List.Perm.append_left _ (by
      show ((v, d) :: (L ++ R)).Perm (L ++ ((v, d) :: R))
      exact perm_take.symm))
    obtain ⟨h1, h2, h3, h4, h5⟩ := take_ok a e2 l jj
    refine ⟨by simp [h1], by simp [h2], h3, ?_, fun ds' hd => ?_⟩
    · refine h4.perm ?_
      show (vs.zip ds2 ++ (slotL σ S2 ++ (v, d) :: R)).Perm ((v, d) :: (vs.zip ds2 ++ (slotL σ S2 ++ R)))
      exact (List.Perm.append_left _ perm_take).trans perm_take
    · cases ds' with
      | nil => simp at hd
      | cons d' r =>
        obtain ⟨g1, g2⟩ := h5 r (by simpa using hd)
        exact ⟨g1, fun H' R' k => g2 H' R' (Joint.drop (x := (v, d')) k)⟩
  | .inr i :: as, v :: vs, L, S, S1, ds, σ, H, R, .s ev a, e, l, j => by
    unfold takeA at e
    split at e
    · rename_i d hd
      split at e
      · cases e
      · rename_i hu
        simp only [Option.map_eq_some_iff] at e
        obtain ⟨⟨ds2, S2⟩, e2, e3⟩ := e
        simp only [Prod.mk.injEq] at e3
        obtain ⟨rfl, rfl⟩ := e3
        obtain ⟨Z, p1, p2, _⟩ := slot_get ev hd l.len
        have jj : Joint c.K H (slotL σ (S.set i .un) ++ (L ++ ((v, d) :: R))) := by
          have k1 : Joint c.K H ((v, d) :: (Z ++ (L ++ R))) := j.perm (List.Perm.append_right _ p1)
          have k2 : Joint c.K H ((v, D.un) :: (v, d) :: (Z ++ (L ++ R))) := k1.un
          refine k2.perm ?_
          have q1 : ((v, D.un) :: (v, d) :: (Z ++ (L ++ R))).Perm ((v, D.un) :: (Z ++ (L ++ ((v, d) :: R)))) := List.Perm.cons _ ((perm_take.symm).trans (List.Perm.append_left _ perm_take.symm))
          exact q1.trans (List.Perm.append_right _ (p2 .un).symm)
        obtain ⟨h1, h2, h3, h4, h5⟩ := take_ok a e2 (l.upd ev) jj
        refine ⟨by simp [h1], by simp [h2], h3, ?_, fun ds' hd' => ?_⟩
        · refine h4.perm ?_
          show (vs.zip ds2 ++ (slotL σ S2 ++ (v, d) :: R)).Perm ((v, d) :: (vs.zip ds2 ++ (slotL σ S2 ++ R)))
          exact (List.Perm.append_left _ perm_take).trans perm_take
        · cases ds' with
          | nil => simp at hd'
          | cons d' r =>
            obtain ⟨g1, g2⟩ := h5 r (by simpa using hd')
            refine ⟨g1.upd ev, fun H' R' k => ?_⟩
            have hlt : i < (putA as r S2).length := by
              rw [← g1.len]
              exact (List.getElem?_eq_some_iff.mp ev).1
            obtain ⟨Z', q1, q2, _⟩ := slot_get ev (List.getElem?_eq_getElem hlt) g1.len
            have k1 : Joint c.K H' (slotL σ (putA as r S2) ++ ((v, d') :: R')) := g2 H' ((v, d') :: R') (k.perm ((perm_take.symm).trans (List.Perm.append_left _ perm_take.symm)))
            have k2 := k1.perm (List.Perm.append_right _ q1)
            have k3 : Joint c.K H' (Z' ++ ((v, d') :: R')) := Joint.drop k2
            have k4 : Joint c.K H' ((v, d') :: Z' ++ R') := k3.perm perm_take
            exact k4.perm (List.Perm.append_right _ (q2 d').symm)
    · cases e
theorem av_len : ∀ {as : List Av} {vs : List V} {L : List Pr} {σ : L2.St}, AvOk σ as vs L → as.length = vs.length
  | _, _, _, _, .nil => rfl
  | _, _, _, _, .v a => by simp [av_len a]
  | _, _, _, _, .s _ a => by simp [av_len a]
variable {k : Nat} {f : Addr} {fd : FuncData} {ps : List Str} {n : Nat} {m : Fn} {x : Str} {p pos : Pos} {e : Expr} {es : List Expr} {as : List Ar}
theorem t_call {σ : L2.St} {H : Hp} {Q : VK} (h : T c (callM m as) σ H Q) (hn : as.length = n) : tCallSD (spOf c.K n m) [] (WE c.W) (tArgsA c as) σ H Q := by
  obtain ⟨S, tm, j, p⟩ := h
  refine tArgsA_mono (post_argsA as j p) fun vs H1 ⟨av, S1, L, a, al, j1, p1⟩ => ?_
  split at p1
  · rename_i ds S2 ht
    have jj : Joint c.K H1 (slotL σ S1 ++ (L ++ (tm ++ c.rs))) := by
      have := j1.jt
      rwa [List.append_assoc] at this
    obtain ⟨h1, h2, h3, h4, h5⟩ := take_ok a ht j1.sl jj
    rw [List.append_nil]
    split at p1
    · rename_i o ds' hm
      split at p1
      · rename_i hlen
        obtain ⟨g1, g2⟩ := h5 ds' (by omega)
        have hn' : vs.length = n := by have := av_len a; omega
        refine ⟨hn', ds, _, by omega, h4, ?_⟩
        rw [hm]
        cases o with
        | ok d =>
          refine ⟨by omega, fun v H' k => p1 v H' (g1.sj ?_)⟩
          refine Joint.perm perm_take.symm ?_
          have k2 : Joint c.K H' (vs.zip ds' ++ (slotL σ S2 ++ ((v, d) :: (tm ++ c.rs)))) := k.perm ((perm_take.symm).trans (List.Perm.append_left _ perm_take.symm))
          exact (g2 H' _ k2).perm perm_take
        | ex y =>
          refine ⟨by omega, fun cls dd H' ⟨fv, x1, x2, x3, k⟩ => p1 cls dd H' ⟨fv, x1, x2, x3, g1.sj ?_⟩⟩
          have k2 : Joint c.K H' (vs.zip ds' ++ (slotL σ S2 ++ (fv ++ (tm ++ c.rs)))) := k.perm (perm_sw.trans (List.Perm.append_left _ perm_sw))
          have k3 := g2 H' _ k2
          have k4 : Joint c.K H' (tm ++ (slotL σ (putA av ds' S2) ++ (fv ++ c.rs))) := k3.perm ((List.Perm.append_left _ perm_sw).trans perm_sw)
          exact k4.dropL
      · exact p1.elim
    · exact p1.elim
  · exact p1.elim
theorem wA_nil : PA X [] (tArgsA c []) := pa_nil
theorem wA_v {g : EM} (h : PE X e (T c g)) (hr : PA X es (tArgsA c as)) (hs : starEach (e :: es) X.env = (false, eval e X.env) :: starEach es X.env := by rfl) : PA X (e :: es) (tArgsA c (.v g :: as)) := pa_cons h hr hs
theorem wA_s {i : Nat} (h : PE X e (tVar i)) (hr : PA X es (tArgsA c as)) (hs : starEach (e :: es) X.env = (false, eval e X.env) :: starEach es X.env := by rfl) : PA X (e :: es) (tArgsA c (.s i :: as)) := pa_cons h hr hs
theorem w_call (F : FnOk X.prog X.w X.K X.mg X.base (L2.CX X.prog X.w) k f fd ps (spOf c.K n m)) (hr : Room k X.A) (hg : Gl X x) (hm : X.mg x = some (.ref f)) (hk : PySem.W.keepIn X.K (.ref f) = true) (hb : Binds X.K fd ps []) (tk : Takes X c.W)
    (ha : PA X (e :: es) (tArgsA c as)) (hn : as.length = n := by rfl) (hdb : (x == ("__debug__" : Str)) = false := by decide) (he : starEach (e :: es) X.env = (false, eval e X.env) :: starEach es X.env := by rfl) (hpl : (backTo pos (starEach es X.env)).any (·.1) = false := by rfl) :
    PE X (.Call (.Name x p) (e :: es) [] pos) (T c (callM m as)) := pe_mono (pe_callSD F hr hg hm hk hb .nil (fun σ => passAt tk σ) ha hdb he hpl) fun _ _ _ h => t_call h hn
end
end WF
namespace WF
open PySem PySem.Spec PyProof.Rows L2
def maskM : List Bool → List D → List D
  | b :: bs, d :: ds => (if b then d else .un) :: maskM bs ds
  | _, _ => []
def defM (mask : List Bool) (N : Nat) (body : SM) : Fn := fun ds => match body (ds ++ List.replicate (N - mask.length) .un) with
  | some (.rt d, S) => some (.ok d, maskM mask S)
  | some (.nx, S) => some (.ok .non, maskM mask S)
  | some (.ex x, S) => some (.ex x, maskM mask S)
  | _ => none
def pvOf : List Bool → List V → List (Option (Option V))
  | b :: bs, v :: vs => (if b then some (some v) else none) :: pvOf bs vs
  | _, _ => []
section
variable {K : PySem.W.Frag} {H : Hp} {R : List Pr}
theorem Joint.uns : ∀ {k : Nat} {v : V} {A : List Pr}, Joint K H (A ++ R) → Joint K H ((A ++ List.replicate k (v, .un)) ++ R)
  | 0, v, A, j => by simpa using j
  | k + 1, v, A, j => by
    have q := (Joint.uns (k := k) (v := v) j).un (v := v)
    refine q.perm ?_
    rw [List.replicate_succ, List.append_assoc, List.append_assoc]
    show ((v, D.un) :: (A ++ (List.replicate k (v, D.un) ++ R))).Perm (A ++ ((v, D.un) :: (List.replicate k (v, D.un) ++ R)))
    exact perm_take.symm
theorem slotL_start : ∀ {vs : List V} {ds : List D} {k : Nat}, vs.length = ds.length → slotL (vs.map some ++ List.replicate k none) (ds ++ List.replicate k .un) = vs.zip ds ++ List.replicate k (.non, .un)
  | [], [], k, _ => by simp [slotL]
  | v :: vs, d :: ds, k, h => by
    have ih := slotL_start (vs := vs) (ds := ds) (k := k) (by simpa using h)
    unfold slotL at ih ⊢
    simp only [List.map_cons, List.cons_append, List.zip_cons_cons, Option.getD_some]
    rw [ih]
  | [], _ :: _, _, h => by simp at h
  | _ :: _, [], _, h => by simp at h
theorem maskM_le : ∀ {mask : List Bool} {S : S0}, (maskM mask S).length = mask.length → mask.length ≤ S.length
  | [], S, _ => Nat.zero_le _
  | b :: bs, d :: S, h => by simp [maskM] at h; simpa using maskM_le (mask := bs) (S := S) h
  | b :: bs, [], h => by simp [maskM] at h
theorem mask_ok : ∀ {R : List Pr} {mask : List Bool} {vs : List V} {σ : L2.St} {S : S0}, mask.length = vs.length → σ.length = S.length → vs.length ≤ S.length → (∀ (i : Nat) o, (pvOf mask vs)[i]? = some (some o) → σ[i]? = some o) → Joint K H (slotL σ S ++ R) → Joint K H (vs.zip (maskM mask S) ++ R)
  | R, [], [], σ, S, _, _, _, _, j => j.dropL
  | R, b :: bs, v :: vs, o :: σ, d :: S, h1, h2, h3, h4, j => by
    have ih := fun R (q : Joint K H (slotL σ S ++ R)) => mask_ok (R := R) (mask := bs) (vs := vs) (σ := σ) (S := S) (by simpa using h1) (by simpa using h2) (by simpa using h3) (fun i o h => by simpa using h4 (i + 1) o (by simpa [pvOf] using h)) q
    have j' : Joint K H ((o.getD .non, d) :: (slotL σ S ++ R)) := j
    cases b with
    | true =>
      have e : o = some v := by simpa using h4 0 (some v) rfl
      subst e
      have k := ih ((v, d) :: R) (j'.perm perm_take.symm)
      exact k.perm perm_take
    | false => exact (ih R j'.drop).un
  | _, [], _ :: _, _, _, h, _, _, _, _ => by simp at h
  | _, _ :: _, [], _, _, h, _, _, _, _ => by simp at h
  | _, _ :: _, _ :: _, _, [], _, _, h, _, _ => by simp at h
  | _, _ :: _, _ :: _, [], _ :: _, _, h, _, _, _ => by simp at h
theorem pvOf_get : ∀ {mask : List Bool} {vs : List V} {i : Nat} {o : Option V} {r : L2.St}, (pvOf mask vs)[i]? = some (some o) → (vs.map some ++ r)[i]? = some o
  | b :: bs, v :: vs, 0, o, r, h => by
    cases b with
    | true => simp [pvOf] at h; simp [h]
    | false => simp [pvOf] at h
  | b :: bs, v :: vs, i + 1, o, r, h => by
    have := pvOf_get (mask := bs) (vs := vs) (i := i) (o := o) (r := r) (by simpa [pvOf] using h)
    simpa using this
  | [], vs, i, o, r, h => by cases vs <;> simp [pvOf] at h
  | _ :: _, [], i, o, r, h => by simp [pvOf] at h
end
abbrev cfgOf (K : PySem.W.Frag) (mask : List Bool) (N : Nat) (vs : List V) (rs : List Pr) (E : XK) : Cfg := ⟨K, pvOf mask vs ++ List.replicate (N - mask.length) none, rs, fun cls d _ H => E cls d H⟩
theorem pvOf_len : ∀ {mask : List Bool} {vs : List V}, mask.length = vs.length → (pvOf mask vs).length = mask.length
  | [], [], _ => rfl
  | b :: bs, v :: vs, h => by simp [pvOf, pvOf_len (mask := bs) (vs := vs) (by simpa using h)]
  | [], _ :: _, h => by simp at h
  | _ :: _, [], h => by simp at h
theorem pv_split {mask : List Bool} {vs : List V} {k i : Nat} {o : Option V} (h : (pvOf mask vs ++ List.replicate k none)[i]? = some (some o)) : (pvOf mask vs)[i]? = some (some o) := by
  by_cases hi : i < (pvOf mask vs).length
  · rwa [List.getElem?_append_left hi] at h
  · rw [List.getElem?_append_right (by omega), List.getElem?_replicate] at h
    split at h <;> cases h
section
variable {P : Program} {w : World} {K : PySem.W.Frag} {mg : Str → Option Value} {base : Heap}
end
end WF
namespace WF
open PySem PySem.Spec PyProof.Rows L2
structure Iter (K : PySem.W.Frag) (J : It) (hold : List Pr) (ds : List D) : Prop where
  go : ∀ i H L, i < ds.length → Joint K H (hold ++ L) → J.go i H
  yld : ∀ i H L d x H', ds[i]? = some d → Joint K H (hold ++ L) → J.yld i H x H' → Joint K H' ((x, d) :: (hold ++ L))
  stop : ∀ H L, Joint K H (hold ++ L) → J.stop ds.length H
inductive IOut where
  | ok (ds : List D) (lent : List (Nat × D))
  | ex (x : Xn)
def lentL (σ : L2.St) (lent : List (Nat × D)) : List Pr := lent.map fun x => ((σ.getD x.1 none).getD .non, x.2)
def LentOk (σ : L2.St) (lent : List (Nat × D)) : Prop := ∀ x ∈ lent, ∃ v, σ[x.1]? = some (some v)
abbrev IM := S0 → Option (IOut × S0)
def postI (c : Cfg) (o : Option (IOut × S0)) (tm : List Pr) (σ : L2.St) (R : It → Hp → Prop) : Prop := match o with
  | some (.ok ds lent, S) => LentOk σ lent → ∀ J hold H, Iter c.K J (hold ++ lentL σ lent) ds → SJ c S (hold ++ (lentL σ lent ++ tm)) σ H → R J H
  | some (.ex x, S) => ∀ cls dd H, XJ c x S cls dd σ H → c.W cls dd σ H
  | none => False
def TIm (c : Cfg) (f : IM) : TI := fun σ H R => ∃ S tm, SJ c S tm σ H ∧ postI c (f S) tm σ R
def bindI (fa : EM) (g : D → IM) : IM := fun S => match fa S with
  | some (.ok d, S') => g d S'
  | some (.ex x, S') => some (.ex x, S')
  | none => none
def optI (o : Option (List D)) : IM := fun S => o.map fun ds => (.ok ds [], S)
section
variable {c : Cfg} {X : Cx} {S : S0} {tm tm0 : List Pr} {σ : L2.St} {H : Hp} {E : Ends} {fa fb fe : EM} {fi : IM} {g : GM} {f : SM} {st : Stmt} {sts : List Stmt} {e a b it tg : Expr} {pos : Pos}
theorem pi_mono {t t' : TI} (h : PI X tg it t) (hi : ∀ σ H R, t' σ H R → t σ H R) : PI X tg it t' := ⟨fun pins s σ H R I w => h.run pins s σ H R I (hi σ H R w)⟩
theorem post_bindI {g : D → IM} {R : It → Hp → Prop} (j : SJ c S tm σ H) (p : postI c (bindI fa g S) tm0 σ R) : T c fa σ H (fun v H1 => ∃ d S', SJ c S' ((v, d) :: tm) σ H1 ∧ postI c (g d S') tm0 σ R) := by
  refine ⟨S, tm, j, ?_⟩
  unfold bindI at p
  cases h : fa S with
  | none => rw [h] at p; exact p.elim
  | some o =>
    obtain ⟨o, S'⟩ := o
    cases o with
    | ok d => rw [h] at p; exact fun v H' j' => ⟨d, S', j', p⟩
    | ex x => rw [h] at p; exact p
theorem post_optI {o : Option (List D)} {R : It → Hp → Prop} (p : postI c (optI o S) tm σ R) : ∃ ds, o = some ds ∧ ∀ J hold H, Iter c.K J hold ds → SJ c S (hold ++ tm) σ H → R J H := by
  unfold optI at p
  cases o with
  | none => exact p.elim
  | some d => exact ⟨d, rfl, fun J hold H J1 j => p (fun x m => nomatch m) J hold H (by rw [show lentL σ [] = [] from rfl, List.append_nil]; exact J1) j⟩
def loopM (g : GM) (body : SM) : List D → SM
  | [], S => some (.nx, S)
  | d :: ds, S => match g d S with
    | none => none
    | some S1 => match body S1 with
      | some (.nx, S2) => loopM g body ds S2
      | some (.ct, S2) => loopM g body ds S2
      | some (.bk, S2) => some (.nx, S2)
      | o => o
def forM (fi : IM) (g : GM) (body : SM) : SM := fun S => match fi S with
  | some (.ok ds [], S') => loopM g body ds S'
  | some (.ex x, S') => some (.ex x, S')
  | _ => none
theorem SJ.dropM {A B : List Pr} (j : SJ c S (A ++ (B ++ tm)) σ H) : SJ c S (A ++ tm) σ H := by
  have j' : SJ c S (B ++ (A ++ tm)) σ H := j.perm perm_sw
  exact j'.dropL
theorem w_for (hp : PassesOwn (model X.prog X.w) X.A X.env X.xe) (hc : X.calm = true) (hi : PI X tg it (TIm c fi)) (hg : PG X tg (UG c g)) (hb : PSs X sts (U c f)) (hs : ∀ x, foldedSetIterable it X.env x = pure x := by intro _; rfl) : PS X (.For tg it sts [] pos) (U c (forM fi g f)) :=
  ps_mono (ps_for hp hc hi hg hb hs) fun E σ H h => by
    obtain ⟨S, tm, j, p⟩ := h
    refine ⟨S, tm, j, ?_⟩
    unfold forM at p
    cases hf : fi S with
    | none => rw [hf] at p; exact p.elim
    | some o =>
      obtain ⟨o, S1⟩ := o
      rw [hf] at p
      cases o with
      | ex x => exact fun cls dd H' xj => p cls dd σ H' xj
      | ok ds lent =>
        cases lent with
        | cons _ _ => exact p.elim
        | nil =>
        intro _ J hold H1 J1 j1
        rw [show lentL σ [] = [] from rfl, List.append_nil] at J1
        rw [show lentL σ [] = [] from rfl, List.nil_append] at j1
        refine ⟨fun i m σ H => m = ds.length - i ∧ i ≤ ds.length ∧ ∃ S, SJ c S (hold ++ tm) σ H ∧ postS c (loopM g f (ds.drop i) S) tm E, ⟨_, rfl, Nat.zero_le _, S1, j1, p⟩, ?_⟩
        rintro i m σ2 H2 ⟨rfl, hi, S2, j2, p2⟩
        have jh : Joint c.K H2 (hold ++ (slotL σ2 S2 ++ (tm ++ c.rs))) := j2.jt.perm (by rw [List.append_assoc]; exact perm_sw)
        by_cases hlt : i < ds.length
        · have hd : ds[i]? = some ds[i] := List.getElem?_eq_getElem hlt
          rw [List.drop_eq_getElem_cons hlt] at p2
          refine .inr ⟨J1.go i H2 _ hlt jh, fun σ' H' => ∃ S, SJ c S (hold ++ tm) σ' H' ∧ postS c (loopM g f (ds.drop (i + 1)) S) tm E, fun σ' H' ⟨S3, j3, p3⟩ => ⟨_, (by omega : ds.length - (i + 1) < ds.length - i), rfl, hlt, S3, j3, p3⟩, fun x H3 hy => ?_⟩
          have k := J1.yld i H2 _ _ _ _ hd jh hy
          refine ⟨ds[i], S2, hold ++ tm, j2.put (k.perm (List.Perm.cons _ (by rw [List.append_assoc]; exact perm_sw))), ?_⟩
          unfold loopM at p2
          cases hg : g ds[i] S2 with
          | none => rw [hg] at p2; exact p2.elim
          | some S3 =>
            rw [hg] at p2
            intro σ4 H4 j4
            refine ⟨S3, hold ++ tm, j4, ?_⟩
            simp only at p2
            cases hb : f S3 with
            | none => rw [hb] at p2; exact p2.elim
            | some o =>
              obtain ⟨fl, S5⟩ := o
              rw [hb] at p2
              cases fl with
              | nx => exact fun σ5 H5 j5 => ⟨S5, j5, p2⟩
              | ct => exact fun σ5 H5 j5 => ⟨S5, j5, p2⟩
              | bk => exact fun σ5 H5 j5 => p2 σ5 H5 j5.dropL
              | rt d => exact fun v σ5 H5 j5 => p2 v σ5 H5 (SJ.dropM (A := [(v, d)]) j5)
              | ex x => exact p2
        · have e : i = ds.length := by omega
          subst e
          rw [List.drop_length] at p2
          exact .inl ⟨J1.stop H2 _ jh, p2 σ2 H2 j2.dropL⟩
def itemsD : D → Option (List D)
  | .tup ds => some (D.frzs ds)
  | .lst _ ds => some (D.frzs ds)
  | _ => none
end
section
variable {K : PySem.W.Frag} {H : Hp} {R L : List Pr} {p : Addr} {vs : List V} {ds : List D}
mutual
theorem D.frz_frz : ∀ d : D, d.frz.frz = d.frz
  | .tup xs => by simp only [D.frz, D.frzs_frzs xs]
  | .exn _ _ xs => by simp only [D.frz, D.frzs_frzs xs]
  | .lst _ xs => by simp only [D.frz, D.frzs_frzs xs]
  | .dic _ _ xs => by simp only [D.frz, D.frzs_frzs xs]
  | .dtk _ _ xs => by simp only [D.frz, D.frzs_frzs xs]
  | .un => rfl
  | .non => rfl
  | .bl _ => rfl
  | .int _ => rfl
  | .str _ => rfl
  | .vl _ => rfl
  | .scr _ => rfl
  | .hld _ => rfl
  | .con _ => rfl
  | .tab _ => rfl
  | .obj _ _ _ xs => by simp only [D.frz, D.frzs_frzs xs]
theorem D.frzs_frzs : ∀ ds : List D, D.frzs (D.frzs ds) = D.frzs ds
  | [] => rfl
  | d :: ds => by simp only [D.frzs, D.frz_frz d, D.frzs_frzs ds]
end
theorem Reps.pure {G : Hp} {fp : List Addr} (r : Reps K G H L fp) : (∀ x ∈ L, x.2.frz = x.2) → fp = [] := by
  have ch : ∀ {C : List Pr} {ds : List D}, C.map Prod.snd = ds → D.frzs ds = ds → ∀ x ∈ C, x.2.frz = x.2 := fun {C ds} e h x m => by
    subst e
    rw [D.frzs_map, List.map_map] at h
    exact List.map_inj_left.mp h x m
  induction r with
  | nil => intro _; rfl
  | un _ ih => intro h; exact ih fun x m => h x (List.mem_cons_of_mem _ m)
  | non _ ih => intro h; exact ih fun x m => h x (List.mem_cons_of_mem _ m)
  | bl _ ih => intro h; exact ih fun x m => h x (List.mem_cons_of_mem _ m)
  | int _ ih => intro h; exact ih fun x m => h x (List.mem_cons_of_mem _ m)
  | str _ ih => intro h; exact ih fun x m => h x (List.mem_cons_of_mem _ m)
  | vl _ ih => intro h; exact ih fun x m => h x (List.mem_cons_of_mem _ m)
  | scr _ _ ih => intro h; exact ih fun x m => h x (List.mem_cons_of_mem _ m)
  | hld _ _ _ ih => intro h; have q := h _ List.mem_cons_self; cases q
  | con _ _ _ ih => intro h; exact ih fun x m => h x (List.mem_cons_of_mem _ m)
  | tab _ _ ih => intro h; have q := h _ List.mem_cons_self; cases q
  | of _ _ _ _ _ _ _ ih1 ih2 => intro h; exact ih2 fun x m => h x (List.mem_cons_of_mem _ m)
  | oo _ _ _ _ _ _ _ ih1 ih2 =>
    intro h
    have q := h _ List.mem_cons_self
    simp [D.frz] at q
  | tup a b e r1 r2 ih1 ih2 =>
    intro h
    have q := h _ List.mem_cons_self
    simp only [D.frz, D.tup.injEq] at q
    rw [ih1 (ch e q), ih2 fun x m => h x (List.mem_cons_of_mem _ m)]
    rfl
  | exn _ _ _ _ _ _ _ ih1 ih2 => intro h; exact ih2 fun x m => h x (List.mem_cons_of_mem _ m)
  | lf a b e r1 r2 ih1 ih2 => intro h; exact ih2 fun x m => h x (List.mem_cons_of_mem _ m)
  | lo a b e r1 r2 ih1 ih2 =>
    intro h
    have q := h _ List.mem_cons_self
    simp [D.frz] at q
  | kf a k b e r1 r2 ih1 ih2 => intro h; exact ih2 fun x m => h x (List.mem_cons_of_mem _ m)
  | ko a k b e r1 r2 ih1 ih2 =>
    intro h
    have q := h _ List.mem_cons_self
    simp [D.frz] at q
  | tf a k b e r1 r2 ih1 ih2 => intro h; exact ih2 fun x m => h x (List.mem_cons_of_mem _ m)
  | to a k b e r1 r2 ih1 ih2 =>
    intro h
    have q := h _ List.mem_cons_self
    simp [D.frz] at q
theorem reps_get {G : Hp} : ∀ {C : List Pr} {i : Nat} {x : Pr}, Reps K G H C [] → C[i]? = some x → Reps K G H [x] []
  | [], _, _, _, h => by simp at h
  | y :: C, 0, x, r, h => by
    obtain ⟨f1, f2, e, r1, r2⟩ := r.uncons
    obtain ⟨rfl, rfl⟩ := List.append_eq_nil_iff.mp e.symm
    simp at h; subst h
    exact r1
  | y :: C, i + 1, x, r, h => by
    obtain ⟨f1, f2, e, r1, r2⟩ := r.uncons
    obtain ⟨rfl, rfl⟩ := List.append_eq_nil_iff.mp e.symm
    exact reps_get r2 (by simpa using h)
theorem Joint.itemT (j : Joint K H ((.ref p, .tup ds) :: R)) (hf : D.frzs ds = ds) : ∃ vs, H p = some (.tup vs) ∧ vs.length = ds.length ∧ ∀ (i : Nat) x d, vs[i]? = some x → ds[i]? = some d → Joint K H ((x, d) :: (.ref p, .tup ds) :: R) := by
  obtain ⟨G, fp, g, r, n, z⟩ := j
  have r0 := r
  cases r with
  | @tup p C vs ds f L fp a b e r1 r2 =>
    have hc : f = [] := r1.pure fun x m => by
      subst e
      rw [D.frzs_map, List.map_map] at hf
      exact List.map_inj_left.mp hf x m
    subst hc b e
    refine ⟨_, g _ _ a, by simp, fun i x d h1 h2 => ⟨G, _, g, ?_, n, z⟩⟩
    refine Reps.append (L := [(x, d)]) (fp := []) (reps_get r1 (i := i) ?_) r0
    rw [List.getElem?_map] at h1 h2
    cases q : C[i]? with
    | none => rw [q] at h1; cases h1
    | some y => rw [q] at h1 h2; cases h1; cases h2; rfl
theorem Joint.itemL (j : Joint K H ((.ref p, .lst false ds) :: R)) : ∃ vs, H p = some (.lst vs) ∧ vs.length = ds.length ∧ ∀ (i : Nat) x d, vs[i]? = some x → ds[i]? = some d → Joint K H ((x, d) :: (.ref p, .lst false ds) :: R) := by
  obtain ⟨G, fp, g, r, n, z⟩ := j
  have r0 := r
  cases r with
  | @lf p C vs ds L fp a b e r1 r2 =>
    subst b e
    refine ⟨_, g _ _ a, by simp, fun i x d h1 h2 => ⟨G, _, g, ?_, n, z⟩⟩
    refine Reps.append (L := [(x, d)]) (fp := []) (reps_get r1 (i := i) ?_) r0
    rw [List.getElem?_map] at h1 h2
    cases q : C[i]? with
    | none => rw [q] at h1; cases h1
    | some y => rw [q] at h1 h2; cases h1; cases h2; rfl
theorem iter_list : Iter K (Itl K p) [(.ref p, .lst false ds)] ds where
  go := fun i H L hi j => by
    obtain ⟨vs, hp, hl, q⟩ := Joint.itemL j
    have sq : SqL K H p vs := .inl (.inl hp)
    exact ⟨vs, vs[i]'(by omega), sq, List.getElem?_eq_getElem _⟩
  yld := fun i H L d x H' hd j y => by
    obtain ⟨vs, hp, hl, q⟩ := Joint.itemL j
    have sq : SqL K H p vs := .inl (.inl hp)
    obtain ⟨rfl, y2⟩ := y
    exact q i x d (y2 vs sq) hd
  stop := fun H L j => by
    obtain ⟨vs, hp, hl, q⟩ := Joint.itemL j
    have sq : SqL K H p vs := .inl (.inl hp)
    exact ⟨vs, sq, by omega⟩
theorem iter_tup (hf : D.frzs ds = ds) : Iter K (Itt K p) [(.ref p, .tup ds)] ds where
  go := fun i H L hi j => by
    obtain ⟨vs, hp, hl, q⟩ := Joint.itemT j hf
    have sq : SqT K H p vs := .inl (.inl hp)
    exact ⟨vs, vs[i]'(by omega), sq, List.getElem?_eq_getElem _⟩
  yld := fun i H L d x H' hd j y => by
    obtain ⟨vs, hp, hl, q⟩ := Joint.itemT j hf
    have sq : SqT K H p vs := .inl (.inl hp)
    obtain ⟨rfl, y2⟩ := y
    exact q i x d (y2 vs sq) hd
  stop := fun H L j => by
    obtain ⟨vs, hp, hl, q⟩ := Joint.itemT j hf
    have sq : SqT K H p vs := .inl (.inl hp)
    exact ⟨vs, sq, by omega⟩
end
section
variable {c : Cfg} {X : Cx} {S : S0} {tm tm0 : List Pr} {σ : L2.St} {H : Hp} {fe : EM} {e tg : Expr} {pos : Pos}
theorem PI.or {t t' : TI} (h : PI X tg e t) (h' : PI X tg e t') : PI X tg e (fun σ H R => t σ H R ∨ t' σ H R) := ⟨fun pins s σ H R I w => w.elim (h.run pins s σ H R I) (h'.run pins s σ H R I)⟩
def seqI (fe : EM) : IM := bindI fe fun d => optI (itemsD d)
theorem SJ.frz {v : V} {d : D} (j : SJ c S ((v, d) :: tm) σ H) : SJ c S ((v, d.frz) :: tm) σ H := j.put j.take.freeze.drop
theorem wi_seq (hK : c.K = X.K) (he : PE X e (T c fe)) : PI X tg e (TIm c (seqI fe)) := pi_mono (PI.or (pi_list he) (pi_tup he)) fun σ H R h => by
  obtain ⟨S, tm, j, p⟩ := h
  have q := post_bindI j p
  cases hf : fe S with
  | none => simp only [seqI, bindI, hf] at p; exact p.elim
  | some o =>
    obtain ⟨o, S1⟩ := o
    cases o with
    | ex x => simp only [seqI, bindI, hf] at p; exact .inl ⟨S, tm, j, by rw [hf]; exact p⟩
    | ok d =>
      simp only [seqI, bindI, hf] at p
      obtain ⟨ds, e, p⟩ := post_optI p
      unfold itemsD at e
      split at e
      · rename_i xs
        cases e
        refine .inr ⟨S, tm, j, ?_⟩
        rw [hf]
        intro v H1 j1
        obtain ⟨q, rfl⟩ := j1.take.is_tup
        have j2 := j1.frz
        obtain ⟨vs, sq, _, _⟩ := j2.take.itemT (D.frzs_frzs xs)
        exact ⟨q, rfl, ⟨vs, .inl (.inl sq)⟩, p _ [(.ref q, .tup (D.frzs xs))] H1 (hK ▸ iter_tup (D.frzs_frzs xs)) j2⟩
      · rename_i b xs
        cases e
        refine .inl ⟨S, tm, j, ?_⟩
        rw [hf]
        intro v H1 j1
        obtain ⟨q, rfl⟩ := j1.take.is_lst
        have j2 := j1.frz
        obtain ⟨vs, sq, _, _⟩ := j2.take.itemL
        exact ⟨q, rfl, ⟨vs, .inl (.inl sq)⟩, p _ [(.ref q, .lst false (D.frzs xs))] H1 (hK ▸ iter_list) j2⟩
      · cases e
end
end WF
namespace WF
open PySem PySem.Spec PyProof.Rows L2
def JX (K : PySem.W.Frag) (H : Hp) (p : Addr) (L : List Pr) : Prop :=
  ∃ G fp, GSub G H ∧ Reps K G H L fp ∧ fp.Nodup ∧ (∀ a ∈ fp, G a = none) ∧ G p = none ∧ p ∉ fp
section
variable {K : PySem.W.Frag} {H H' : Hp} {L L' R : List Pr} {x : Pr} {p : Addr} {ds ds' : List D} {vs vs' : List V}
theorem JX.perm (q : L.Perm L') (j : JX K H p L) : JX K H p L' := by
  obtain ⟨G, fp, g, r, n, z, gp, np⟩ := j
  obtain ⟨fp', pp, r'⟩ := r.perm q
  exact ⟨G, fp', g, r', pp.nodup_iff.mp n, fun a h => z a (pp.mem_iff.mpr h), gp, fun m => np (pp.mem_iff.mpr m)⟩
theorem JX.drop (j : JX K H p (x :: L)) : JX K H p L := by
  obtain ⟨G, fp, g, r, n, z, gp, np⟩ := j
  obtain ⟨f1, f2, rfl, r1, r2⟩ := r.uncons
  exact ⟨G, f2, g, r2, (List.nodup_append.mp n).2.1, fun a h => z a (List.mem_append_right _ h), gp, fun m => np (List.mem_append_right _ m)⟩
theorem JX.dropL : ∀ {L1 : List Pr}, JX K H p (L1 ++ L) → JX K H p L
  | [], j => j
  | _ :: _, j => (JX.drop j).dropL
theorem Joint.openL (j : Joint K H ((.ref p, .lst true ds) :: R)) : ∃ vs, H p = some (.lst vs) ∧ vs.length = ds.length ∧ JX K H p (vs.zip ds ++ R) := by
  obtain ⟨G, fp, g, r, n, z⟩ := j
  cases r with
  | @lo p C vs ds f L fp a b e r1 r2 =>
    subst b e
    obtain ⟨n1, n2⟩ := List.nodup_cons.mp n
    refine ⟨_, a, by simp, G, _, g, ?_, n2, fun a m => z a (List.mem_cons_of_mem _ m), z p List.mem_cons_self, n1⟩
    rw [zip_map]
    exact r1.append r2
theorem JX.upd {o : HO} (j : JX K H p L) : JX K (upd H p o) p L := by
  obtain ⟨G, fp, g, r, n, z, gp, np⟩ := j
  have g' : GSub G (L2.upd H p o) := fun a u e => by
    rw [upd_ne (ne_of_none e gp)]
    exact g a u e
  exact ⟨G, fp, g', r.mono .refl fun a u m e => by
    rw [upd_ne (fun q => np (by rw [← q]; exact m))]
    exact e, n, z, gp, np⟩
theorem JX.close (hl : vs'.length = ds'.length) (j : JX K H p (vs'.zip ds' ++ R)) : Joint K (L2.upd H p (.lst vs')) ((.ref p, .lst true ds') :: R) := by
  obtain ⟨G, fp, g, r, n, z, gp, np⟩ := JX.upd (o := .lst vs') j
  obtain ⟨f1, f2, rfl, r1, r2⟩ := r.unappend
  exact ⟨G, p :: (f1 ++ f2), g, .lo upd_same (zip_fst hl) (zip_snd hl) r1 r2, List.nodup_cons.mpr ⟨np, n⟩, fun a m => by
    rcases List.mem_cons.mp m with rfl | m
    · exact gp
    · exact z a m⟩
theorem Joint.app {v : V} {d : D} (j : Joint K H ((.ref p, .lst true ds) :: (v, d) :: R)) : ∃ vs, H p = some (.lst vs) ∧ vs.length = ds.length ∧ Joint K (L2.upd H p (.lst (vs ++ [v]))) ((.ref p, .lst true (ds ++ [d])) :: R) := by
  obtain ⟨vs, h, hl, k⟩ := j.openL
  refine ⟨vs, h, hl, JX.close (by simp [hl]) ?_⟩
  rw [List.zip_append hl, List.append_assoc]
  exact k
end
end WF
namespace WF
open PySem PySem.Spec PyProof.Rows L2
def wipeS (S : S0) : List Nat → S0
  | [] => S
  | v :: vs => (wipeS S vs).set v .un
def backS (A : S0) : S0 → List Nat → S0
  | S, [] => S
  | S, v :: vs => backS A (S.set v (A.getD v .un)) vs
def tstM : Option EM → S0 → Option (Bool × S0)
  | none, S => some (true, S)
  | some f, S => match f S with
    | some (.ok (.bl b), S') => some (b, S')
    | _ => none
def compL (own : List Nat) (g : GM) (ft : Option EM) (fe : EM) : List D → S0 → List D → Option (List D × S0)
  | [], S, acc => some (acc, S)
  | d :: ds, S, acc => match g d S with
    | none => none
    | some S1 => match tstM ft S1 with
      | some (true, S2) => match fe S2 with
        | some (.ok y, S3) => if acc.length < 1000000 then compL own g ft fe ds (wipeS S3 own) (acc ++ [y]) else none
        | _ => none
      | some (false, S2) => compL own g ft fe ds (wipeS S2 own) acc
      | none => none
def restS (lent : List (Nat × D)) (S : S0) : S0 := match lent with
  | [] => S
  | x :: r => restS r (S.set x.1 x.2)
def compM (own : List Nat) (fi : IM) (g : GM) (ft : Option EM) (fe : EM) : EM := fun S => match fi S with
  | some (.ok ds lent, S1) => if own.all (fun k => decide (k < S1.length)) then match compL own g ft fe ds (wipeS S1 own) [] with
      | some (acc, S2) => some (.ok (.lst true acc), restS lent (backS S1 S2 own))
      | none => none
    else none
  | some (.ex x, S1) => some (.ex x, S1)
  | none => none
def Cfg.blk (c : Cfg) (PV : List (Option (Option V))) : Cfg := { c with PV := PV, W := fun _ _ _ _ => False }
def TTs (c : Cfg) : Option EM → TT
  | none => tYes
  | some f => Tt c f
section
variable {K : PySem.W.Frag} {H : Hp} {R : List Pr}
theorem wipeS_len (S : S0) : ∀ vs, (wipeS S vs).length = S.length
  | [] => rfl
  | v :: vs => by unfold wipeS; rw [List.length_set, wipeS_len S vs]
theorem backS_len (A : S0) : ∀ (S : S0) (vs : List Nat), (backS A S vs).length = S.length
  | S, [] => rfl
  | S, v :: vs => by unfold backS; rw [backS_len A, List.length_set]
theorem wipeS_out {S : S0} {i : Nat} : ∀ {vs : List Nat}, i ∉ vs → (wipeS S vs)[i]? = S[i]?
  | [], _ => rfl
  | v :: vs, h => by
    unfold wipeS
    rw [List.getElem?_set_ne (fun e => h (by simp [e]))]
    exact wipeS_out fun m => h (List.mem_cons_of_mem _ m)
theorem wipeS_in {S : S0} {i : Nat} {d : D} : ∀ {vs : List Nat}, i ∈ vs → (wipeS S vs)[i]? = some d → d = .un
  | v :: vs, h, e => by
    unfold wipeS at e
    by_cases hv : v = i
    · subst hv
      by_cases hl : v < (wipeS S vs).length
      · rw [List.getElem?_set_self hl] at e; exact (Option.some.inj e).symm
      · rw [List.getElem?_eq_none (by rw [List.length_set]; omega)] at e; cases e
    · rw [List.getElem?_set_ne hv] at e
      rcases List.mem_cons.mp h with q | q
      · exact (hv q.symm).elim
      · exact wipeS_in q e
theorem backS_out {A : S0} {i : Nat} : ∀ {vs : List Nat} {S : S0}, i ∉ vs → (backS A S vs)[i]? = S[i]?
  | [], _, _ => rfl
  | v :: vs, S, h => by
    unfold backS
    rw [backS_out (fun m => h (List.mem_cons_of_mem _ m)), List.getElem?_set_ne (fun e => h (by simp [e]))]
theorem backS_in {A : S0} {i : Nat} : ∀ {vs : List Nat} {S : S0}, i ∈ vs → i < S.length → (backS A S vs)[i]? = some (A.getD i .un)
  | v :: vs, S, h, hl => by
    unfold backS
    by_cases hm : i ∈ vs
    · exact backS_in hm (by rw [List.length_set]; exact hl)
    · have e : i = v := by
        rcases List.mem_cons.mp h with q | q
        · exact q
        · exact (hm q).elim
      subst e
      rw [backS_out hm, List.getElem?_set_self hl]
def svOf (σ : L2.St) (S : S0) (own : List Nat) : List Pr := own.map fun v => ((σ.getD v none).getD .non, S.getD v .un)
theorem slot_any : ∀ {σ : L2.St} {S : S0} {i : Nat}, i < S.length → σ.length = S.length → ∃ Z, (slotL σ S).Perm (((σ.getD i none).getD .non, S.getD i .un) :: Z) ∧ ∀ o d', (slotL (σ.set i o) (S.set i d')).Perm ((o.getD .non, d') :: Z)
  | o :: σ, e :: S, 0, _, _ => ⟨slotL σ S, .refl _, fun _ _ => .refl _⟩
  | o :: σ, e :: S, i + 1, hi, hl => by
    obtain ⟨Z, p1, p3⟩ := slot_any (σ := σ) (S := S) (i := i) (by simpa using hi) (by simpa using hl)
    have sw : ∀ {x y : Pr} {A : List Pr}, A.Perm (x :: Z) → (y :: A).Perm (x :: y :: Z) := fun p => (List.Perm.cons _ p).trans (List.Perm.swap _ _ _)
    refine ⟨(o.getD .non, e) :: Z, ?_, fun v' d' => sw (p3 v' d')⟩
    have q := sw (y := (o.getD .non, e)) p1
    simpa [slotL, List.getD_cons_succ] using q
  | [], [], _, h, _ => by simp at h
  | [], _ :: _, _, _, h => by simp at h
  | _ :: _, [], _, h, _ => by simp at h
theorem wipe_joint : ∀ {own : List Nat} {σ : L2.St} {S : S0} {R : List Pr}, own.Nodup → (∀ k ∈ own, k < S.length) → σ.length = S.length → Joint K H (slotL σ S ++ R) → Joint K H (slotL (wipe σ own) (wipeS S own) ++ (svOf σ S own ++ R))
  | [], σ, S, R, _, _, _, j => j
  | v :: vs, σ, S, R, hn, hk, hl, j => by
    have ih := wipe_joint (R := R) (List.nodup_cons.mp hn).2 (fun k m => hk k (List.mem_cons_of_mem _ m)) hl j
    have hlen : (wipe σ vs).length = (wipeS S vs).length := by rw [wipe_length, wipeS_len]; exact hl
    obtain ⟨Z, p1, p2⟩ := slot_any (σ := wipe σ vs) (S := wipeS S vs) (i := v) (by rw [wipeS_len]; exact hk v List.mem_cons_self) hlen
    have hv : v ∉ vs := (List.nodup_cons.mp hn).1
    have e1 : (wipe σ vs).getD v none = σ.getD v none := by rw [List.getD_eq_getElem?_getD, List.getD_eq_getElem?_getD, wipe_out hv]
    have e2 : (wipeS S vs).getD v .un = S.getD v .un := by rw [List.getD_eq_getElem?_getD, List.getD_eq_getElem?_getD, wipeS_out hv]
    rw [e1, e2] at p1
    have k1 := ih.perm (List.Perm.append_right _ p1)
    have k2 : Joint K H ((V.non, D.un) :: (Z ++ (svOf σ S (v :: vs) ++ R))) := by
      refine Joint.un ?_
      refine k1.perm ?_
      show (((σ.getD v none).getD .non, S.getD v .un) :: (Z ++ (svOf σ S vs ++ R))).Perm (Z ++ (((σ.getD v none).getD .non, S.getD v .un) :: (svOf σ S vs ++ R)))
      exact perm_take.symm
    exact k2.perm (List.Perm.append_right _ (p2 none .un).symm)
theorem back_joint : ∀ {own : List Nat} {σ : L2.St} {A S : S0} {R : List Pr}, own.Nodup → (∀ k ∈ own, k < S.length) → σ.length = S.length → Joint K H (slotL (wipe σ own) S ++ (svOf σ A own ++ R)) → Joint K H (slotL σ (backS A S own) ++ R)
  | [], σ, A, S, R, _, _, _, j => j
  | v :: vs, σ, A, S, R, hn, hk, hl, j => by
    have hv : v ∉ vs := (List.nodup_cons.mp hn).1
    have hlen : (wipe σ vs).length = S.length := by rw [wipe_length]; exact hl
    obtain ⟨Z, p1, p2⟩ := slot_any (σ := wipe σ vs) (S := S) (i := v) (hk v List.mem_cons_self) hlen
    have e1 : (wipe σ vs)[v]? = σ[v]? := wipe_out hv
    have q1 : (slotL ((wipe σ vs).set v none) S).Perm ((V.non, S.getD v .un) :: Z) := by
      have := p2 none (S.getD v .un)
      rwa [show S.set v (S.getD v .un) = S by
        rw [List.getD_eq_getElem?_getD, List.getElem?_eq_getElem (hk v List.mem_cons_self)]
        exact List.set_getElem_self _] at this
    have q2 : (slotL (wipe σ vs) (S.set v (A.getD v .un))).Perm (((σ.getD v none).getD .non, A.getD v .un) :: Z) := by
      have := p2 (σ.getD v none) (A.getD v .un)
      rwa [show (wipe σ vs).set v (σ.getD v none) = wipe σ vs by
        have hvl : v < (wipe σ vs).length := by rw [hlen]; exact hk v List.mem_cons_self
        have : σ.getD v none = (wipe σ vs)[v] := by
          rw [List.getD_eq_getElem?_getD, ← e1, List.getElem?_eq_getElem hvl]; rfl
        rw [this]
        exact List.set_getElem_self _] at this
    have k1 : Joint K H ((V.non, S.getD v .un) :: (Z ++ (svOf σ A (v :: vs) ++ R))) := j.perm (List.Perm.append_right _ q1)
    have k2 : Joint K H (((σ.getD v none).getD .non, A.getD v .un) :: (Z ++ (svOf σ A vs ++ R))) := k1.drop.perm perm_take
    have k3 := k2.perm (List.Perm.append_right _ q2.symm)
    exact back_joint (own := vs) (A := A) (S := S.set v (A.getD v .un)) (List.nodup_cons.mp hn).2 (fun k m => by rw [List.length_set]; exact hk k (List.mem_cons_of_mem _ m)) (by rw [List.length_set]; exact hl) k3
def pinB (σ : L2.St) : List Nat → List (Option (Option V))
  | [] => σ.map some
  | v :: vs => (pinB σ vs).set v none
theorem pinB_len (σ : L2.St) : ∀ vs, (pinB σ vs).length = σ.length
  | [] => by simp [pinB]
  | v :: vs => by unfold pinB; rw [List.length_set, pinB_len σ vs]
theorem pinB_in {σ : L2.St} {i : Nat} : ∀ {vs : List Nat}, i ∈ vs → i < σ.length → (pinB σ vs)[i]? = some none
  | v :: vs, h, hl => by
    unfold pinB
    by_cases hv : v = i
    · subst hv; exact List.getElem?_set_self (by rw [pinB_len]; exact hl)
    · rw [List.getElem?_set_ne hv]
      rcases List.mem_cons.mp h with q | q
      · exact (hv q.symm).elim
      · exact pinB_in q hl
theorem pinB_out {σ : L2.St} {i : Nat} : ∀ {vs : List Nat}, i ∉ vs → (pinB σ vs)[i]? = σ[i]?.map some
  | [], _ => by simp [pinB]
  | v :: vs, h => by
    unfold pinB
    rw [List.getElem?_set_ne (fun e => h (by simp [e]))]
    exact pinB_out fun m => h (List.mem_cons_of_mem _ m)
theorem wipe_in {σ : L2.St} {i : Nat} : ∀ {vs : List Nat}, i ∈ vs → i < σ.length → (wipe σ vs)[i]? = some none
  | v :: vs, h, hl => by
    unfold wipe
    by_cases hv : v = i
    · subst hv; exact List.getElem?_set_self (by rw [wipe_length]; exact hl)
    · rw [List.getElem?_set_ne hv]
      rcases List.mem_cons.mp h with q | q
      · exact (hv q.symm).elim
      · exact wipe_in q hl
end
section
variable {c : Cfg} {X : Cx} {S : S0} {tm tm0 : List Pr} {σ σ2 : L2.St} {H : Hp} {own : List Nat}
theorem SJ.wipeB {PV : List (Option (Option V))} (j : SJ (c.blk PV) S tm σ2 H) (hn : own.Nodup) (hk : ∀ k ∈ own, k < S.length) (hp : PV = pinB σ own) : wipe σ2 own = wipe σ own ∧ SJ (c.blk PV) (wipeS S own) tm (wipe σ own) H := by
  have hl : σ2.length = σ.length := by
    have := j.lp
    rw [show (c.blk PV).PV = PV from rfl, hp, pinB_len] at this
    exact this.symm
  have ew : wipe σ2 own = wipe σ own := by
    refine List.ext_getElem? fun i => ?_
    by_cases hi : i ∈ own
    · by_cases hlt : i < σ.length
      · rw [wipe_in hi hlt, wipe_in hi (by omega)]
      · rw [List.getElem?_eq_none (by rw [wipe_length]; omega), List.getElem?_eq_none (by rw [wipe_length]; omega)]
    · rw [wipe_out hi, wipe_out hi]
      by_cases hlt : i < σ.length
      · have h := j.pv i (σ[i]) (by
          rw [show (c.blk PV).PV = PV from rfl, hp, pinB_out hi, List.getElem?_eq_getElem hlt]; rfl)
        rw [h, List.getElem?_eq_getElem hlt]
      · rw [List.getElem?_eq_none (by omega), List.getElem?_eq_none (by omega)]
  refine ⟨ew, ?_⟩
  rw [← ew]
  refine ⟨by rw [wipe_length, wipeS_len]; exact j.len, fun i d h hu => ?_, fun i o h => ?_, by rw [wipe_length]; exact j.lp, ?_⟩
  · by_cases hi : i ∈ own
    · exact (hu (wipeS_in hi h)).elim
    · rw [wipeS_out hi] at h
      rw [wipe_out hi]
      exact j.set i d h hu
  · have hi : i ∉ own := fun hi => by
      have h : PV[i]? = some (some o) := h
      by_cases hlt : i < σ.length
      · rw [hp, pinB_in hi hlt] at h; cases h
      · rw [hp, List.getElem?_eq_none (by rw [pinB_len]; omega)] at h; cases h
    rw [wipe_out hi]
    exact j.pv i o h
  · have k := wipe_joint hn hk j.len j.jt
    exact (k.perm perm_sw).dropL
theorem lent_ok : ∀ {L : List (Nat × D)} {SB : S0} {R : List Pr}, LentOk σ L → SL c SB σ → Joint c.K H (slotL σ SB ++ (lentL σ L ++ R)) → SL c (restS L SB) σ ∧ Joint c.K H (slotL σ (restS L SB) ++ R)
  | [], SB, R, _, l, j => ⟨l, j⟩
  | (i, d) :: r, SB, R, lo, l, j => by
    obtain ⟨v, ev⟩ := lo (i, d) List.mem_cons_self
    have hlt : i < SB.length := by rw [← l.len]; exact (List.getElem?_eq_some_iff.mp ev).1
    obtain ⟨Z, p1, p2, _⟩ := slot_get ev (List.getElem?_eq_getElem hlt) l.len
    have ee : (σ.getD i none).getD .non = v := by rw [List.getD_eq_getElem?_getD, ev]; rfl
    have k1 : Joint c.K H (Z ++ (((v, d) :: lentL σ r) ++ R)) := by
      have q := j.perm (List.Perm.append_right _ p1)
      have q2 : Joint c.K H (Z ++ (lentL σ ((i, d) :: r) ++ R)) := Joint.drop q
      rwa [show lentL σ ((i, d) :: r) = (v, d) :: lentL σ r by unfold lentL; rw [List.map_cons, ee]] at q2
    have k2 : Joint c.K H (slotL σ (SB.set i d) ++ (lentL σ r ++ R)) := (k1.perm perm_take).perm (List.Perm.append_right _ (p2 d).symm)
    exact lent_ok (L := r) (SB := SB.set i d) (fun x m => lo x (List.mem_cons_of_mem _ m)) (l.upd ev) k2
theorem lc_read {fi : IM} {g : GM} {ft : Option EM} {fe : EM} {Q : VK} (hn : own.Nodup) (hpv : ∀ k ∈ own, (pinB σ own)[k]? = some none) (h : T c (compM own fi g ft fe) σ H Q) :
    tLc (TIm c fi) (UG (c.blk (pinB σ own)) g) (TTs (c.blk (pinB σ own)) ft) (T (c.blk (pinB σ own)) fe) own σ H Q := by
  obtain ⟨S, tm, j, p⟩ := h
  refine ⟨S, tm, j, ?_⟩
  unfold compM at p
  cases hf : fi S with
  | none => rw [hf] at p; exact p.elim
  | some o =>
    obtain ⟨o, S1⟩ := o
    rw [hf] at p
    cases o with
    | ex x => exact p
    | ok ds lent =>
      simp only at p
      split at p
      · rename_i hall
        have hk : ∀ k ∈ own, k < S1.length := fun k m => by
          have := List.all_eq_true.mp hall k m
          simpa using this
        cases hcl : compL own g ft fe ds (wipeS S1 own) [] with
        | none => rw [hcl] at p; exact p.elim
        | some r =>
          obtain ⟨accF, SF⟩ := r
          rw [hcl] at p
          intro lok J hold0 H1 J1 j1 DA hD
          generalize hhold : hold0 ++ lentL σ lent = hold at J1
          have j1 : SJ c S1 (hold ++ tm) σ H1 := by rw [← hhold, List.append_assoc]; exact j1
          let c' := c.blk (pinB σ own)
          let sv := svOf σ S1 own
          have j0 : SJ c' (wipeS S1 own) ((.ref DA, .lst true []) :: (hold ++ (sv ++ tm))) (wipe σ own) (upd H1 DA (.lst [])) := by
            refine ⟨by rw [wipe_length, wipeS_len]; exact j1.len, fun i d h hu => ?_, fun i o h => ?_, by rw [wipe_length]; exact pinB_len σ own, ?_⟩
            · by_cases hi : i ∈ own
              · exact (hu (wipeS_in hi h)).elim
              · rw [wipeS_out hi] at h
                rw [wipe_out hi]
                exact j1.set i d h hu
            · have hi : i ∉ own := fun hi => by
                have h : (pinB σ own)[i]? = some (some o) := h
                rw [hpv i hi] at h; cases h
              rw [wipe_out hi]
              have h : (pinB σ own)[i]? = some (some o) := h
              rw [pinB_out hi, Option.map_eq_some_iff] at h
              obtain ⟨a, ha, e⟩ := h
              cases e
              exact ha
            · have k := wipe_joint hn hk j1.len j1.jt
              have k2 : Joint c.K H1 (slotL (wipe σ own) (wipeS S1 own) ++ (hold ++ (sv ++ tm) ++ c.rs)) := k.perm (List.Perm.append_left _ (by
                rw [List.append_assoc, List.append_assoc hold, List.append_assoc]
                exact perm_sw))
              have k3 := Joint.lst (vs := []) (ds := []) (R := slotL (wipe σ own) (wipeS S1 own) ++ (hold ++ (sv ++ tm) ++ c.rs)) rfl k2 hD
              exact k3.perm perm_take.symm
          refine ⟨fun i m H => m = ds.length - i ∧ i ≤ ds.length ∧ ∃ S acc, SJ c' S ((.ref DA, .lst true acc) :: (hold ++ (sv ++ tm))) (wipe σ own) H ∧ compL own g ft fe (ds.drop i) S acc = some (accF, SF), ⟨_, rfl, Nat.zero_le _, _, _, j0, hcl⟩, ?_⟩
          rintro i m H2 ⟨rfl, hi2, S2, acc, j2, p2⟩
          have hkS : ∀ {S : S0} {tm : List Pr} {σ2 : L2.St} {H : Hp}, SJ c' S tm σ2 H → ∀ k ∈ own, k < S.length := fun {S tm σ2 H} q k m => by
            have e1 := q.lp
            rw [show c'.PV = pinB σ own from rfl, pinB_len] at e1
            rw [← q.len, ← e1, j1.len]
            exact hk k m
          have jh : Joint c.K H2 (hold ++ (slotL (wipe σ own) S2 ++ ((.ref DA, .lst true acc) :: (sv ++ tm) ++ c.rs))) := j2.jt.perm (by
            show (slotL (wipe σ own) S2 ++ ((V.ref DA, D.lst true acc) :: (hold ++ (sv ++ tm)) ++ c.rs)).Perm _
            have e1 : ((V.ref DA, D.lst true acc) :: (hold ++ (sv ++ tm)) ++ c.rs).Perm (hold ++ ((V.ref DA, D.lst true acc) :: (sv ++ tm) ++ c.rs)) := by
              rw [List.cons_append, List.cons_append, List.append_assoc]
              exact perm_take.symm
            exact (List.Perm.append_left _ e1).trans perm_sw)
          by_cases hlt : i < ds.length
          · have hd : ds[i]? = some ds[i] := List.getElem?_eq_getElem hlt
            rw [List.drop_eq_getElem_cons hlt] at p2
            refine .inr ⟨J1.go i H2 _ hlt jh, fun H' => ∃ S acc, SJ c' S ((.ref DA, .lst true acc) :: (hold ++ (sv ++ tm))) (wipe σ own) H' ∧ compL own g ft fe (ds.drop (i + 1)) S acc = some (accF, SF), fun H' ⟨S3, acc3, j3, p3⟩ => ⟨_, (by omega : ds.length - (i + 1) < ds.length - i), rfl, hlt, S3, acc3, j3, p3⟩, fun x H3 hy => ?_⟩
            have k := J1.yld i H2 _ _ _ _ hd jh hy
            refine ⟨ds[i], S2, (.ref DA, .lst true acc) :: (hold ++ (sv ++ tm)), j2.put (k.perm (List.Perm.cons _ ?_)), ?_⟩
            · refine perm_sw.trans (List.Perm.append_left _ ?_)
              show (hold ++ ((V.ref DA, D.lst true acc) :: ((sv ++ tm) ++ c.rs))).Perm ((V.ref DA, D.lst true acc) :: ((hold ++ (sv ++ tm)) ++ c.rs))
              rw [List.append_assoc hold]
              exact perm_take
            unfold compL at p2
            cases hg : g ds[i] S2 with
            | none => rw [hg] at p2; cases p2
            | some S3 =>
              rw [hg] at p2
              intro σ4 H4 j4
              refine ⟨(j4.wipeB hn (hkS j4) rfl).1, ?_⟩
              simp only at p2
              have after : ∀ {S5 : S0} {H5 : Hp} {acc' : List D}, SJ c' S5 ((.ref DA, .lst true acc') :: (hold ++ (sv ++ tm))) σ4 H5 → compL own g ft fe (ds.drop (i + 1)) (wipeS S5 own) acc' = some (accF, SF) → ∃ S acc, SJ c' S ((.ref DA, .lst true acc) :: (hold ++ (sv ++ tm))) (wipe σ own) H5 ∧ compL own g ft fe (ds.drop (i + 1)) S acc = some (accF, SF) :=
                fun {S5 H5 acc'} q e => ⟨wipeS S5 own, acc', (q.wipeB hn (hkS q) rfl).2, e⟩
              have elem : ∀ {S5 : S0} {H5 : Hp}, SJ c' S5 ((.ref DA, .lst true acc) :: (hold ++ (sv ++ tm))) σ4 H5 → (match fe S5 with
                  | some (.ok y, S6) => if acc.length < 1000000 then compL own g ft fe (ds.drop (i + 1)) (wipeS S6 own) (acc ++ [y]) else none
                  | _ => none) = some (accF, SF) → T c' fe σ4 H5 (fun y H6 => ∃ acc', H6 DA = some (.lst acc') ∧ acc'.length < sizeLine ∧ ∃ S acc, SJ c' S ((.ref DA, .lst true acc) :: (hold ++ (sv ++ tm))) (wipe σ own) (upd H6 DA (.lst (acc' ++ [y]))) ∧ compL own g ft fe (ds.drop (i + 1)) S acc = some (accF, SF)) := fun {S5 H5} q e => by
                refine ⟨S5, _, q, ?_⟩
                cases hfe : fe S5 with
                | none => rw [hfe] at e; cases e
                | some o =>
                  obtain ⟨o, S6⟩ := o
                  rw [hfe] at e
                  cases o with
                  | ex x => cases e
                  | ok y =>
                    simp only at e
                    split at e
                    · rename_i hsz
                      intro vy H6 j6
                      have j6' : Joint c.K H6 ((.ref DA, .lst true acc) :: ((vy, y) :: (slotL σ4 S6 ++ ((hold ++ (sv ++ tm)) ++ c.rs)))) := j6.take.perm ((List.Perm.cons _ perm_take).trans (List.Perm.swap _ _ _))
                      obtain ⟨vs, hD6, hl6, k6⟩ := j6'.app
                      refine ⟨vs, hD6, Nat.lt_trans (by omega : vs.length < 1000000) (by decide), ?_⟩
                      exact after (j6.drop.drop.put k6) e
                    · cases e
              cases hts : tstM ft S3 with
              | none => rw [hts] at p2; cases p2
              | some r =>
                obtain ⟨b, S5⟩ := r
                rw [hts] at p2
                cases ft with
                | none =>
                  simp only [tstM, Option.some.injEq, Prod.mk.injEq] at hts
                  obtain ⟨rfl, rfl⟩ := hts
                  simp only [TTs, tYes, if_true]
                  exact elem j4 p2
                | some f =>
                  simp only [tstM] at hts
                  refine ⟨S3, _, j4, ?_⟩
                  cases hfs : f S3 with
                  | none => rw [hfs] at hts; cases hts
                  | some o =>
                    rw [hfs] at hts
                    split at hts
                    · rename_i b' S5' heq
                      cases heq
                      cases hts
                      intro v H5 j5
                      refine ⟨b, j5.take.is_bl, ?_⟩
                      cases b with
                      | true =>
                        rw [if_pos rfl]
                        exact elem j5.drop p2
                      | false =>
                        rw [if_neg Bool.false_ne_true]
                        exact after j5.drop p2
                    · cases hts
          · have e : i = ds.length := by omega
            subst e
            rw [List.drop_length] at p2
            simp only [compL, Option.some.injEq, Prod.mk.injEq] at p2
            obtain ⟨rfl, rfl⟩ := p2
            refine .inl ⟨J1.stop H2 _ jh, p _ _ ?_⟩
            have hls : S1.length = S2.length := by
              have e1 := j2.lp
              rw [show c'.PV = pinB σ own from rfl, pinB_len] at e1
              rw [← j1.len, e1]
              exact j2.len
            have lst : ∀ {L : List (Nat × D)} {SB : S0} {R : List Pr}, LentOk σ L → SL c SB σ → Joint c.K H2 (slotL σ SB ++ (lentL σ L ++ R)) → SL c (restS L SB) σ ∧ Joint c.K H2 (slotL σ (restS L SB) ++ R) := lent_ok
            have sb : SL c (backS S1 S2 own) σ := by
              refine ⟨by rw [backS_len, ← hls]; exact j1.len, fun i d h hu => ?_, j1.pv, j1.lp⟩
              by_cases hi : i ∈ own
              · rw [backS_in hi (hls ▸ hk i hi)] at h
                rw [List.getD_eq_getElem?_getD, List.getElem?_eq_getElem (hk i hi)] at h
                exact j1.set i _ (List.getElem?_eq_getElem (hk i hi)) (by rw [Option.getD_some] at h; rw [Option.some.inj h]; exact hu)
              · rw [backS_out hi] at h
                obtain ⟨v, hv⟩ := j2.set i d h hu
                rw [wipe_out hi] at hv
                exact ⟨v, hv⟩
            have kb : Joint c.K H2 (slotL σ (backS S1 S2 own) ++ (lentL σ lent ++ ((.ref DA, .lst true acc) :: tm ++ c.rs))) := by
              refine back_joint hn (fun k m => hls ▸ hk k m) (by rw [← hls]; exact j1.len) ?_
              have k1 : Joint c.K H2 (hold ++ (slotL (wipe σ own) S2 ++ (sv ++ ((.ref DA, .lst true acc) :: tm ++ c.rs)))) := jh.perm (List.Perm.append_left _ (List.Perm.append_left _ (by
                show ((V.ref DA, D.lst true acc) :: ((sv ++ tm) ++ c.rs)).Perm (sv ++ ((V.ref DA, D.lst true acc) :: (tm ++ c.rs)))
                rw [List.append_assoc]
                exact perm_take.symm)))
              rw [← hhold, List.append_assoc] at k1
              exact (k1.dropL).perm (perm_sw.trans (List.Perm.append_left _ perm_sw))
            obtain ⟨s1, k2⟩ := lst lok sb kb
            exact s1.sj k2
      · exact p.elim
theorem own_pv {N : List Str} {sc scope : Scope} {ow : List (Str × Nat)} (ok : BlkOk N sc scope ow) (hl : σ.length = N.length) : ∀ k ∈ ow.map (·.2), (pinB σ (ow.map (·.2)))[k]? = some none := fun k m => pinB_in m (by
  obtain ⟨q, hq, rfl⟩ := List.mem_map.mp m
  rw [hl]
  exact (List.getElem?_eq_some_iff.mp (ok.ix q hq)).1)
theorem w_lc {elt tg iter : Expr} {ifs : List Expr} {scope : Scope} {ow : List (Str × Nat)} {pos : Pos} {fi : IM} {g : GM} {ft : Option EM} {fe : EM} (hc : X.calm = true) (hN : X.N.Nodup) (hi : PI X tg iter (TIm c fi)) (ok : BlkOk X.N X.env.scope scope ow) (hn : (ow.map (·.2)).Nodup)
    (hg : ∀ PV, (∀ k ∈ ow.map (·.2), PV[k]? = some none) → ∀ (s : Shared) (H : Hp) (C : Addr) (cl : List (Str × Addr)) (fp : List Addr), PG (X.blk s H scope (compEnvC scope cl C X.env) fp) tg (UG (c.blk PV) g))
    (ht : ∀ PV, (∀ k ∈ ow.map (·.2), PV[k]? = some none) → ∀ (s : Shared) (H : Hp) (C : Addr) (cl : List (Str × Addr)) (fp : List Addr), PTs (X.blk s H scope (compEnvC scope cl C X.env) fp) ifs (TTs (c.blk PV) ft))
    (he : ∀ PV, (∀ k ∈ ow.map (·.2), PV[k]? = some none) → ∀ (s : Shared) (H : Hp) (C : Addr) (cl : List (Str × Addr)) (fp : List Addr), PE (X.blk s H scope (compEnvC scope cl C X.env) fp) elt (T (c.blk PV) fe))
    (hs : ∀ x, foldedSetIterable iter X.env x = pure x := by intro _; rfl) :
    PE X (.ListComp elt [⟨tg, iter, ifs, 0⟩] scope pos) (T c (compM (ow.map (·.2)) fi g ft fe)) := by
  exact ⟨fun pins s σ H Q I h => (pe_lc hc hN hi ok (hg _ (own_pv ok I.len)) (ht _ (own_pv ok I.len)) (he _ (own_pv ok I.len)) hs).run pins s σ H Q I (lc_read hn (own_pv ok I.len) h)⟩
theorem w_setLc {i : Nat} {y : Str} {py spos : Pos} {elt tg iter : Expr} {ifs : List Expr} {scope : Scope} {ow : List (Str × Nat)} {pos : Pos} {fi : IM} {g : GM} {ft : Option EM} {fe : EM} (hc : X.calm = true) (hN : X.N.Nodup) (hy : X.N[i]? = some y) (hyl : X.env.scope.names.lookup y = some .local) (hp : c.PV[i]? = some none) (hsw : swapsWith (.ListComp elt [⟨tg, iter, ifs, 0⟩] scope pos) (some (.Name y py)) spos.line X.env = pure true) (hi : PI X tg iter (TIm c fi)) (ok : BlkOk X.N X.env.scope scope ow) (hn : (ow.map (·.2)).Nodup)
    (hg : ∀ PV, (∀ k ∈ ow.map (·.2), PV[k]? = some none) → ∀ (s : Shared) (H : Hp) (C : Addr) (cl : List (Str × Addr)) (fp : List Addr), PG (X.blk s H scope (compEnvC scope cl C X.env) fp) tg (UG (c.blk PV) g))
    (ht : ∀ PV, (∀ k ∈ ow.map (·.2), PV[k]? = some none) → ∀ (s : Shared) (H : Hp) (C : Addr) (cl : List (Str × Addr)) (fp : List Addr), PTs (X.blk s H scope (compEnvC scope cl C X.env) fp) ifs (TTs (c.blk PV) ft))
    (he : ∀ PV, (∀ k ∈ ow.map (·.2), PV[k]? = some none) → ∀ (s : Shared) (H : Hp) (C : Addr) (cl : List (Str × Addr)) (fp : List Addr), PE (X.blk s H scope (compEnvC scope cl C X.env) fp) elt (T (c.blk PV) fe))
    (hs : ∀ x, foldedSetIterable iter X.env x = pure x := by intro _; rfl) :
    PS X (.Assign [.Name y py] (.ListComp elt [⟨tg, iter, ifs, 0⟩] scope pos) spos) (U c (asgM (compM (ow.map (·.2)) fi g ft fe) (gSetM i))) := by
  refine ⟨fun pins s σ H E I h => (ps_setLc (i := i) hc hN hy hyl hsw hi ok (hg _ (own_pv ok I.len)) (ht _ (own_pv ok I.len)) (he _ (own_pv ok I.len)) hs).run pins s σ H E I (lc_read (Q := fun x H1 => gName i x σ H1 E.nx) hn (own_pv ok I.len) ?_)⟩
  obtain ⟨S, tm, j, p⟩ := h
  refine (post_bindS j p).mono fun v H1 ⟨d, S', j', p'⟩ => ?_
  unfold gSetM at p'
  by_cases hl : i < S'.length
  · rw [if_pos hl] at p'
    exact p' _ _ (j'.setSlot hl hp)
  · rw [if_neg hl] at p'; exact p'.elim
end
end WF
namespace WF
open PySem PySem.Spec PyProof.Rows L2
def Op2R (K : PySem.W.Frag) (r : R2) (op : D → D → Option D) : Prop := ∀ H (R : List Pr) v1 v2 d1 d2 d (Q : VK), op d1 d2 = some d → Joint K H ((v2, d2) :: (v1, d1) :: R) → (∀ v, Joint K H ((v, d) :: (v2, d2) :: (v1, d1) :: R) → Q v H) → r v1 v2 H Q
def CallRO (K : PySem.W.Frag) (r : List V → Hp → VK → Prop) (op : List D → Option D) : Prop := ∀ H (R : List Pr) vs ds d (Q : VK), vs.length = ds.length → op ds = some d → Joint K H (vs.zip ds ++ R) → (∀ v, Joint K H ((v, d) :: (vs.zip ds ++ R)) → Q v H) → r vs H Q
def addD : D → D → Option D
  | .int a, .int b => some (.int (a + b))
  | .lst _ xs, .lst _ ys => if xs.length + ys.length ≤ 1000000 then some (.lst true (xs ++ ys)) else none
  | .tup xs, .tup ys => if xs.length + ys.length ≤ 1000000 then some (.tup (xs ++ ys)) else none
  | .str a, .str b => if a.length + b.length ≤ 1000000 then some (.str (a ++ b)) else none
  | _, _ => none
def rAddA (K : PySem.W.Frag) : R2 := fun x y H Q => rI0 (fun i j => .int (i + j)) x y H Q ∨ rCat x y H Q ∨ rCatA K x y H Q ∨ (∃ i j, x = .str i ∧ y = .str j ∧ i.length + j.length ≤ sizeLine ∧ Q (.str (i ++ j)) H)
theorem op_addA {X : Cx} : OpR X (binaryOp .Add) (rAddA X.K) := op_add.or (op_cat.or (op_catA.or op_add_str))
section
variable {K : PySem.W.Frag}
theorem big_le {n : Nat} (h : n ≤ 1000000) : n ≤ sizeLine := Nat.le_trans h (by decide)
theorem ju_int {H : Hp} {R : List Pr} {i : Int} (j : Joint K H R) : Joint K H ((.int i, .int i) :: R) := let ⟨G, fp, g, r, n, z⟩ := j; ⟨G, fp, g, .int r, n, z⟩
theorem ju_bl {H : Hp} {R : List Pr} {i : Bool} (j : Joint K H R) : Joint K H ((.bl i, .bl i) :: R) := let ⟨G, fp, g, r, n, z⟩ := j; ⟨G, fp, g, .bl r, n, z⟩
theorem ju_str {H : Hp} {R : List Pr} {i : Str} (j : Joint K H R) : Joint K H ((.str i, .str i) :: R) := let ⟨G, fp, g, r, n, z⟩ := j; ⟨G, fp, g, .str r, n, z⟩
theorem ju_non {H : Hp} {R : List Pr} (j : Joint K H R) : Joint K H ((.non, .non) :: R) := let ⟨G, fp, g, r, n, z⟩ := j; ⟨G, fp, g, .non r, n, z⟩
theorem Joint.sw {H : Hp} {R : List Pr} {x y : Pr} (j : Joint K H (x :: y :: R)) : Joint K H (y :: x :: R) := j.perm (List.Perm.swap _ _ _)
theorem zip_app {vs vs' : List V} {ds ds' : List D} {R : List Pr} (h : vs.length = ds.length) : (vs ++ vs').zip (ds ++ ds') ++ R = vs.zip ds ++ (vs'.zip ds' ++ R) := by rw [List.zip_append h, List.append_assoc]
theorem s_add : Op2 K (rAddA K) addD := by
  intro H R v1 v2 d1 d2 d Q e j q
  unfold addD at e
  split at e
  · cases e
    have e2 := j.is_int
    have e1 := j.sw.is_int
    exact .inl ⟨_, _, e1, e2, q _ _ (ju_int j.drop.drop)⟩
  · split at e
    · rename_i hsz
      cases e
      obtain ⟨b, rfl⟩ := j.is_lst
      obtain ⟨a, rfl⟩ := j.sw.is_lst
      obtain ⟨ws, hb, lb, kb⟩ := j.unlst
      have kb2 := kb.perm perm_take
      obtain ⟨us, ha, la, ka⟩ := kb2.unlst
      refine .inr (.inl ⟨a, b, us, ws, rfl, rfl, ha, hb, big_le (by omega), fun p hp => q _ _ (Joint.lst (by simp [la, lb]) ?_ hp)⟩)
      rw [zip_app la]
      exact ka
    · cases e
  · split at e
    · rename_i xs ys hsz
      cases e
      obtain ⟨b, rfl⟩ := j.is_tup
      obtain ⟨a, rfl⟩ := j.sw.is_tup
      obtain ⟨ws, hb, lb, kb⟩ := j.untup
      have kb2 := kb.perm perm_take
      obtain ⟨us, ha, la, ka⟩ := kb2.untup
      refine .inr (.inr (.inl ⟨a, b, us, ws, rfl, rfl, .inl (.inl ha), .inl (.inl hb), big_le (by omega), fun h0 => q _ _ ?_, fun h0 h1 => q _ _ ?_, fun h0 h1 p hp => q _ _ (Joint.tup (by simp [la, lb]) ?_ hp)⟩))
      · have : xs = [] := by cases xs with | nil => rfl | cons _ _ => rw [h0] at la; simp at la
        rw [this, List.nil_append]
        exact j.sw.drop
      · have : ys = [] := by cases ys with | nil => rfl | cons _ _ => rw [h1] at lb; simp at lb
        rw [this, List.append_nil]
        exact j.drop
      · rw [zip_app la]
        exact ka
    · cases e
  · split at e
    · cases e
      have e2 := j.is_str
      have e1 := j.sw.is_str
      exact .inr (.inr (.inr ⟨_, _, e1, e2, big_le (by assumption), q _ _ (ju_str j.drop.drop)⟩))
    · cases e
  · cases e
def intD (C : Int → Int → Bool) (g : Int → Int → D) : D → D → Option D
  | .int a, .int b => if C a b then some (g a b) else none
  | _, _ => none
theorem s_int {C : Int → Int → Bool} {C' : Int → Int → Prop} {g : Int → Int → D} {g' : Int → Int → V} (hC : ∀ a b, C a b = true → C' a b) (hg : ∀ H R a b, Joint K H R → Joint K H ((g' a b, g a b) :: R)) : Op2 K (rI C' g') (intD C g) := by
  intro H R v1 v2 d1 d2 d Q e j q
  unfold intD at e
  split at e
  · split at e
    · cases e
      exact ⟨_, _, j.sw.is_int, j.is_int, hC _ _ (by assumption), q _ _ (hg _ _ _ _ j.drop.drop)⟩
    · cases e
  · cases e
theorem s_int0 {g : Int → Int → D} {g' : Int → Int → V} (hg : ∀ H R a b, Joint K H R → Joint K H ((g' a b, g a b) :: R)) : Op2 K (rI0 g') (intD (fun _ _ => true) g) := by
  intro H R v1 v2 d1 d2 d Q e j q
  unfold intD at e
  split at e
  · simp only [if_true] at e
    cases e
    exact ⟨_, _, j.sw.is_int, j.is_int, q _ _ (hg _ _ _ _ j.drop.drop)⟩
  · cases e
abbrev subD := intD (fun _ _ => true) fun a b => .int (a - b)
theorem s_sub : Op2 K (rI0 fun i j => .int (i - j)) subD := s_int0 fun _ _ _ _ j => ju_int j
theorem r_int0 {g : Int → Int → D} {g' : Int → Int → V} (hg : ∀ H R a b, Joint K H R → Joint K H ((g' a b, g a b) :: R)) : Op2R K (rI0 g') (intD (fun _ _ => true) g) := by
  intro H R v1 v2 d1 d2 d Q e j q
  unfold intD at e
  split at e
  · simp only [if_true] at e
    cases e
    exact ⟨_, _, j.sw.is_int, j.is_int, q _ (hg _ _ _ _ j)⟩
  · cases e
abbrev leD := intD (fun _ _ => true) fun a b => .bl (decide (a ≤ b))
abbrev gtD := intD (fun _ _ => true) fun a b => .bl (decide (b < a))
abbrev geD := intD (fun _ _ => true) fun a b => .bl (decide (b ≤ a))
theorem s_le : Op2R K (rI0 fun i j => .bl (decide (i ≤ j))) leD := r_int0 fun _ _ _ _ j => ju_bl j
theorem s_gt : Op2R K (rI0 fun i j => .bl (decide (j < i))) gtD := r_int0 fun _ _ _ _ j => ju_bl j
theorem s_ge : Op2R K (rI0 fun i j => .bl (decide (j ≤ i))) geD := r_int0 fun _ _ _ _ j => ju_bl j
abbrev fdivD := intD (fun _ b => decide (0 < b) && decide (b < 2 ^ 64)) fun a b => .int (a / b)
abbrev modD := intD (fun _ b => decide (0 < b)) fun a b => .int (a % b)
abbrev powD := intD (fun a b => decide (0 ≤ b) && decide (b ≤ 1000) && decide (a.natAbs < 2 ^ 64)) fun a b => .int (a ^ b.toNat)
theorem s_fdiv : Op2 K (rI CDivW fun i j => .int (i / j)) fdivD := s_int (fun a b h => by
  simp only [Bool.and_eq_true, decide_eq_true_eq] at h
  refine wide_div (b := 64) h.1 ?_ (by decide) (by decide)
  have h1 : (b.natAbs : Int) < 2 ^ 64 := by omega
  exact_mod_cast h1) fun _ _ _ _ j => ju_int j
theorem s_mod : Op2 K (rI (fun _ j => 0 < j) fun i j => .int (i % j)) modD := s_int (fun a b h => by simpa using h) fun _ _ _ _ j => ju_int j
theorem s_pow : Op2 K (rI CPow fun i j => .int (i ^ j.toNat)) powD := s_int (fun a b h => by
  simp only [Bool.and_eq_true, decide_eq_true_eq] at h
  exact ⟨h.1.1, by omega, h.2⟩) fun _ _ _ _ j => ju_int j
def negD : D → Option D
  | .int a => some (.int (-a))
  | _ => none
theorem s_neg : Op1 K (rU fun i => .int (-i)) negD := by
  intro H R v1 d1 d Q e j q
  unfold negD at e
  split at e
  · cases e
    exact ⟨_, j.is_int, q _ _ (ju_int j.drop)⟩
  · cases e
end
end WF
namespace WF
open PySem PySem.Spec PyProof.Rows L2
mutual
def D.py : D → Option PyData
  | .non => some .none
  | .bl b => some (.bool b)
  | .int i => some (.int i)
  | .str x => some (.str x)
  | .tup xs => (D.pys xs).map .tuple
  | .lst _ xs => (D.pys xs).map .list
  | _ => none
def D.pys : List D → Option (List PyData)
  | [] => some []
  | x :: xs => match x.py, D.pys xs with
    | some a, some b => some (a :: b)
    | _, _ => none
end
section
variable {K : PySem.W.Frag} {G H : Hp} {L R : List Pr}
theorem pys_cons {x : D} {xs : List D} {y : List PyData} (h : D.pys (x :: xs) = some y) : ∃ a b, x.py = some a ∧ D.pys xs = some b ∧ y = a :: b := by
  simp only [D.pys] at h
  split at h
  · cases h; exact ⟨_, _, by assumption, by assumption, rfl⟩
  · cases h
theorem Reps.dp {fp : List Addr} (r : Reps K G H L fp) (g : GSub G H) : ∀ {ys : List PyData}, D.pys (L.map Prod.snd) = some ys → DpAll K H (L.map Prod.fst) ys := by
  induction r with
  | nil => intro ys h; cases h; exact .nil
  | un _ ih => intro ys h; obtain ⟨a, b, h1, h2, rfl⟩ := pys_cons h; cases h1
  | non _ ih => intro ys h; obtain ⟨a, b, h1, h2, rfl⟩ := pys_cons h; cases h1; exact .cons .non (ih h2)
  | bl _ ih => intro ys h; obtain ⟨a, b, h1, h2, rfl⟩ := pys_cons h; cases h1; exact .cons (.bl _) (ih h2)
  | int _ ih => intro ys h; obtain ⟨a, b, h1, h2, rfl⟩ := pys_cons h; cases h1; exact .cons (.int _) (ih h2)
  | str _ ih => intro ys h; obtain ⟨a, b, h1, h2, rfl⟩ := pys_cons h; cases h1; exact .cons (.str _) (ih h2)
  | vl _ ih => intro ys h; obtain ⟨a, b, h1, h2, rfl⟩ := pys_cons h; cases h1
  | scr _ _ ih => intro ys h; obtain ⟨a, b, h1, h2, rfl⟩ := pys_cons h; cases h1
  | hld _ _ _ ih => intro ys h; obtain ⟨a, b, h1, h2, rfl⟩ := pys_cons h; cases h1
  | con _ _ _ ih => intro ys h; obtain ⟨a, b, h1, h2, rfl⟩ := pys_cons h; cases h1
  | tab _ _ ih => intro ys h; obtain ⟨a, b, h1, h2, rfl⟩ := pys_cons h; cases h1
  | of _ _ _ _ _ _ _ ih1 ih2 => intro ys h; obtain ⟨a, b, h1, h2, rfl⟩ := pys_cons h; cases h1
  | oo _ _ _ _ _ _ _ ih1 ih2 => intro ys h; obtain ⟨a, b, h1, h2, rfl⟩ := pys_cons h; cases h1
  | exn _ _ _ _ _ _ _ ih1 ih2 => intro ys h; obtain ⟨a, b, h1, h2, rfl⟩ := pys_cons h; cases h1
  | tup a b e r1 r2 ih1 ih2 =>
    intro ys h
    obtain ⟨y, z, h1, h2, rfl⟩ := pys_cons h
    simp only [D.py, Option.map_eq_some_iff] at h1
    obtain ⟨w, h3, rfl⟩ := h1
    subst b e
    exact .cons (.tup (.inl (.inl (g _ _ a))) (ih1 h3)) (ih2 h2)
  | lf a b e r1 r2 ih1 ih2 =>
    intro ys h
    obtain ⟨y, z, h1, h2, rfl⟩ := pys_cons h
    simp only [D.py, Option.map_eq_some_iff] at h1
    obtain ⟨w, h3, rfl⟩ := h1
    subst b e
    exact .cons (.lst (.inl (.inl (g _ _ a))) (ih1 h3)) (ih2 h2)
  | lo a b e r1 r2 ih1 ih2 =>
    intro ys h
    obtain ⟨y, z, h1, h2, rfl⟩ := pys_cons h
    simp only [D.py, Option.map_eq_some_iff] at h1
    obtain ⟨w, h3, rfl⟩ := h1
    subst b e
    exact .cons (.lst (.inl (.inl a)) (ih1 h3)) (ih2 h2)
  | kf => intro ys h; obtain ⟨a, b, h1, h2, rfl⟩ := pys_cons h; cases h1
  | ko => intro ys h; obtain ⟨a, b, h1, h2, rfl⟩ := pys_cons h; cases h1
  | tf => intro ys h; obtain ⟨a, b, h1, h2, rfl⟩ := pys_cons h; cases h1
  | to => intro ys h; obtain ⟨a, b, h1, h2, rfl⟩ := pys_cons h; cases h1
theorem Joint.dp {v : V} {d : D} {y : PyData} (j : Joint K H ((v, d) :: R)) (h : d.py = some y) : Dp K H v y := by
  obtain ⟨G, fp, g, r, n, z⟩ := j
  obtain ⟨f1, f2, rfl, r1, r2⟩ := r.uncons
  have q := r1.dp g (ys := [y]) (by simp [D.pys, h])
  cases q with
  | cons a _ => exact a
def eqD (neg : Bool) (a b : D) : Option D := match a.py, b.py with
  | some x, some y => if SeqAt.shaped x && SeqAt.shaped y then some (.bl (if neg then !PyData.eqv x y else PyData.eqv x y)) else none
  | _, _ => none
theorem s_eq : Op2R K (rEqD K) (eqD false) := by
  intro H R v1 v2 d1 d2 d Q e j q
  unfold eqD at e
  split at e
  · split at e
    · rename_i x y h1 h2 hs
      simp only [Bool.and_eq_true] at hs
      cases e
      exact ⟨x, y, j.sw.dp h1, j.dp h2, hs.1, hs.2, q _ (ju_bl j)⟩
    · cases e
  · cases e
theorem s_ne : Op2R K (rNeD K) (eqD true) := by
  intro H R v1 v2 d1 d2 d Q e j q
  unfold eqD at e
  split at e
  · split at e
    · rename_i x y h1 h2 hs
      simp only [Bool.and_eq_true] at hs
      cases e
      exact ⟨x, y, j.sw.dp h1, j.dp h2, hs.1, hs.2, q _ (ju_bl j)⟩
    · cases e
  · cases e
def isNonD : D → Option Bool
  | .un => none
  | .vl _ => none
  | .non => some true
  | _ => some false
theorem Joint.isNon {v : V} {d : D} {b : Bool} (j : Joint K H ((v, d) :: R)) (h : isNonD d = some b) : decide (v = .non) = b := by
  obtain ⟨G, fp, g, r, n, z⟩ := j
  cases r <;> simp_all [isNonD]
def isD (neg : Bool) (a b : D) : Option D := match b with
  | .non => (isNonD a).map fun k => .bl (if neg then !k else k)
  | _ => none
theorem s_is : Op2R K (fun x y H Q => y = .non ∧ Q (.bl (decide (x = .non))) H) (isD false) := by
  intro H R v1 v2 d1 d2 d Q e j q
  unfold isD at e
  split at e
  · simp only [Option.map_eq_some_iff] at e
    obtain ⟨b, h, rfl⟩ := e
    exact ⟨j.is_non, q _ (by rw [j.sw.isNon h]; exact ju_bl j)⟩
  · cases e
def intsD : List D → Option (List Int)
  | [] => some []
  | .int i :: r => (intsD r).map (i :: ·)
  | _ :: _ => none
theorem intsD_map : ∀ {ds : List D} {ns : List Int}, intsD ds = some ns → ds = ns.map .int
  | [], _, h => by cases h; rfl
  | d :: r, ns, h => by
    unfold intsD at h
    split at h
    · rename_i heq; cases heq
    · rename_i heq
      cases heq
      simp only [Option.map_eq_some_iff] at h
      obtain ⟨a, h1, rfl⟩ := h
      rw [intsD_map h1]; rfl
    · cases h
theorem Joint.ints : ∀ {ns : List Int} {vs : List V}, vs.length = ns.length → Joint K H (vs.zip (ns.map D.int) ++ R) → vs = ns.map V.int
  | [], [], _, _ => rfl
  | n :: ns, v :: vs, h, j => by
    have e : v = .int n := Joint.is_int (R := vs.zip (ns.map D.int) ++ R) j
    rw [e, Joint.ints (ns := ns) (vs := vs) (by simpa using h) (Joint.drop (x := (v, D.int n)) j)]
    rfl
  | [], _ :: _, h, _ => by simp at h
  | _ :: _, [], h, _ => by simp at h
theorem Joint.tupInts {p : Addr} {ds : List D} {ns : List Int} (j : Joint K H ((.ref p, .tup ds) :: R)) (h : intsD ds = some ns) : SqT K H p (ns.map V.int) := by
  obtain ⟨vs, hp, hl, k⟩ := j.untup
  rw [intsD_map h] at hl k
  rw [← Joint.ints (by simpa using hl) k]
  exact .inl (.inl hp)
theorem Joint.lstInts {p : Addr} {o : Bool} {ds : List D} {ns : List Int} (j : Joint K H ((.ref p, .lst o ds) :: R)) (h : intsD ds = some ns) : SqL K H p (ns.map V.int) := by
  obtain ⟨vs, hp, hl, k⟩ := j.unlst
  rw [intsD_map h] at hl k
  rw [← Joint.ints (by simpa using hl) k]
  exact .inl (.inl hp)
def ltD : D → D → Option D
  | .int a, .int b => some (.bl (decide (a < b)))
  | .tup xs, .tup ys => match intsD xs, intsD ys with
    | some a, some b => some (.bl (HT.lexLt a b))
    | _, _ => none
  | _, _ => none
def rLtA (K : PySem.W.Frag) : R2 := fun x y H Q => rI0 (fun i j => .bl (decide (i < j))) x y H Q ∨ rLtT K x y H Q
theorem op_ltA {X : Cx} (hu : X.A.units < cLine) : OpR X (compareOp .Lt) (rLtA X.K) := op_lt.or (op_ltT hu)
theorem s_lt : Op2R K (rLtA K) ltD := by
  intro H R v1 v2 d1 d2 d Q e j q
  unfold ltD at e
  split at e
  · cases e
    exact .inl ⟨_, _, j.sw.is_int, j.is_int, q _ (ju_bl j)⟩
  · split at e
    · rename_i a b h1 h2
      cases e
      obtain ⟨p2, rfl⟩ := j.is_tup
      obtain ⟨p1, rfl⟩ := j.sw.is_tup
      exact .inr ⟨p1, p2, a, b, rfl, rfl, j.sw.tupInts h1, j.tupInts h2, q _ (ju_bl j)⟩
    · cases e
  · cases e
theorem Reps.dups {C : List Pr} (r : Reps K G H C []) : ∀ k : Nat, Reps K G H (List.replicate k C).flatten []
  | 0 => .nil
  | k + 1 => by
    rw [List.replicate_succ, List.flatten_cons]
    exact Reps.append r (Reps.dups r k)
theorem Joint.dups {C : List Pr} (j : Joint K H (C ++ R)) (h : ∀ x ∈ C, x.2.frz = x.2) (k : Nat) : Joint K H ((List.replicate k C).flatten ++ R) := by
  obtain ⟨G, fp, g, r, n, z⟩ := j
  obtain ⟨f1, f2, rfl, r1, r2⟩ := r.unappend
  have e := r1.pure h
  subst e
  exact ⟨G, [] ++ f2, g, (r1.dups k).append r2, n, z⟩
theorem zip_rep {vs : List V} {ds : List D} (h : vs.length = ds.length) : ∀ k : Nat, (List.replicate k vs).flatten.zip (List.replicate k ds).flatten = (List.replicate k (vs.zip ds)).flatten
  | 0 => rfl
  | k + 1 => by
    rw [List.replicate_succ, List.replicate_succ, List.replicate_succ, List.flatten_cons, List.flatten_cons, List.flatten_cons, List.zip_append h, zip_rep h k]
theorem len_rep {α : Type} (xs : List α) : ∀ k : Nat, (List.replicate k xs).flatten.length = k * xs.length
  | 0 => by simp
  | k + 1 => by rw [List.replicate_succ, List.flatten_cons, List.length_append, len_rep xs k, Nat.succ_mul, Nat.add_comm]
theorem frz_all {ds : List D} {vs : List V} : ∀ x ∈ vs.zip (D.frzs ds), x.2.frz = x.2 := fun x m => by
  have := (List.of_mem_zip m).2
  rw [D.frzs_map] at this
  obtain ⟨y, _, e⟩ := List.mem_map.mp this
  rw [← e, D.frz_frz]
def mulD : D → D → Option D
  | .int a, .int b => if a.natAbs < 2 ^ 64 || b.natAbs < 2 ^ 64 then some (.int (a * b)) else none
  | .lst _ xs, .int k => if k < 2 ^ 20 ∧ -(2 ^ 20) < k ∧ xs.length * k.toNat ≤ 1000000 then some (.lst true (List.replicate k.toNat (D.frzs xs)).flatten) else none
  | .tup xs, .int k => if xs ≠ [] ∧ 2 ≤ k ∧ k ≤ 1000 ∧ xs.length ≤ 1000 then some (.tup (List.replicate k.toNat (D.frzs xs)).flatten) else none
  | _, _ => none
def rMulA (K : PySem.W.Frag) : R2 := fun x y H Q => rI CMul (fun i j => .int (i * j)) x y H Q ∨ rRep x y H Q ∨ rRepT K x y H Q
theorem op_mulA {X : Cx} : OpR X (binaryOp .Mult) (rMulA X.K) := op_mul.or (op_rep.or op_repT)
theorem s_mul : Op2 K (rMulA K) mulD := by
  intro H R v1 v2 d1 d2 d Q e j q
  unfold mulD at e
  split at e
  · split at e
    · rename_i a b hc
      cases e
      refine .inl ⟨_, _, j.sw.is_int, j.is_int, ?_, q _ _ (ju_int j.drop.drop)⟩
      simp only [Bool.or_eq_true, decide_eq_true_eq] at hc
      rcases hc with h | h
      · exact .inl (by omega)
      · exact .inr (by omega)
    · cases e
  · split at e
    · rename_i o xs k hc
      obtain ⟨h1, h2, h3⟩ := hc
      cases e
      have ek := j.is_int
      obtain ⟨p, rfl⟩ := j.sw.is_lst
      have j1 := j.drop.freeze.drop
      obtain ⟨vs, hp, hl, kk⟩ := j1.unlst
      have hl' : vs.length = xs.length := by rw [hl, D.frzs_map, List.length_map]
      refine .inr (.inl ⟨p, k, vs, rfl, ek, hp, by omega, by omega, big_le (by rw [hl']; exact h3), fun l hl2 => q _ _ (Joint.lst ?_ ?_ hl2)⟩)
      · rw [len_rep, len_rep, hl]
      · rw [zip_rep hl]
        exact kk.dups frz_all _
    · cases e
  · split at e
    · rename_i xs k hc
      obtain ⟨h0, h1, h2, h3⟩ := hc
      cases e
      have ek := j.is_int
      obtain ⟨p, rfl⟩ := j.sw.is_tup
      have j1 := j.drop.freeze.drop
      obtain ⟨vs, hp, hl, kk⟩ := j1.untup
      have hl' : vs.length = xs.length := by rw [hl, D.frzs_map, List.length_map]
      refine .inr (.inr ⟨p, k, vs, rfl, ek, .inl (.inl hp), fun z => h0 ?_, h1, h2, by omega, fun l hl2 => q _ _ (Joint.tup ?_ ?_ hl2)⟩)
      · rw [z] at hl'; cases xs with | nil => rfl | cons _ _ => simp at hl'
      · rw [len_rep, len_rep, hl]
      · rw [zip_rep hl]
        exact kk.dups frz_all _
    · cases e
  · cases e
end
end WF
namespace WF
open PySem PySem.Spec PyProof.Rows L2
section
variable {K : PySem.W.Frag} {H : Hp} {R : List Pr}
def absD : List D → Option D
  | [.int i] => some (.int (if i < 0 then -i else i))
  | _ => none
theorem one_of {vs : List V} {d : D} (h : vs.length = [d].length) : ∃ v, vs = [v] := by
  match vs, h with
  | [v], _ => exact ⟨v, rfl⟩
theorem two_of {vs : List V} {d e : D} (h : vs.length = [d, e].length) : ∃ v w, vs = [v, w] := by
  match vs, h with
  | [v, w], _ => exact ⟨v, w, rfl⟩
theorem c_abs : CallRO K (fun xs H Q => ∃ i, xs = [.int i] ∧ Q (.int (if i < 0 then -i else i)) H) absD := by
  intro H R vs ds d Q hl e j q
  unfold absD at e
  split at e
  · cases e
    obtain ⟨v, rfl⟩ := one_of hl
    have h1 : v = .int _ := Joint.is_int (R := R) j
    exact ⟨_, by rw [h1], q _ (ju_int j)⟩
  · cases e
def maxD2 : List D → Option D
  | [.int i, .int j] => some (.int (if j > i then j else i))
  | _ => none
def minD2 : List D → Option D
  | [.int i, .int j] => some (.int (if j < i then j else i))
  | _ => none
theorem c_max2 : CallRO K (fun xs H Q => ∃ i j, xs = [.int i, .int j] ∧ Q (.int (if j > i then j else i)) H) maxD2 := by
  intro H R vs ds d Q hl e j q
  unfold maxD2 at e
  split at e
  · cases e
    obtain ⟨v, w, rfl⟩ := two_of hl
    have j' : Joint K H ((v, _) :: (w, _) :: R) := j
    exact ⟨_, _, by rw [j'.is_int, j'.sw.is_int], q _ (ju_int j)⟩
  · cases e
def intD1 : List D → Option D
  | [.int i] => some (.int i)
  | [.bl b] => some (.int (if b then 1 else 0))
  | _ => none
theorem c_int : CallRO K (fun xs H Q => (∃ i, xs = [.int i] ∧ Q (.int i) H) ∨ ∃ k, xs = [.bl k] ∧ Q (.int (if k then 1 else 0)) H) intD1 := by
  intro H R vs ds d Q hl e j q
  unfold intD1 at e
  split at e
  · cases e
    obtain ⟨v, rfl⟩ := one_of hl
    have j' : Joint K H ((v, _) :: R) := j
    exact .inl ⟨_, by rw [j'.is_int], q _ (ju_int j)⟩
  · cases e
    obtain ⟨v, rfl⟩ := one_of hl
    have j' : Joint K H ((v, _) :: R) := j
    exact .inr ⟨_, by rw [j'.is_bl], q _ (ju_int j)⟩
  · cases e
def lenD : List D → Option D
  | [.lst _ xs] => some (.int xs.length)
  | [.tup xs] => some (.int xs.length)
  | [.scr xs] => some (.int xs.length)
  | _ => none
theorem Joint.is_scr {v : V} {ns : List Int} (j : Joint K H ((v, .scr ns) :: R)) : ∃ p, v = .ref p ∧ SqL K H p (ns.map V.int) := by
  obtain ⟨G, fp, g, r, n, z⟩ := j
  cases r with
  | scr a _ => exact ⟨_, rfl, sqL_mono g a⟩
theorem c_len : CallRO K (fun xs H Q => ∃ p ys, xs = [.ref p] ∧ (SqL K H p ys ∨ SqT K H p ys) ∧ Q (.int ys.length) H) lenD := by
  intro H R vs ds d Q hl e j q
  unfold lenD at e
  split at e
  · cases e
    obtain ⟨v, rfl⟩ := one_of hl
    have j' : Joint K H ((v, _) :: R) := j
    obtain ⟨p, rfl⟩ := j'.is_lst
    obtain ⟨us, hp, hlen, _⟩ := j'.unlst
    exact ⟨p, us, rfl, .inl (.inl (.inl hp)), q _ (by rw [hlen]; exact ju_int j)⟩
  · cases e
    obtain ⟨v, rfl⟩ := one_of hl
    have j' : Joint K H ((v, _) :: R) := j
    obtain ⟨p, rfl⟩ := j'.is_tup
    obtain ⟨us, hp, hlen, _⟩ := j'.untup
    exact ⟨p, us, rfl, .inr (.inl (.inl hp)), q _ (by rw [hlen]; exact ju_int j)⟩
  · cases e
    obtain ⟨v, rfl⟩ := one_of hl
    have j' : Joint K H ((v, _) :: R) := j
    obtain ⟨p, rfl, sq⟩ := j'.is_scr
    exact ⟨p, _, rfl, .inl sq, q _ (by rw [List.length_map]; exact ju_int j)⟩
  · cases e
def sumD : List D → Option D
  | [.lst _ xs] => (intsD xs).map fun ns => .int ns.sum
  | _ => none
theorem c_sum : CallRO K (rSum K) sumD := by
  intro H R vs ds d Q hl e j q
  unfold sumD at e
  split at e
  · simp only [Option.map_eq_some_iff] at e
    obtain ⟨ns, h, rfl⟩ := e
    obtain ⟨v, rfl⟩ := one_of hl
    have j' : Joint K H ((v, _) :: R) := j
    obtain ⟨p, rfl⟩ := j'.is_lst
    exact ⟨p, ns, rfl, j'.lstInts h, q _ (ju_int j)⟩
  · cases e
def boolsD : List D → Option (List Bool)
  | [] => some []
  | .bl i :: r => (boolsD r).map (i :: ·)
  | _ :: _ => none
theorem boolsD_map : ∀ {ds : List D} {ns : List Bool}, boolsD ds = some ns → ds = ns.map .bl
  | [], _, h => by cases h; rfl
  | d :: r, ns, h => by
    unfold boolsD at h
    split at h
    · rename_i heq; cases heq
    · rename_i heq
      cases heq
      simp only [Option.map_eq_some_iff] at h
      obtain ⟨a, h1, rfl⟩ := h
      rw [boolsD_map h1]; rfl
    · cases h
theorem Joint.bools : ∀ {ns : List Bool} {vs : List V}, vs.length = ns.length → Joint K H (vs.zip (ns.map D.bl) ++ R) → vs = ns.map V.bl
  | [], [], _, _ => rfl
  | n :: ns, v :: vs, h, j => by
    have e : v = .bl n := Joint.is_bl (R := vs.zip (ns.map D.bl) ++ R) j
    rw [e, Joint.bools (ns := ns) (vs := vs) (by simpa using h) (Joint.drop (x := (v, D.bl n)) j)]
    rfl
  | [], _ :: _, h, _ => by simp at h
  | _ :: _, [], h, _ => by simp at h
theorem Joint.lstBools {p : Addr} {o : Bool} {ds : List D} {ns : List Bool} (j : Joint K H ((.ref p, .lst o ds) :: R)) (h : boolsD ds = some ns) : SqL K H p (ns.map V.bl) := by
  obtain ⟨vs, hp, hl, k⟩ := j.unlst
  rw [boolsD_map h] at hl k
  rw [← Joint.bools (by simpa using hl) k]
  exact .inl (.inl hp)
def allD : List D → Option D
  | [.lst _ xs] => (boolsD xs).map fun ns => .bl (ns.all id)
  | _ => none
def anyD : List D → Option D
  | [.lst _ xs] => (boolsD xs).map fun ns => .bl (ns.any id)
  | _ => none
theorem c_all : CallRO K (rAll K) allD := by
  intro H R vs ds d Q hl e j q
  unfold allD at e
  split at e
  · simp only [Option.map_eq_some_iff] at e
    obtain ⟨ns, h, rfl⟩ := e
    obtain ⟨v, rfl⟩ := one_of hl
    have j' : Joint K H ((v, _) :: R) := j
    obtain ⟨p, rfl⟩ := j'.is_lst
    exact ⟨p, ns, rfl, j'.lstBools h, q _ (ju_bl j)⟩
  · cases e
def maxI : List Int → Int
  | [] => 0
  | [x] => x
  | x :: y :: r => max x (maxI (y :: r))
theorem maxI_is : ∀ {ns : List Int} {m : Int}, m ∈ ns → (∀ y, y ∈ ns → y ≤ m) → m = maxI ns
  | [x], m, h, _ => by simpa [maxI] using h
  | x :: y :: r, m, h, hm => by
    show m = max x (maxI (y :: r))
    have ih := fun (q : m ∈ y :: r) => maxI_is (ns := y :: r) (m := m) q fun z hz => hm z (List.mem_cons_of_mem _ hz)
    rcases List.mem_cons.mp h with e | e
    · have : ∀ ns : List Int, ns ≠ [] → maxI ns ∈ ns := by
        intro ns
        induction ns with
        | nil => intro z; exact (z rfl).elim
        | cons a t it =>
          intro _
          cases t with
          | nil => simp [maxI]
          | cons b t =>
            have := it (by simp)
            show max a (maxI (b :: t)) ∈ _
            rcases Int.le_total a (maxI (b :: t)) with z | z
            · rw [Int.max_eq_right z]; exact List.mem_cons_of_mem _ this
            · rw [Int.max_eq_left z]; exact List.mem_cons_self
      have h2 := hm _ (List.mem_cons_of_mem _ (this (y :: r) (by simp)))
      omega
    · have h1 := ih e
      have h2 := hm x List.mem_cons_self
      omega
  | [], m, h, _ => by cases h
def maxD1 : List D → Option D
  | [.lst _ xs] => match intsD xs with
    | some (n :: ns) => some (.int (maxI (n :: ns)))
    | _ => none
  | _ => none
theorem c_max1 : CallRO K (rMax K) maxD1 := by
  intro H R vs ds d Q hl e j q
  unfold maxD1 at e
  split at e
  · split at e
    · rename_i h
      cases e
      obtain ⟨v, rfl⟩ := one_of hl
      have j' : Joint K H ((v, _) :: R) := j
      obtain ⟨p, rfl⟩ := j'.is_lst
      exact ⟨p, _, rfl, j'.lstInts h, Nat.succ_pos _, fun m h1 h2 => q _ (by rw [← maxI_is h1 h2]; exact ju_int j)⟩
    · cases e
  · cases e
def divmodD : List D → Option D
  | [.int a, .int b] => if 0 < b ∧ b < 2 ^ 64 then some (.tup [.int (a / b), .int (a % b)]) else none
  | _ => none
theorem c_divmod : CallS K (fun xs H Q => ∃ i j, xs = [.int i, .int j] ∧ CDivP i j ∧ ∀ p, H p = none → Q (.ref p) (upd H p (.tup [.int (i / j), .int (i % j)]))) divmodD := by
  intro H R vs ds d Q hl e j q
  unfold divmodD at e
  split at e
  · split at e
    · rename_i a b hc
      cases e
      obtain ⟨v, w, rfl⟩ := two_of hl
      have j' : Joint K H ((v, _) :: (w, _) :: R) := j
      refine ⟨a, b, by rw [j'.is_int, j'.sw.is_int], ⟨hc.1, PyProof.noPylong_of_log2 (wide_div (i := a) (b := 64) hc.1 ?_ (by decide) (by decide)).2⟩, fun p hp => q _ _ (Joint.tup (vs := [.int (a / b), .int (a % b)]) (ds := [.int (a / b), .int (a % b)]) rfl (ju_int (ju_int j'.drop.drop)) hp)⟩
      have h1 : (b.natAbs : Int) < 2 ^ 64 := by omega
      exact_mod_cast h1
    · cases e
  · cases e
def tupleD : List D → Option D
  | [.lst _ xs] => some (.tup xs)
  | [.tup xs] => some (.tup xs)
  | _ => none
def listD : List D → Option D
  | [.lst _ xs] => some (.lst true xs)
  | [.tup xs] => some (.lst true xs)
  | _ => none
theorem c_tuple : CallS K (fun xs H Q => ∃ p ys, xs = [.ref p] ∧ ((SqL K H p ys ∧ ∀ l, H l = none → Q (.ref l) (upd H l (.tup ys))) ∨ (SqT K H p ys ∧ Q (.ref p) H))) tupleD := by
  intro H R vs ds d Q hl e j q
  unfold tupleD at e
  split at e
  · cases e
    obtain ⟨v, rfl⟩ := one_of hl
    have j' : Joint K H ((v, _) :: R) := j
    obtain ⟨p, rfl⟩ := j'.is_lst
    obtain ⟨us, hp, hlen, k⟩ := j'.unlst
    exact ⟨p, us, rfl, .inl ⟨.inl (.inl hp), fun l hl => q _ _ (Joint.tup hlen k hl)⟩⟩
  · cases e
    obtain ⟨v, rfl⟩ := one_of hl
    have j' : Joint K H ((v, _) :: R) := j
    obtain ⟨p, rfl⟩ := j'.is_tup
    obtain ⟨us, hp, hlen, k⟩ := j'.untup
    exact ⟨p, us, rfl, .inr ⟨.inl (.inl hp), q _ _ j'⟩⟩
  · cases e
theorem c_list : CallS K (fun xs H Q => ∃ p ys, xs = [.ref p] ∧ (SqL K H p ys ∨ SqT K H p ys) ∧ ∀ l, H l = none → Q (.ref l) (upd H l (.lst ys))) listD := by
  intro H R vs ds d Q hl e j q
  unfold listD at e
  split at e
  · cases e
    obtain ⟨v, rfl⟩ := one_of hl
    have j' : Joint K H ((v, _) :: R) := j
    obtain ⟨p, rfl⟩ := j'.is_lst
    obtain ⟨us, hp, hlen, k⟩ := j'.unlst
    exact ⟨p, us, rfl, .inl (.inl (.inl hp)), fun l hl => q _ _ (Joint.lst hlen k hl)⟩
  · cases e
    obtain ⟨v, rfl⟩ := one_of hl
    have j' : Joint K H ((v, _) :: R) := j
    obtain ⟨p, rfl⟩ := j'.is_tup
    obtain ⟨us, hp, hlen, k⟩ := j'.untup
    exact ⟨p, us, rfl, .inr (.inl (.inl hp)), fun l hl => q _ _ (Joint.lst hlen k hl)⟩
  · cases e
def ixD : D → D → Option D
  | .lst _ xs, .int i => atI (D.frzs xs) i
  | .tup xs, .int i => atI (D.frzs xs) i
  | .scr ns, .int i => (atI ns i).map .int
  | _, _ => none
theorem atI_zip {vs : List V} {ds : List D} {i : Int} {d : D} (hl : vs.length = ds.length) (h : atI ds i = some d) : ∃ (n : Nat) (v : V), atI vs i = some v ∧ vs[n]? = some v ∧ ds[n]? = some d := by
  unfold atI at h ⊢
  rw [hl]
  cases q : ixN ds.length i with
  | none => rw [q] at h; cases h
  | some n =>
    rw [q] at h
    have h : ds[n]? = some d := h
    have hn : n < vs.length := by rw [hl]; exact (List.getElem?_eq_some_iff.mp h).1
    exact ⟨n, vs[n], List.getElem?_eq_getElem hn, List.getElem?_eq_getElem hn, h⟩
theorem s_ix : Op2 K (rIx K) ixD := by
  intro H R v1 v2 d1 d2 d Q e j q
  unfold ixD at e
  split at e
  · rename_i o xs i
    have ei := j.is_int
    obtain ⟨p, rfl⟩ := j.sw.is_lst
    have j1 : Joint K H ((.ref p, .lst false (D.frzs xs)) :: R) := j.drop.freeze.drop
    obtain ⟨vs, sq, hl, get⟩ := j1.itemL
    obtain ⟨n, v, h1, h2, h3⟩ := atI_zip hl e
    exact .inl ⟨p, vs, i, v, rfl, ei, .inl (.inl sq), h1, q _ _ (get n v d h2 h3).sw.drop⟩
  · rename_i xs i
    have ei := j.is_int
    obtain ⟨p, rfl⟩ := j.sw.is_tup
    have j1 : Joint K H ((.ref p, .tup (D.frzs xs)) :: R) := j.drop.freeze.drop
    obtain ⟨vs, sq, hl, get⟩ := j1.itemT (D.frzs_frzs xs)
    obtain ⟨n, v, h1, h2, h3⟩ := atI_zip hl e
    exact .inr (.inl ⟨p, vs, i, v, rfl, ei, .inl (.inl sq), h1, q _ _ (get n v d h2 h3).sw.drop⟩)
  · rename_i ns i
    have ei := j.is_int
    obtain ⟨p, rfl, sq⟩ := j.sw.is_scr
    simp only [Option.map_eq_some_iff] at e
    obtain ⟨a, h, rfl⟩ := e
    refine .inl ⟨p, _, i, .int a, rfl, ei, sq, ?_, q _ _ (ju_int j.drop.drop)⟩
    unfold atI at h ⊢
    rw [List.length_map]
    cases z : ixN ns.length i with
    | none => rw [z] at h; cases h
    | some n =>
      rw [z] at h
      have h : ns[n]? = some a := h
      show (ns.map V.int)[n]? = some (.int a)
      rw [List.getElem?_map, h]; rfl
  · cases e
end
section
variable {c : Cfg} {X : Cx} {a b e : Expr} {fa fb fe : EM} {pos : Pos}
theorem w_ix (hK : c.K = X.K) (ha : PE X a (T c fa)) (hb : PE X b (T c fb)) (hs : PlainIx b := by exact fun _ _ => rfl) : PE X (.Subscript a b pos) (T c (binM ixD fa fb)) :=
  pe_mono (pe_ix ix_seq ha hb hs) fun _ _ _ h => t_op2 (hK ▸ s_ix) h
end
end WF
namespace WF
open PySem PySem.Spec PyProof.Rows L2
mutual
def D.imm : D → Bool
  | .non => true
  | .bl _ => true
  | .int _ => true
  | .str _ => true
  | .vl _ => true
  | .tup xs => D.imms xs
  | _ => false
def D.imms : List D → Bool
  | [] => true
  | x :: xs => x.imm && D.imms xs
end
mutual
theorem D.imm_frz : ∀ d : D, d.imm = true → d.frz = d
  | .non, _ => rfl
  | .bl _, _ => rfl
  | .int _, _ => rfl
  | .str _, _ => rfl
  | .vl _, _ => rfl
  | .tup xs, h => by simp only [D.imm] at h; simp only [D.frz, D.imms_frz xs h]
  | .un, h => by cases h
  | .lst _ _, h => by cases h
  | .dic _ _ _, h => by cases h
  | .dtk _ _ _, h => by cases h
  | .scr _, h => by cases h
  | .hld _, h => by cases h
  | .con _, h => by cases h
  | .exn _ _ _, h => by cases h
  | .tab _, h => by cases h
  | .obj _ _ _ _, h => by cases h
theorem D.imms_frz : ∀ ds : List D, D.imms ds = true → D.frzs ds = ds
  | [], _ => rfl
  | d :: ds, h => by
    simp only [D.imms, Bool.and_eq_true] at h
    simp only [D.frzs, D.imm_frz d h.1, D.imms_frz ds h.2]
end
section
variable {K : PySem.W.Frag} {H : Hp} {R : List Pr} {p : Addr} {ds : List D}
theorem Joint.itemO (j : Joint K H ((.ref p, .lst true ds) :: R)) : ∃ vs, H p = some (.lst vs) ∧ vs.length = ds.length ∧ ∀ (n : Nat) v d, vs[n]? = some v → ds[n]? = some d → d.frz = d → Joint K H ((v, d) :: (.ref p, .lst true ds) :: R) := by
  obtain ⟨G, fp, g, r, n, z⟩ := j
  have r0 := r
  cases r with
  | @lo p C vs ds f L fp a b e r1 r2 =>
    subst b e
    refine ⟨_, a, by simp, fun i v d h1 h2 hd => ⟨G, _, g, ?_, n, z⟩⟩
    have hC : C[i]? = some (v, d) := by
      rw [List.getElem?_map] at h1 h2
      cases q : C[i]? with
      | none => rw [q] at h1; cases h1
      | some y => rw [q] at h1 h2; cases h1; cases h2; rfl
    obtain ⟨hlt, e⟩ := List.getElem?_eq_some_iff.mp hC
    have hs : C = C.take i ++ ((v, d) :: C.drop (i + 1)) := by
      rw [← e, ← List.drop_eq_getElem_cons hlt, List.take_append_drop]
    rw [hs] at r1
    obtain ⟨f1, f2, rfl, q1, q2⟩ := r1.unappend
    obtain ⟨f3, f4, rfl, q3, q4⟩ := q2.uncons
    have e3 := q3.pure fun x m => by
      have : x = (v, d) := by simpa using m
      rw [this]; exact hd
    subst e3
    exact Reps.append (L := [(v, d)]) (fp := []) q3 r0
theorem Joint.sub {L L' : List Pr} (s : L'.Sublist L) : ∀ {R : List Pr}, Joint K H (L ++ R) → Joint K H (L' ++ R) := by
  induction s with
  | slnil => intro R j; exact j
  | cons x _ ih => intro R j; exact ih (Joint.drop (x := x) j)
  | cons_cons x _ ih =>
    intro R j
    have k := ih (R := x :: R) (j.perm (perm_take (A := _)).symm)
    exact k.perm perm_take
def cutD (xs : List D) (lo hi : Option Int) : List D := (xs.drop (HT.sIx xs.length 0 lo)).take (HT.sIx xs.length xs.length hi - HT.sIx xs.length 0 lo)
theorem cut_zip {vs : List V} {ds : List D} {lo hi : Option Int} (hl : vs.length = ds.length) : (cutV vs lo hi).length = (cutD ds lo hi).length ∧ ((cutV vs lo hi).zip (cutD ds lo hi)).Sublist (vs.zip ds) := by
  unfold cutV cutD
  rw [hl]
  refine ⟨by simp [hl], ?_⟩
  have e : ∀ a b : Nat, ((vs.drop a).take b).zip ((ds.drop a).take b) = ((vs.zip ds).drop a).take b := fun a b => by
    simp only [List.zip, List.take_zipWith, List.drop_zipWith]
  rw [e]
  exact (List.take_sublist _ _).trans (List.drop_sublist _ _)
def sliceD (d : D) (lo hi : Option Int) : Option D := match d with
  | .lst _ xs => some (.lst true (cutD xs lo hi))
  | .tup xs => some (.tup (cutD xs lo hi))
  | .scr ns => some (.lst true (cutD (ns.map .int) lo hi))
  | _ => none
def rSlS (K : PySem.W.Frag) : V → Option Int → Option Int → Hp → VK → Prop := fun x lo hi H Q => rSlL K x lo hi H Q ∨ rSlA K x lo hi H Q
theorem sl_S {X : Cx} : SlR X (rSlS X.K) := SlR.or sl_list sl_tupA
theorem cut_all {ds : List D} {lo hi : Option Int} (h1 : HT.sIx ds.length 0 lo = 0) (h2 : HT.sIx ds.length ds.length hi = ds.length) : cutD ds lo hi = ds := by
  unfold cutD
  rw [h1, h2]
  simp
theorem s_slice {v : V} {d r : D} {lo hi : Option Int} {Q : VK} (e : sliceD d lo hi = some r) (j : Joint K H ((v, d) :: R)) (q : ∀ v H', Joint K H' ((v, r) :: R) → Q v H') : rSlS K v lo hi H Q := by
  unfold sliceD at e
  split at e
  · cases e
    obtain ⟨p, rfl⟩ := j.is_lst
    obtain ⟨vs, hp, hl, k⟩ := j.unlst
    obtain ⟨c1, c2⟩ := cut_zip (lo := lo) (hi := hi) hl
    exact .inl ⟨p, vs, rfl, .inl (.inl hp), fun l hn => q _ _ (Joint.lst c1 (k.sub c2) hn)⟩
  · rename_i xs
    cases e
    obtain ⟨p, rfl⟩ := j.is_tup
    obtain ⟨vs, hp, hl, k⟩ := j.untup
    obtain ⟨c1, c2⟩ := cut_zip (lo := lo) (hi := hi) hl
    refine .inr ⟨p, vs, rfl, .inl (.inl hp), fun h => q _ _ ?_, fun _ l hn => q _ _ (Joint.tup c1 (k.sub c2) hn)⟩
    rw [hl] at h
    rw [cut_all h.1 h.2]
    exact j
  · rename_i ns
    cases e
    obtain ⟨p, rfl, sq⟩ := j.is_scr
    refine .inl ⟨p, _, rfl, sq, fun l hn => q _ _ (Joint.lst ?_ ?_ hn)⟩
    · exact (cut_zip (ds := ns.map .int) (by simp)).1
    · refine Joint.sub (cut_zip (ds := ns.map .int) (by simp)).2 ?_
      have : ∀ ns : List Int, Joint K H (((ns.map V.int).zip (ns.map D.int)) ++ R) := by
        intro ns
        induction ns with
        | nil => exact j.drop
        | cons n ns ih => exact ju_int ih
      exact this ns
  · cases e
end
def ixO (d k : D) : Option (D × D) := match d, k with
  | .lst false xs, .int i => (atI xs i).map fun x => (x, .lst false xs)
  | .lst true xs, .int i => match atI xs i with
    | some x => if x.imm then some (x, .lst true xs) else (atI (D.frzs xs) i).map fun y => (y, .lst false (D.frzs xs))
    | none => none
  | .tup xs, .int i => (atI (D.frzs xs) i).map fun x => (x, .tup (D.frzs xs))
  | .scr ns, .int i => (atI ns i).map fun x => (.int x, .scr ns)
  | _, _ => none
section
variable {K : PySem.W.Frag} {H : Hp} {R : List Pr}
theorem s_ixO {v kv : V} {d k x d' : D} {Q : VK} (e : ixO d k = some (x, d')) (j : Joint K H ((kv, k) :: (v, d) :: R)) (q : ∀ u, Joint K H ((u, x) :: (v, d') :: R) → Q u H) : rIx K v kv H Q := by
  unfold ixO at e
  split at e
  · rename_i xs i
    simp only [Option.map_eq_some_iff, Prod.mk.injEq] at e
    obtain ⟨y, e1, rfl, rfl⟩ := e
    have ei := j.is_int
    obtain ⟨p, rfl⟩ := j.sw.is_lst
    obtain ⟨vs, sq, hl, get⟩ := j.drop.itemL
    obtain ⟨n, u, h1, h2, h3⟩ := atI_zip hl e1
    exact .inl ⟨p, vs, i, u, rfl, ei, .inl (.inl sq), h1, q _ (get n u _ h2 h3)⟩
  · rename_i xs i
    split at e
    · rename_i y e1
      split at e
      · rename_i him
        simp only [Option.some.injEq, Prod.mk.injEq] at e
        obtain ⟨rfl, rfl⟩ := e
        have ei := j.is_int
        obtain ⟨p, rfl⟩ := j.sw.is_lst
        obtain ⟨vs, hp, hl, get⟩ := j.drop.itemO
        obtain ⟨n, u, h1, h2, h3⟩ := atI_zip hl e1
        exact .inl ⟨p, vs, i, u, rfl, ei, .inl (.inl hp), h1, q _ (get n u _ h2 h3 (D.imm_frz _ him))⟩
      · simp only [Option.map_eq_some_iff, Prod.mk.injEq] at e
        obtain ⟨y, e1, rfl, rfl⟩ := e
        have ei := j.is_int
        obtain ⟨p, rfl⟩ := j.sw.is_lst
        have j1 : Joint K H ((.ref p, .lst false (D.frzs xs)) :: R) := j.drop.freeze.drop
        obtain ⟨vs, sq, hl, get⟩ := j1.itemL
        obtain ⟨n, u, h1, h2, h3⟩ := atI_zip hl e1
        exact .inl ⟨p, vs, i, u, rfl, ei, .inl (.inl sq), h1, q _ (get n u _ h2 h3)⟩
    · cases e
  · rename_i xs i
    simp only [Option.map_eq_some_iff, Prod.mk.injEq] at e
    obtain ⟨y, e1, rfl, rfl⟩ := e
    have ei := j.is_int
    obtain ⟨p, rfl⟩ := j.sw.is_tup
    have j1 : Joint K H ((.ref p, .tup (D.frzs xs)) :: R) := j.drop.freeze.drop
    obtain ⟨vs, sq, hl, get⟩ := j1.itemT (D.frzs_frzs xs)
    obtain ⟨n, u, h1, h2, h3⟩ := atI_zip hl e1
    exact .inr (.inl ⟨p, vs, i, u, rfl, ei, .inl (.inl sq), h1, q _ (get n u _ h2 h3)⟩)
  · rename_i ns i
    simp only [Option.map_eq_some_iff, Prod.mk.injEq] at e
    obtain ⟨a, h, rfl, rfl⟩ := e
    have ei := j.is_int
    obtain ⟨p, rfl, sq⟩ := j.sw.is_scr
    refine .inl ⟨p, _, i, .int a, rfl, ei, sq, ?_, q _ (ju_int j.drop)⟩
    unfold atI at h ⊢
    rw [List.length_map]
    cases z : ixN ns.length i with
    | none => rw [z] at h; cases h
    | some n =>
      rw [z] at h
      have h : ns[n]? = some a := h
      show (ns.map V.int)[n]? = some (.int a)
      rw [List.getElem?_map, h]; rfl
  · cases e
end
def hasM (i : Nat) (f : EM) : EM := fun S => match S[i]? with
  | some d => if isUn d then none else f S
  | none => none
def ixS (i : Nat) (fb : EM) : EM := bindM fb fun k S => match S[i]? with
  | some d => match ixO d k with
    | some (x, d') => if isUn d then none else some (.ok x, S.set i d')
    | none => none
  | none => none
section
variable {c : Cfg} {X : Cx} {S : S0} {tm tm0 : List Pr} {σ : L2.St} {H : Hp} {a b e : Expr} {fa fb fe : EM} {pos : Pos} {i : Nat}
theorem SJ.get2 {d k : D} {kv : V} (j : SJ c S ((kv, k) :: tm) σ H) (h : S[i]? = some d) (hu : isUn d = false) : ∃ v, σ[i]? = some (some v) ∧ ∃ Z, Joint c.K H ((kv, k) :: (v, d) :: Z) ∧
    ∀ (d' : D) (tm' : List Pr) H', Joint c.K H' ((v, d') :: (tm' ++ Z)) → SJ c (S.set i d') (tm' ++ tm) σ H' := by
  obtain ⟨v, ev⟩ := j.set i d h (isUn_ne hu)
  obtain ⟨Z, p1, p2, _⟩ := slot_get ev h j.len
  refine ⟨v, ev, Z ++ (tm ++ c.rs), j.take.perm (List.Perm.cons _ (List.Perm.append_right _ p1)), fun d' tm' H' q => ⟨?_, fun n u h' hn => ?_, j.pv, j.lp, ?_⟩⟩
  · rw [List.length_set]; exact j.len
  · by_cases hi : n = i
    · exact ⟨v, by rw [hi]; exact ev⟩
    · rw [List.getElem?_set_ne (Ne.symm hi)] at h'
      exact j.set n u h' hn
  · refine q.perm ?_
    have e1 : ((v, d') :: (tm' ++ (Z ++ (tm ++ c.rs)))).Perm (((v, d') :: Z) ++ ((tm' ++ tm) ++ c.rs)) := by
      refine List.Perm.cons _ ?_
      rw [List.append_assoc tm' tm]
      exact perm_sw
    exact e1.trans (List.Perm.append_right _ (p2 d').symm)
theorem w_ixS (hK : c.K = X.K) (ha : PE X a (tVar i)) (hb : PE X b (T c fb)) (hs : PlainIx b := by exact fun _ _ => rfl) : PE X (.Subscript a b pos) (T c (hasM i (ixS i fb))) :=
  pe_mono (pe_ix ix_seq ha hb hs) fun σ H Q h => by
    obtain ⟨S, tm, j, p⟩ := h
    unfold hasM at p
    split at p
    · rename_i d hd
      split at p
      · exact p.elim
      · rename_i hu
        obtain ⟨v, ev⟩ := j.set i d hd (isUn_ne (by simpa using hu))
        refine ⟨v, ev, (post_bind j p).mono fun kv H1 ⟨k, S1, j1, p1⟩ => ?_⟩
        split at p1
        · rename_i d1 hd1
          split at p1
          · rename_i x d' hx
            split at p1
            · exact p1.elim
            · rename_i hu1
              obtain ⟨v', ev', Z, k2, put⟩ := j1.get2 hd1 (by simpa using hu1)
              have : v' = v := by rw [ev] at ev'; exact (Option.some.inj (Option.some.inj ev')).symm
              subst this
              exact hK ▸ s_ixO hx k2 fun u k3 => p1 u H1 (put d' [(u, x)] H1 k3.sw)
          · exact p1.elim
        · exact p1.elim
    · exact p.elim
def optE : Option EM → (Option Int → EM) → EM
  | none, g => g none
  | some f, g => bindM f fun d => match d with
    | .int i => g (some i)
    | _ => fun _ => none
def sliceM (fe : EM) (lo hi : Option EM) : EM := bindM fe fun d => optE lo fun l => optE hi fun h => optM (sliceD d l h)
def tOpt (c : Cfg) : Option EM → TO
  | none => tNoPart
  | some f => tPart (T c f)
theorem wo_none : PO X none (tOpt c none) := po_none
theorem wo_some (h : PE X e (T c fe)) : PO X (some e) (tOpt c (some fe)) := po_some h
theorem tOpt_mono {o : Option EM} {Q Q' : Option Int → Hp → Prop} (h : tOpt c o σ H Q) (q : ∀ x H, Q x H → Q' x H) : tOpt c o σ H Q' := by
  cases o with
  | none => exact q _ _ h
  | some f => exact T.mono h fun v H1 ⟨n, e, h2⟩ => ⟨n, e, q _ _ h2⟩
theorem post_optE {o : Option EM} {g : Option Int → EM} {Q : VK} (j : SJ c S tm σ H) (p : post c (optE o g S) tm0 σ Q) : tOpt c o σ H (fun l H1 => ∃ S' ex, SJ c S' (ex ++ tm) σ H1 ∧ post c (g l S') tm0 σ Q) := by
  cases o with
  | none => exact ⟨S, [], j, p⟩
  | some f =>
    refine (post_bind (fa := f) j p).mono fun v H1 ⟨d, S1, j1, p1⟩ => ?_
    split at p1
    · exact ⟨_, j1.take.is_int, S1, [_], j1, p1⟩
    · exact p1.elim
theorem w_slice {lo hi : Option Expr} {flo fhi : Option EM} {p2 : Pos} (hK : c.K = X.K) (he : PE X e (T c fe)) (hl : PO X lo (tOpt c flo)) (hh : PO X hi (tOpt c fhi)) : PE X (.Subscript e (.Slice lo hi none p2) pos) (T c (sliceM fe flo fhi)) :=
  pe_mono (pe_slice sl_S he hl hh) fun σ H Q h => by
    obtain ⟨S, tm, j, p⟩ := h
    refine (post_bind j p).mono fun v H1 ⟨d, S1, j1, p1⟩ => ?_
    refine tOpt_mono (post_optE j1 p1) fun l H2 ⟨S2, ex2, j2, p2⟩ => ?_
    refine tOpt_mono (post_optE j2 p2) fun u H3 ⟨S3, ex3, j3, p3⟩ => ?_
    obtain ⟨r, e, q⟩ := post_opt p3
    have j4 : SJ c S3 ((v, d) :: tm) σ H3 := (j3.dropL).dropL
    exact hK ▸ s_slice e j4.take fun v H' k => q v H' (j4.put k)
end
end WF
namespace WF
open PySem PySem.Spec PyProof.Rows L2
abbrev IP := Int → Int → Bool
def tailM (q : IP) (b : Int) (fc : EM) : EM := bindM fc fun z => match z with
  | .int d => retM (.bl (q b d))
  | _ => fun _ => none
def chain2M (p q : IP) (fa fb fc : EM) : EM := bindM fa fun x => bindM fb fun y => match x, y with
  | .int a, .int b => if p a b then tailM q b fc else retM (.bl false)
  | _, _ => fun _ => none
def chain3M (p q r : IP) (fa fb fc fd : EM) : EM := bindM fa fun x => bindM fb fun y => match x, y with
  | .int a, .int b => if p a b then bindM fc fun z => (match z with
      | .int d => if q b d then tailM r d fd else retM (.bl false)
      | _ => fun _ => none) else retM (.bl false)
  | _, _ => fun _ => none
section
variable {c : Cfg} {X : Cx} {S : S0} {tm tm0 : List Pr} {σ : L2.St} {H : Hp} {a b e d : Expr} {fa fb fc fd fe : EM} {pos : Pos} {p q r : IP}
variable {o1 o2 o3 : CmpOp}
def augM (i : Nat) (op : D → D → Option D) (fe : EM) : SM := fun S => match S[i]? with
  | some (.int n) => bindS fe (fun d S1 => match op (.int n) d with
    | some r => if i < S1.length then some (.nx, S1.set i r) else none
    | none => none) S
  | _ => none
end
end WF
namespace WF
open PySem PySem.Spec PyProof.Rows L2
def roM (op : List D → Option D) (as : List Ar) : EM := argsA as fun av S => match takeA av S with
  | some (ds, S1) => match op ds with
    | some d => if ds.length = av.length then some (.ok d, putA av ds S1) else none
    | none => none
  | none => none
def op2 (op : D → D → Option D) : List D → Option D
  | [a, b] => op a b
  | _ => none
section
variable {c : Cfg} {X : Cx} {S : S0} {tm tm0 : List Pr} {σ : L2.St} {H : Hp} {e a b : Expr} {es : List Expr} {as : List Ar} {pos p : Pos} {x : Str} {id ty : String} {r : List V → Hp → VK → Prop} {op : List D → Option D}
theorem t_ro {Q : VK} (hs : CallRO c.K r op) (h : T c (roM op as) σ H Q) : tArgsA c as σ H (fun vs H1 => r vs H1 Q) := by
  obtain ⟨S, tm, j, p⟩ := h
  refine tArgsA_mono (post_argsA as j p) fun vs H1 ⟨av, S1, L, a, al, j1, p1⟩ => ?_
  split at p1
  · rename_i ds S2 ht
    have jj : Joint c.K H1 (slotL σ S1 ++ (L ++ (tm ++ c.rs))) := by
      have := j1.jt
      rwa [List.append_assoc] at this
    obtain ⟨h1, h2, h3, h4, h5⟩ := take_ok a ht j1.sl jj
    split at p1
    · rename_i d hm
      split at p1
      · obtain ⟨g1, g2⟩ := h5 ds rfl
        refine hs H1 _ vs ds d Q h1 hm h4 fun v k => p1 v H1 (g1.sj ?_)
        refine Joint.perm perm_take.symm ?_
        have k2 : Joint c.K H1 (vs.zip ds ++ (slotL σ S2 ++ ((v, d) :: (tm ++ c.rs)))) := k.perm ((perm_take.symm).trans (List.Perm.append_left _ perm_take.symm))
        exact (g2 H1 _ k2).perm perm_take
      · exact p1.elim
    · exact p1.elim
  · exact p1.elim
theorem w_roB (hc : CallR X (.builtin id) r) (hs : CallRO c.K r op) (hg : Gl X x) (hm : X.mg x = none) (hv : bootBuiltins x = some (.builtin id)) (ha : PA X (e :: es) (tArgsA c as)) (hn : x ≠ "__name__" := by decide) (hdb : (x == ("__debug__" : Str)) = false := by decide)
    (he : starEach (e :: es) X.env = (false, eval e X.env) :: starEach es X.env := by rfl) (hpl : (backTo pos (starEach es X.env)).any (·.1) = false := by rfl) : PE X (.Call (.Name x p) (e :: es) [] pos) (T c (roM op as)) :=
  pe_mono (pe_callB hc hg hm hv ha hn hdb he hpl) fun _ _ _ h => t_ro hs h
theorem w_roTy (hc : CallR X (.type ty) r) (hs : CallRO c.K r op) (hg : Gl X x) (hm : X.mg x = none) (hv : bootBuiltins x = some (.type ty)) (ha : PA X (e :: es) (tArgsA c as)) (hn : x ≠ "__name__" := by decide) (hdb : (x == ("__debug__" : Str)) = false := by decide)
    (he : starEach (e :: es) X.env = (false, eval e X.env) :: starEach es X.env := by rfl) (hpl : (backTo pos (starEach es X.env)).any (·.1) = false := by rfl) : PE X (.Call (.Name x p) (e :: es) [] pos) (T c (roM op as)) :=
  pe_mono (pe_callTy hc hg hm hv ha hn hdb he hpl) fun _ _ _ h => t_ro hs h
def tAr (c : Cfg) : Ar → TE
  | .v f => T c f
  | .s i => tVar i
theorem wr_v {f : EM} (h : PE X e (T c f)) : PE X e (tAr c (.v f)) := h
theorem wr_s {i : Nat} (h : PE X e (tVar i)) : PE X e (tAr c (.s i)) := h
theorem tArgsA_cons {y : Ar} {ys : List Ar} : tArgsA c (y :: ys) = tCons (tAr c y) (tArgsA c ys) := by cases y <;> rfl
def r2L (r : R2) : List V → Hp → VK → Prop := fun vs H Q => ∃ x y, vs = [x, y] ∧ r x y H Q
theorem ro2 {K : PySem.W.Frag} {r : R2} {op : D → D → Option D} (h : Op2R K r op) : CallRO K (r2L r) (op2 op) := by
  intro H R vs ds d Q hl e j q
  match ds, vs, hl, e, j, q with
  | [d1, d2], [v1, v2], _, e, j, q =>
    have j' : Joint K H ((v1, d1) :: (v2, d2) :: R) := j
    exact ⟨v1, v2, rfl, h H R v1 v2 d1 d2 d Q e j'.sw fun v k => q v (k.perm (List.Perm.cons _ (List.Perm.swap _ _ _)))⟩
theorem t_ro2 {r : R2} {op : D → D → Option D} {y z : Ar} {Q : VK} (hs : Op2R c.K r op) (h : T c (roM (op2 op) [y, z]) σ H Q) : tOp r (tAr c y) (tAr c z) σ H Q := by
  have q := t_ro (ro2 hs) h
  rw [tArgsA_cons, tArgsA_cons] at q
  have mono : ∀ {w : Ar} {σ : L2.St} {H : Hp} {Q Q' : VK}, tAr c w σ H Q → (∀ v H, Q v H → Q' v H) → tAr c w σ H Q' := fun {w σ H Q Q'} h q => by
    cases w with
    | v f => exact T.mono h q
    | s i => obtain ⟨v, e, h⟩ := h; exact ⟨v, e, q _ _ h⟩
  refine mono q fun v H1 q1 => mono q1 fun w H2 q2 => ?_
  obtain ⟨v', w', e, q3⟩ := q2
  cases e
  exact q3
theorem w_cmpR {o : CmpOp} {r : R2} {op : D → D → Option D} {y z : Ar} (ho : OpR X (compareOp o) r) (hs : Op2R c.K r op) (ha : PE X a (tAr c y)) (hb : PE X b (tAr c z)) (hm : behindInMarks o b = false := by first | exact nomark _ | rfl) : PE X (.Compare a [o] [b] pos) (T c (roM (op2 op) [y, z])) :=
  pe_mono (pe_cmpR ho ha hb hm) fun _ _ _ h => t_ro2 hs h
theorem wt_cmpR {o : CmpOp} {r : R2} {op : D → D → Option D} {y z : Ar} (ho : OpR X (compareOp o) r) (hs : Op2R c.K r op) (ha : PE X a (tAr c y)) (hb : PE X b (tAr c z)) (hm : behindInMarks o b = false := by first | exact nomark _ | rfl) : PT X (.Compare a [o] [b] pos) (Tt c (roM (op2 op) [y, z])) :=
  pt_mono (pt_cmpR ho ha hb hm) fun _ _ _ h => t_ro2 hs h
end
inductive Ty where
  | int | bool | str | none | list | tuple | dict
  deriving DecidableEq
def Ty.nm : Ty → String
  | .int => "int" | .bool => "bool" | .str => "str" | .none => "NoneType" | .list => "list" | .tuple => "tuple" | .dict => "dict"
def Ty.sub (a b : Ty) : Bool := decide (a = b) || (decide (a = .bool) && decide (b = .int))
def tyNm (n : String) : Option Ty := if n = "int" then some .int else if n = "bool" then some .bool else if n = "str" then some .str else if n = "list" then some .list else if n = "tuple" then some .tuple else if n = "dict" then some .dict else none
theorem tyNm_ok {n : String} {t : Ty} (h : tyNm n = some t) : n = t.nm := by
  unfold tyNm at h
  repeat' split at h
  all_goals first | (cases h; assumption) | cases h
theorem kit_tab (a b : Ty) : kitB a.nm b.nm = some (a.sub b) := by cases a <;> cases b <;> decide +kernel
def D.ty : D → Option Ty
  | .non => some .none
  | .bl _ => some .bool
  | .int _ => some .int
  | .str _ => some .str
  | .tup _ => some .tuple
  | .lst _ _ => some .list
  | .scr _ => some .list
  | .dic _ _ _ => some .dict
  | .dtk _ _ _ => some .dict
  | _ => none
section
variable {K : PySem.W.Frag} {H : Hp} {R : List Pr}
theorem Joint.ty {v : V} {d : D} {t : Ty} (j : Joint K H ((v, d) :: R)) (h : d.ty = some t) : TyX K H v (.type t.nm) := by
  obtain ⟨G, fp, g, r, n, z⟩ := j
  cases r with
  | un => cases h
  | non => cases h; exact .base .non
  | bl => cases h; exact .base (.bl _)
  | int => cases h; exact .base (.int _)
  | str => cases h; exact .base (.str _)
  | vl => cases h
  | hld q a _ => cases h
  | con => cases h
  | exn => cases h
  | tab => cases h
  | of => cases h
  | oo => cases h
  | scr a _ =>
    cases h
    rcases sqL_mono g a with (q | ⟨o, q⟩) | ⟨o, its, m, q1, q2, _⟩
    · exact .base (.lst q)
    · exact .base (.frz q)
    · exact .kList q1 q2
  | tup a => cases h; exact .base (.tup (g _ _ a))
  | lf a => cases h; exact .base (.lst (g _ _ a))
  | lo a => cases h; exact .base (.lst a)
  | kf a => cases h; exact .base (.dK (g _ _ a))
  | ko a => cases h; exact .base (.dK a)
  | tf a => cases h; exact .base (.dT (g _ _ a))
  | to a => cases h; exact .base (.dT a)
def tysD : List D → Option (List Ty)
  | [] => some []
  | .vl (.ty n) :: r => match tyNm n, tysD r with
    | some t, some ts => some (t :: ts)
    | _, _ => none
  | _ :: _ => none
def isiD : List D → Option D
  | [x, .vl (.ty n)] => match x.ty, tyNm n with
    | some a, some b => some (.bl (a.sub b))
    | _, _ => none
  | [x, .tup cs] => match x.ty, tysD cs with
    | some a, some bs => some (.bl (bs.any a.sub))
    | _, _ => none
  | _ => none
def rIsiA (K : PySem.W.Frag) : List V → Hp → VK → Prop := fun xs H Q => rIsi K xs H Q ∨ rIsiT K xs H Q
theorem call_isiA {X : Cx} : CallR X (.builtin "isinstance") (rIsiA X.K) := CallR.or call_isi call_isiT
theorem kitAny_tab (a : Ty) : ∀ bs : List Ty, PySem.W.kitAny K (.type a.nm) (bs.map fun b => .type b.nm) = some (bs.any a.sub)
  | [] => rfl
  | b :: bs => by
    refine kitAny_cons (kit_ty (kit_tab a b)) (fun h => ?_) fun h => ?_
    · rw [kitAny_tab a bs, List.any_cons, h, Bool.false_or]
    · rw [List.any_cons, h, Bool.true_or]
theorem tys_vals : ∀ {cs : List D} {bs : List Ty} {vs : List V}, tysD cs = some bs → vs.length = cs.length → Joint K H (vs.zip cs ++ R) → Paired ClsV vs (bs.map fun b => .type b.nm)
  | [], _, [], h, _, _ => by cases h; exact .nil
  | d :: cs, bs, v :: vs, h, hl, j => by
    unfold tysD at h
    split at h
    · rename_i heq; cases heq
    · rename_i n r heq
      cases heq
      split at h
      · rename_i t ts h1 h2
        cases h
        have e : v = .ty n := Joint.is_vl (R := vs.zip cs ++ R) j
        rw [e, tyNm_ok h1]
        exact .cons (.ty _) (tys_vals h2 (by simpa using hl) (Joint.drop (x := (v, _)) j))
      · cases h
    · cases h
  | [], _, _ :: _, _, h, _ => by simp at h
  | _ :: _, _, [], _, h, _ => by simp at h
theorem c_isi : CallRO K (rIsiA K) isiD := by
  intro H R vs ds d Q hl e j q
  unfold isiD at e
  split at e
  · split at e
    · rename_i x n a b h1 h2
      cases e
      obtain ⟨v, w, rfl⟩ := two_of hl
      have j' : Joint K H ((v, _) :: (w, _) :: R) := j
      refine .inl ⟨v, w, _, .type b.nm, a.sub b, rfl, ?_, j'.ty h1, kit_ty (kit_tab a b), q _ (ju_bl j)⟩
      rw [j'.sw.is_vl, tyNm_ok h2]
      exact .ty _
    · cases e
  · split at e
    · rename_i x cs a bs h1 h2
      cases e
      obtain ⟨v, w, rfl⟩ := two_of hl
      have j' : Joint K H ((v, _) :: (w, _) :: R) := j
      obtain ⟨p, rfl⟩ := j'.sw.is_tup
      obtain ⟨us, hp, hlen, k⟩ := j'.sw.untup
      exact .inr ⟨v, p, us, _, _, bs.any a.sub, rfl, hp, tys_vals h2 hlen k, j'.ty h1, kitAny_tab a bs, q _ (ju_bl j)⟩
    · cases e
  · cases e
end
section
variable {c : Cfg} {X : Cx} {x : Str} {pos : Pos}
theorem w_ty {n : String} (hg : Gl X x) (hm : X.mg x = none) (hv : bootBuiltins x = some (.type n)) (hn : x ≠ "__name__" := by decide) (hd : (x == ("__debug__" : Str)) = false := by decide) : PE X (.Name x pos) (T c (retM (.vl (.ty n)))) :=
  w_c (pe_bltn (v := .ty n) hg hm hv rfl hn hd) j_vl
end
end WF
namespace WF
open PySem PySem.Spec PyProof.Rows L2
def seqV : D → Option (List D × D)
  | .tup xs => some (D.frzs xs, .tup (D.frzs xs))
  | .lst o xs => some (D.frzs xs, .lst o (D.frzs xs))
  | _ => none
section
variable {K : PySem.W.Frag} {H : Hp} {R : List Pr} {p : Addr} {ds : List D} {v : V} {d : D}
theorem Joint.frzC {o : Bool} (j : Joint K H ((.ref p, .lst o ds) :: R)) : Joint K H ((.ref p, .lst o (D.frzs ds)) :: R) := by
  cases o with
  | false => exact j.freeze.drop
  | true =>
    obtain ⟨vs, hp, hl, k⟩ := j.openL
    obtain ⟨G, fp, g, r, n, z, gp, np⟩ := k
    obtain ⟨f1, f2, rfl, r1, r2⟩ := r.unappend
    obtain ⟨n1, n2, n3⟩ := List.nodup_append.mp n
    let G' : Hp := fun a => if a ∈ f1 then H a else G a
    have gg : GSub G G' := fun a o e => by
      show (if a ∈ f1 then H a else G a) = some o
      split
      · exact g a o e
      · exact e
    have gH : GSub G' H := fun a o e => by
      have e : (if a ∈ f1 then H a else G a) = some o := e
      split at e
      · exact e
      · exact g a o e
    have fr := r1.freeze gg fun a o m e => by
      show (if a ∈ f1 then H a else G a) = some o
      rw [if_pos m]; exact e
    have e1 : ((vs.zip ds).map fun x : Pr => (x.1, x.2.frz)) = vs.zip (D.frzs ds) := by
      rw [D.frzs_map, List.zip_map_right]; rfl
    rw [e1] at fr
    have hl2 : vs.length = (D.frzs ds).length := by rw [D.frzs_map, List.length_map]; exact hl
    refine ⟨G', p :: ([] ++ f2), gH, .lo hp (zip_fst hl2) (zip_snd hl2) fr (r2.mono gg fun _ _ _ h => h), ?_, fun a m => ?_⟩
    · exact List.nodup_cons.mpr ⟨fun m => np (List.mem_append_right _ m), n2⟩
    · rcases List.mem_cons.mp m with rfl | m
      · show (if a ∈ f1 then H a else G a) = none
        rw [if_neg (fun q => np (List.mem_append_left _ q))]; exact gp
      · have m : a ∈ f2 := m
        show (if a ∈ f1 then H a else G a) = none
        rw [if_neg (fun q => n3 a q a m rfl)]
        exact z a (List.mem_append_right _ m)
theorem Joint.seqV {xs : List D} {d' : D} (j : Joint K H ((v, d) :: R)) (h : seqV d = some (xs, d')) : Joint K H ((v, d') :: R) := by
  unfold WF.seqV at h
  split at h
  · cases h
    exact j.freeze.drop
  · cases h
    obtain ⟨p, rfl⟩ := j.is_lst
    exact j.frzC
  · cases h
theorem Joint.acc {xs : List D} {d0 d' : D} (h : WF.seqV d0 = some (xs, d')) (j : Joint K H ((v, d') :: R)) : ∃ p vs, v = .ref p ∧ ((∃ ys, d' = .lst true ys ∧ H p = some (.lst vs)) ∨ (∃ ys, d' = .lst false ys ∧ H p = some (.lst vs)) ∨ (∃ ys, d' = .tup ys ∧ H p = some (.tup vs))) ∧ vs.length = xs.length ∧
    ∀ (n : Nat) u x, vs[n]? = some u → xs[n]? = some x → Joint K H ((u, x) :: (v, d') :: R) := by
  unfold WF.seqV at h
  split at h
  · rename_i ys
    cases h
    obtain ⟨p, rfl⟩ := j.is_tup
    obtain ⟨vs, hp, hl, get⟩ := j.itemT (D.frzs_frzs ys)
    exact ⟨p, vs, rfl, .inr (.inr ⟨_, rfl, hp⟩), hl, get⟩
  · rename_i o ys
    cases h
    obtain ⟨p, rfl⟩ := j.is_lst
    cases o with
    | true =>
      obtain ⟨vs, hp, hl, get⟩ := j.itemO
      exact ⟨p, vs, rfl, .inl ⟨_, rfl, hp⟩, hl, fun n u x h1 h2 => get n u x h1 h2 (by
        rw [D.frzs_map, List.getElem?_map, Option.map_eq_some_iff] at h2
        obtain ⟨a, _, e⟩ := h2
        rw [← e, D.frz_frz])⟩
    | false =>
      obtain ⟨vs, hp, hl, get⟩ := j.itemL
      exact ⟨p, vs, rfl, .inr (.inl ⟨_, rfl, hp⟩), hl, get⟩
  · cases h
end
def argsAI : List Ar → (List Av → IM) → IM
  | [], g => g []
  | .v f :: r, g => bindI f fun d => argsAI r fun ds => g (.inl d :: ds)
  | .s i :: r, g => fun S => match S[i]? with
    | some d => if isUn d then none else argsAI r (fun ds => g (.inr i :: ds)) S
    | none => none
def seqVs : List D → Option (List (List D) × List D)
  | [] => some ([], [])
  | d :: r => match seqV d, seqVs r with
    | some (xs, d'), some (xss, ds') => some (xs :: xss, d' :: ds')
    | _, _ => none
def lentA : List Av → List D → List (Nat × D)
  | .inl _ :: r, _ :: ds => lentA r ds
  | .inr i :: r, d :: ds => (i, d) :: lentA r ds
  | _, _ => []
def walkM (comb : List (List D) → Option (List D)) (as : List Ar) : IM := argsAI as fun av S => match takeA av S with
  | some (ds, S1) => match seqVs ds with
    | some (xss, ds') => match comb xss with
      | some ys => some (.ok ys (lentA av ds'), S1)
      | none => none
    | none => none
  | none => none
theorem Iter.perm {K : PySem.W.Frag} {J : It} {h h' : List Pr} {ds : List D} (q : h.Perm h') (I : Iter K J h ds) : Iter K J h' ds :=
  ⟨fun i H L hi j => I.go i H L hi (j.perm (List.Perm.append_right _ q.symm)),
   fun i H L d x H' hd j y => (I.yld i H L d x H' hd (j.perm (List.Perm.append_right _ q.symm)) y).perm (List.Perm.cons _ (List.Perm.append_right _ q)),
   fun H L j => I.stop H L (j.perm (List.Perm.append_right _ q.symm))⟩
inductive SeqAll : List D → List (List D) → Prop where
  | nil : SeqAll [] []
  | cons {d d' xs ds xss} : seqV d = some (xs, d') → SeqAll ds xss → SeqAll (d' :: ds) (xs :: xss)
section
variable {c : Cfg} {X : Cx} {σ : L2.St} {R : It → Hp → Prop}
theorem post_argsAI : ∀ (fs : List Ar) {g : List Av → IM} {S : S0} {tm tm0 : List Pr} {H : Hp}, SJ c S tm σ H → postI c (argsAI fs g S) tm0 σ R →
    tArgsA c fs σ H (fun vs H1 => ∃ as S' L, AvOk σ as vs L ∧ as.length = fs.length ∧ SJ c S' (L ++ tm) σ H1 ∧ postI c (g as S') tm0 σ R)
  | [], _, S, _, _, _, j, p => ⟨[], S, [], .nil, rfl, j, p⟩
  | .v f :: fs, g, S, tm, tm0, H, j, p => by
    refine (post_bindI (fa := f) j p).mono fun v H1 ⟨d, S1, j1, p1⟩ => ?_
    refine tArgsA_mono (post_argsAI fs j1 p1) fun vs H2 ⟨as, S2, L, a, al, j2, p2⟩ => ?_
    exact ⟨.inl d :: as, S2, _, .v a, by simp [al], j2.perm perm_take, p2⟩
  | .s i :: fs, g, S, tm, tm0, H, j, p => by
    unfold argsAI at p
    split at p
    · rename_i d hd
      split at p
      · exact p.elim
      · rename_i hu
        obtain ⟨v, ev⟩ := j.set i d hd (isUn_ne (by simpa using hu))
        refine ⟨v, ev, tArgsA_mono (post_argsAI fs j p) fun vs H2 ⟨as, S2, L, a, al, j2, p2⟩ => ?_⟩
        exact ⟨.inr i :: as, S2, L, .s ev a, by simp [al], j2, p2⟩
    · exact p.elim
theorem seqVs_ok {K : PySem.W.Frag} {H : Hp} : ∀ {ds : List D} {xss : List (List D)} {ds' : List D} {vs : List V} {R : List Pr}, seqVs ds = some (xss, ds') → vs.length = ds.length → Joint K H (vs.zip ds ++ R) → vs.length = ds'.length ∧ SeqAll ds' xss ∧ Joint K H (vs.zip ds' ++ R)
  | [], xss, ds', vs, R, h, hl, j => by
    cases h
    exact ⟨hl, .nil, j⟩
  | d :: ds, xss, ds', v :: vs, R, h, hl, j => by
    unfold seqVs at h
    split at h
    · rename_i xs d' xss' ds2 h1 h2
      cases h
      have k1 : Joint K H (vs.zip ds ++ ((v, d') :: R)) := (Joint.seqV (R := vs.zip ds ++ R) j h1).perm perm_take.symm
      obtain ⟨a, b, k2⟩ := seqVs_ok h2 (by simpa using hl) k1
      exact ⟨by simp [a], .cons h1 b, k2.perm perm_take⟩
    · cases h
  | _ :: _, _, _, [], _, _, h, _ => by simp at h
theorem lent_split : ∀ {av : List Av} {vs : List V} {L : List Pr} {ds : List D}, AvOk σ av vs L → vs.length = ds.length → LentOk σ (lentA av ds) ∧ ∃ hold, (vs.zip ds).Perm (hold ++ lentL σ (lentA av ds))
  | [], [], [], [], .nil, _ => ⟨(fun x m => by cases m), [], List.Perm.refl _⟩
  | [], [], [], _ :: _, .nil, h => by simp at h
  | .inl _ :: av, v :: vs, _, d :: ds, .v a, h => by
    obtain ⟨lo, hold, p⟩ := lent_split a (ds := ds) (by simpa using h)
    exact ⟨lo, (v, d) :: hold, List.Perm.cons _ p⟩
  | .inr i :: av, v :: vs, L, d :: ds, .s ev a, h => by
    obtain ⟨lo, hold, p⟩ := lent_split a (ds := ds) (by simpa using h)
    refine ⟨fun x m => ?_, hold, ?_⟩
    · rcases List.mem_cons.mp m with rfl | m
      · exact ⟨v, ev⟩
      · exact lo x m
    · have ee : (σ.getD i none).getD .non = v := by rw [List.getD_eq_getElem?_getD, ev]; rfl
      show ((v, d) :: vs.zip ds).Perm (hold ++ (((σ.getD i none).getD .non, d) :: lentL σ (lentA av ds)))
      rw [ee]
      exact (List.Perm.cons _ p).trans perm_take.symm
  | .inl _ :: _, _ :: _, _, [], .v _, h => by simp at h
  | .inr _ :: _, _ :: _, _, [], .s _ _, h => by simp at h
theorem src_post {comb : List (List D) → Option (List D)} {as : List Ar} {H : Hp} (h : TIm c (walkM comb as) σ H R) :
    tArgsA c as σ H (fun vs H1 => ∃ ds xss ys, comb xss = some ys ∧ SeqAll ds xss ∧ vs.length = ds.length ∧ ds.length = as.length ∧ (∃ Z, Joint c.K H1 (vs.zip ds ++ Z)) ∧ ∀ J, Iter c.K J (vs.zip ds) ys → R J H1) := by
  obtain ⟨S, tm, j, p⟩ := h
  refine tArgsA_mono (post_argsAI as j p) fun vs H1 ⟨av, S1, L, a, al, j1, p1⟩ => ?_
  split at p1
  · rename_i ds S2 ht
    have jj : Joint c.K H1 (slotL σ S1 ++ (L ++ (tm ++ c.rs))) := by
      have := j1.jt
      rwa [List.append_assoc] at this
    obtain ⟨h1, h2, h3, h4, h5⟩ := take_ok a ht j1.sl jj
    split at p1
    · rename_i xss ds' hs
      split at p1
      · rename_i ys hy
        obtain ⟨g1, g2, g3⟩ := seqVs_ok hs h1 h4
        obtain ⟨lo, hold, pm⟩ := lent_split a g1
        refine ⟨ds', xss, ys, hy, g2, g1, by have := av_len a; omega, ⟨_, g3⟩, fun J IJ => ?_⟩
        refine p1 lo J hold H1 (IJ.perm pm) (h3.sj ?_)
        have k := g3.perm (List.Perm.append_right _ pm)
        have e1 : ((hold ++ lentL σ (lentA av ds')) ++ (slotL σ S2 ++ (tm ++ c.rs))).Perm (slotL σ S2 ++ (hold ++ (lentL σ (lentA av ds') ++ tm) ++ c.rs)) := by
          rw [List.append_assoc hold (lentL σ (lentA av ds') ++ tm), List.append_assoc (lentL σ (lentA av ds')) tm, ← List.append_assoc hold]
          exact perm_sw
        exact k.perm e1
      · exact p1.elim
    · exact p1.elim
  · exact p1.elim
def comb1 : List (List D) → Option (List D)
  | [xs] => some xs
  | _ => none
theorem iter_seqL {K : PySem.W.Frag} {p : Addr} {d d' : D} {xs : List D} (h : seqV d = some (xs, d')) (hd : ∃ o ys, d' = .lst o ys) : Iter K (Itl K p) [(.ref p, d')] xs := by
  have main : ∀ {H : Hp} {L : List Pr}, Joint K H ([(.ref p, d')] ++ L) → ∃ vs, SqL K H p vs ∧ vs.length = xs.length ∧ ∀ (n : Nat) u x, vs[n]? = some u → xs[n]? = some x → Joint K H ((u, x) :: ([(.ref p, d')] ++ L)) := fun {H L} j => by
    obtain ⟨q, vs, e, k, hl, get⟩ := Joint.acc (R := L) h j
    cases e
    obtain ⟨o, ys, rfl⟩ := hd
    rcases k with ⟨zs, e, hp⟩ | ⟨zs, e, hp⟩ | ⟨zs, e, hp⟩
    · exact ⟨vs, .inl (.inl hp), hl, get⟩
    · exact ⟨vs, .inl (.inl hp), hl, get⟩
    · cases e
  refine ⟨fun i H L hi j => ?_, fun i H L d x H' hd j y => ?_, fun H L j => ?_⟩
  · obtain ⟨vs, sq, hl, get⟩ := main j
    exact ⟨vs, vs[i]'(by omega), sq, List.getElem?_eq_getElem _⟩
  · obtain ⟨vs, sq, hl, get⟩ := main j
    obtain ⟨rfl, y2⟩ := y
    exact get i x d (y2 vs sq) hd
  · obtain ⟨vs, sq, hl, get⟩ := main j
    exact ⟨vs, sq, by omega⟩
theorem iter_seqT {K : PySem.W.Frag} {p : Addr} {d d' : D} {xs : List D} (h : seqV d = some (xs, d')) (hd : ∃ ys, d' = .tup ys) : Iter K (Itt K p) [(.ref p, d')] xs := by
  have main : ∀ {H : Hp} {L : List Pr}, Joint K H ([(.ref p, d')] ++ L) → ∃ vs, SqT K H p vs ∧ vs.length = xs.length ∧ ∀ (n : Nat) u x, vs[n]? = some u → xs[n]? = some x → Joint K H ((u, x) :: ([(.ref p, d')] ++ L)) := fun {H L} j => by
    obtain ⟨q, vs, e, k, hl, get⟩ := Joint.acc (R := L) h j
    cases e
    obtain ⟨ys, rfl⟩ := hd
    rcases k with ⟨zs, e, hp⟩ | ⟨zs, e, hp⟩ | ⟨zs, e, hp⟩
    · cases e
    · cases e
    · exact ⟨vs, .inl (.inl hp), hl, get⟩
  refine ⟨fun i H L hi j => ?_, fun i H L d x H' hd j y => ?_, fun H L j => ?_⟩
  · obtain ⟨vs, sq, hl, get⟩ := main j
    exact ⟨vs, vs[i]'(by omega), sq, List.getElem?_eq_getElem _⟩
  · obtain ⟨vs, sq, hl, get⟩ := main j
    obtain ⟨rfl, y2⟩ := y
    exact get i x d (y2 vs sq) hd
  · obtain ⟨vs, sq, hl, get⟩ := main j
    exact ⟨vs, sq, by omega⟩
theorem one_len {ds : List D} (h : ds.length = 1) : ∃ d, ds = [d] := by
  match ds, h with
  | [d], _ => exact ⟨d, rfl⟩
theorem wi_seqS {tg e : Expr} {i : Nat} (hK : c.K = X.K) (he : PE X e (tVar i)) : PI X tg e (TIm c (walkM comb1 [.s i])) := pi_mono (PI.or (pi_list he) (pi_tup he)) fun σ H R h => by
  obtain ⟨v, ev, ds, xss, ys, hc, sa, hl, hd, ⟨Z, jz⟩, fin⟩ := src_post h
  obtain ⟨d, rfl⟩ := one_len hd
  cases sa with
  | cons h1 h2 =>
    cases h2
    cases hc
    have jz : Joint c.K H ((v, d) :: Z) := jz
    obtain ⟨p, vs, rfl, k, _, _⟩ := Joint.acc h1 jz
    rcases k with ⟨zs, rfl, hp⟩ | ⟨zs, rfl, hp⟩ | ⟨zs, rfl, hp⟩
    · exact .inl ⟨_, ev, p, rfl, ⟨vs, .inl (.inl hp)⟩, fin _ (hK ▸ iter_seqL h1 ⟨_, _, rfl⟩)⟩
    · exact .inl ⟨_, ev, p, rfl, ⟨vs, .inl (.inl hp)⟩, fin _ (hK ▸ iter_seqL h1 ⟨_, _, rfl⟩)⟩
    · exact .inr ⟨_, ev, p, rfl, ⟨vs, .inl (.inl hp)⟩, fin _ (hK ▸ iter_seqT h1 ⟨_, rfl⟩)⟩
def rngD (lo : Int) (n : Nat) : List D := (List.range n).map fun (k : Nat) => .int (lo + ((k : Nat) : Int))
theorem iter_rng {K : PySem.W.Frag} {lo : Int} {n : Nat} : Iter K (Itr lo n) [] (rngD lo n) where
  go := fun i H L hi j => by
    have q : i < n := by simpa [rngD] using hi
    exact q
  yld := fun i H L d x H' hd j y => by
    obtain ⟨rfl, y2⟩ := y
    have hi : i < n := by
      by_cases q : i < n
      · exact q
      · rw [List.getElem?_eq_none (by simp [rngD]; omega)] at hd; cases hd
    rw [rngD, List.getElem?_map, List.getElem?_range hi] at hd
    cases hd
    rw [y2]
    exact ju_int j
  stop := fun H L j => by
    have q : n ≤ (rngD lo n).length := by simp [rngD]
    exact q
def rng1M (fa : EM) : IM := bindI fa fun d => match d with
  | .int n => if -(2 ^ 62) ≤ n ∧ n < 2 ^ 62 then optI (some (rngD 0 n.toNat)) else fun _ => none
  | _ => fun _ => none
def rng2M (fa fb : EM) : IM := bindI fa fun d => bindI fb fun e => match d, e with
  | .int a, .int b => if -(2 ^ 62) ≤ a ∧ a < 2 ^ 62 ∧ -(2 ^ 62) ≤ b ∧ b < 2 ^ 62 then optI (some (rngD a (b - a).toNat)) else fun _ => none
  | _, _ => fun _ => none
theorem wi_rng1 {tg a : Expr} {fa : EM} {p pos : Pos} (hg : Gl X "range") (hm : X.mg "range" = none) (ha : PE X a (T c fa)) (hs : starEach [a] X.env = [(false, eval a X.env)] := by rfl) : PI X tg (.Call (.Name "range" p) [a] [] pos) (TIm c (rng1M fa)) :=
  pi_mono (pi_range1 hg hm (pa_cons ha pa_nil hs) hs) fun σ H R h => by
    obtain ⟨S, tm, j, p⟩ := h
    refine (post_bindI j p).mono fun v H1 ⟨d, S1, j1, p1⟩ => ?_
    cases d with
    | int n =>
      simp only at p1
      split at p1
      · rename_i hn
        obtain ⟨ds, e, q⟩ := post_optI p1
        cases e
        exact ⟨n, by rw [j1.take.is_int], hn.1, hn.2, q _ [] H1 iter_rng j1.drop⟩
      · exact p1.elim
    | _ => exact p1.elim
theorem wi_rng2 {tg a b : Expr} {fa fb : EM} {p pos : Pos} (hg : Gl X "range") (hm : X.mg "range" = none) (ha : PE X a (T c fa)) (hb : PE X b (T c fb)) (hs : starEach [a, b] X.env = [(false, eval a X.env), (false, eval b X.env)] := by rfl) (hs2 : starEach [b] X.env = [(false, eval b X.env)] := by rfl) : PI X tg (.Call (.Name "range" p) [a, b] [] pos) (TIm c (rng2M fa fb)) :=
  pi_mono (pi_range2 hg hm (pa_cons ha (pa_cons hb pa_nil hs2) (by rw [hs, hs2])) hs hs2) fun σ H R h => by
    obtain ⟨S, tm, j, p⟩ := h
    refine (post_bindI j p).mono fun v H1 ⟨d, S1, j1, p1⟩ => ?_
    refine (post_bindI j1 p1).mono fun w H2 ⟨e, S2, j2, p2⟩ => ?_
    obtain ⟨n, m, rfl, rfl⟩ : ∃ n m, d = .int n ∧ e = .int m := by
      cases d <;> first | exact p2.elim | (cases e <;> first | exact p2.elim | exact ⟨_, _, rfl, rfl⟩)
    simp only at p2
    split at p2
    · rename_i hn
      obtain ⟨ds, e, q⟩ := post_optI p2
      cases e
      exact ⟨n, m, by rw [j2.take.is_int, j2.drop.take.is_int], hn, q _ [] H2 iter_rng j2.drop.drop⟩
    · exact p2.elim
end
end WF
namespace WF
open PySem PySem.Spec PyProof.Rows L2
structure Sr where
  it : Addr
  a : Addr
  k : Bool
  xs : Array Value
def seqAt (k : Bool) (h : Heap) (a : Addr) (xs : Array Value) : Prop := match k with
  | true => h.IsList a xs
  | false => h.IsTuple a xs
def itAt (k : Bool) (h : Heap) (it a : Addr) (i : Nat) : Prop := match k with
  | true => h.IsListIter it a i
  | false => h.IsTupleIter it a i
def Sr.St (q : Sr) (i : Nat) (h : Heap) : Prop := itAt q.k h q.it q.a i ∧ seqAt q.k h q.a q.xs
section
variable {prog : Program} {w : World} {A : Around} {E : Value → Shared → Prop} {s : Shared} {i : Nat}
theorem Sr.draws (hh : A.handled = none) (q : Sr) (hne : q.a ≠ q.it) : Draws prog w A q.it [q.it, q.a] q.xs.size (fun i v => q.xs[i]? = some v) (fun i h => q.St i h) := by
  obtain ⟨it, a, k, xs⟩ := q
  cases k with
  | true => exact Draws.list hh it a hne xs
  | false => exact Draws.tuple hh it a hne xs
theorem itAt_keep {k : Bool} {h h' : Heap} {it a : Addr} (x : itAt k h it a i) (e : ∀ o, h.get? it = some o → h'.get? it = some o) : itAt k h' it a i := by
  cases k with
  | true => exact Heap.IsListIter.at x e
  | false => exact Heap.IsTupleIter.at x e
theorem seqAt_keep {k : Bool} {h h' : Heap} {a : Addr} {xs : Array Value} (x : seqAt k h a xs) (e : ∀ o, h.get? a = some o → h'.get? a = some o) : seqAt k h' a xs := by
  cases k with
  | true => exact Heap.IsList.at x e
  | false => exact Heap.IsTuple.at x e
theorem itAt_get {k : Bool} {h : Heap} {it a : Addr} (x : itAt k h it a i) : ∃ o, h.get? it = some o ∧ ∀ v, o.data ≠ .cell v := by
  cases k with
  | true => obtain ⟨o, h1, _, h2⟩ := x; exact ⟨o, h1, fun v e => by rw [h2] at e; cases e⟩
  | false => obtain ⟨o, h1, _, h2⟩ := x; exact ⟨o, h1, fun v e => by rw [h2] at e; cases e⟩
theorem drawS (strict : Bool) (q : Sr) (hh : A.handled = none) (hne : q.a ≠ q.it) (st : q.St i s.heap) {Q : Option Value → Shared → Prop}
    (h1 : ∀ x h' tk, q.xs[i]? = some x → q.St (i + 1) h' → Heap.SameBut q.it s.heap h' → Q (some x) { s with heap := h', toks := tk }) (hlt : i < q.xs.size) :
    wpAny (model prog w) A (if strict = true then Builtin.SmallTypes.nextOrEnd (.ref q.it) else (do return some (← Builtin.SmallTypes.nextOf (.ref q.it)))) Q E s := by
  cases strict with
  | false =>
    rw [if_neg Bool.false_ne_true]
    exact wpAny_bind ((q.draws hh hne).item i s _ E hlt st fun x h' tk a b c => wpAny_pure (h1 x h' tk a b c))
  | true =>
    rw [if_pos rfl]
    unfold Builtin.SmallTypes.nextOrEnd
    exact wpAny_bind (wpAny_attempt ((q.draws hh hne).item i s _ _ hlt st fun x h' tk a b c => wpAny_pure (h1 x h' tk a b c)))
theorem drawEnd (q : Sr) (hh : A.handled = none) (hne : q.a ≠ q.it) (st : q.St q.xs.size s.heap) {Q : Option Value → Shared → Prop}
    (h1 : ∀ h', Heap.ExtBut q.it s.heap h' → Q none { s with heap := h' }) : wpAny (model prog w) A (Builtin.SmallTypes.nextOrEnd (.ref q.it)) Q E s := by
  unfold Builtin.SmallTypes.nextOrEnd
  refine wpAny_bind (wpAny_attempt ((q.draws hh hne).done s _ _ st fun h' e he hx => ?_))
  obtain ⟨o, ho, hc⟩ := hx
  exact wpAny_bind (wpAny_isInstance (T := "StopIteration") (b := true) ⟨o, ho, hc⟩ isSubtype_stop (wpAny_pure (h1 h' he)))
abbrev zipO (strict : Bool) (f0 : Value) (TI TO : Addr) : Obj := { cls := .type "zip", dict := none, data := .fields #[f0, .bool false, .bool strict, .ref TI, .ref TO], slots := #[] }
abbrev tupO (xs : Array Value) : Obj := { cls := .type "tuple", data := .seq xs }
structure ZApart (z TI TO : Addr) (qs : List Sr) : Prop where
  TIz : TI ≠ z
  TOz : TO ≠ z
  TITO : TI ≠ TO
  iz : ∀ q ∈ qs, q.it ≠ z
  iTI : ∀ q ∈ qs, q.it ≠ TI
  iTO : ∀ q ∈ qs, q.it ≠ TO
  az : ∀ q ∈ qs, q.a ≠ z
  aTO : ∀ q ∈ qs, q.a ≠ TO
  ai : ∀ q ∈ qs, ∀ q' ∈ qs, q.a ≠ q'.it
  nd : (qs.map Sr.it).Nodup
theorem St_keep {q : Sr} {h h' : Heap} (x : q.St i h) (e : ∀ c o, (c = q.it ∨ c = q.a) → h.get? c = some o → h'.get? c = some o) : q.St i h' := ⟨itAt_keep x.1 fun o => e q.it o (.inl rfl), seqAt_keep x.2 fun o => e q.a o (.inr rfl)⟩
theorem draw_loop {TO : Addr} {β : Type} {b : β} {f : Value × Nat → β → Sem (ForInStep β)} {R : β → Shared → Prop} (all : List Sr) (hai : ∀ q ∈ all, ∀ q' ∈ all, q.a ≠ q'.it) (hTO : ∀ q ∈ all, q.it ≠ TO ∧ q.a ≠ TO)
    (hf : ∀ (q : Sr) (k : Nat) (s : Shared) (Q : ForInStep β → Shared → Prop) (old : Array Value), q ∈ all → q.St i s.heap → i < q.xs.size → s.heap.get? TO = some (tupO old) → old.size ≤ 1000 →
      (∀ x h' tk, q.xs[i]? = some x → h'.get? TO = some (tupO (old.setIfInBounds k x)) → q.St (i + 1) h' → (∀ c o, c ≠ TO → c ≠ q.it → s.heap.get? c = some o → h'.get? c = some o) → h'.objs.size = s.heap.objs.size → Q (.yield b) { s with heap := h', toks := tk }) →
      wpAny (model prog w) A (f (.ref q.it, k) b) Q E s) :
    ∀ (qs : List Sr) (k : Nat) (old : Array Value) (s : Shared), (∀ q ∈ qs, q ∈ all) → (qs.map Sr.it).Nodup → (∀ q ∈ qs, q.St i s.heap ∧ i < q.xs.size) → s.heap.get? TO = some (tupO old) → old.size = k + qs.length → old.size ≤ 1000 →
      (∀ h' tk xs, xs.map some = qs.map (fun q => q.xs[i]?) → h'.get? TO = some (tupO (old.toList.take k ++ xs).toArray) → (∀ q ∈ qs, q.St (i + 1) h') → (∀ c o, c ≠ TO → (∀ q ∈ qs, c ≠ q.it) → s.heap.get? c = some o → h'.get? c = some o) → h'.objs.size = s.heap.objs.size → R b { s with heap := h', toks := tk }) →
      wpAny (model prog w) A (forIn ((qs.map fun q => Value.ref q.it).zipIdx k) b f) R E s := by
  intro qs
  induction qs with
  | nil =>
    intro k old s _ _ _ hto hsz _ hR
    simp only [List.map_nil, List.zipIdx_nil, List.forIn_nil]
    refine wpAny_pure ?_
    have := hR s.heap s.toks [] rfl (by
      rw [hto]
      have e : (old.toList.take k ++ []).toArray = old := by
        rw [List.append_nil, List.take_of_length_le (by simp at hsz; simp [hsz])]
      rw [e]) (fun q m => nomatch m) (fun c o _ _ e => e) rfl
    exact this
  | cons q qs ih =>
    intro k old s hin hnd hst hto hsz hsm hR
    simp only [List.map_cons, List.zipIdx_cons, List.forIn_cons]
    obtain ⟨hq1, hq2⟩ := hst q List.mem_cons_self
    have hqa := hin q List.mem_cons_self
    refine wpAny_bind (hf q k s _ old hqa hq1 hq2 hto hsm fun x h1 tk1 ex ht1 st1 kp1 sz1 => ?_)
    simp only [List.map_cons, List.nodup_cons] at hnd
    have nit : ∀ q' ∈ qs, q'.it ≠ q.it := fun q' m e => hnd.1 (by rw [← e]; exact List.mem_map_of_mem m)
    refine ih (k + 1) (old.setIfInBounds k x) _ (fun q' m => hin q' (List.mem_cons_of_mem _ m)) hnd.2 (fun q' m => ⟨?_, (hst q' (List.mem_cons_of_mem _ m)).2⟩) ht1 (by simp at hsz ⊢; omega) (by simpa using hsm) fun h2 tk2 xs e2 ht2 st2 kp2 sz2 => ?_
    · have hq' := hin q' (List.mem_cons_of_mem _ m)
      refine St_keep (hst q' (List.mem_cons_of_mem _ m)).1 fun c o hc e => kp1 c o ?_ ?_ e
      · rcases hc with rfl | rfl
        · exact (hTO q' hq').1
        · exact (hTO q' hq').2
      · rcases hc with rfl | rfl
        · exact nit q' m
        · exact hai q' hq' q hqa
    · refine hR h2 tk2 (x :: xs) (by rw [List.map_cons, List.map_cons, e2, ex]) ?_ (fun q' m => ?_) (fun c o h1 h2 e => kp2 c o h1 (fun q' m => h2 q' (List.mem_cons_of_mem _ m)) (kp1 c o h1 (h2 q List.mem_cons_self) e)) (sz2.trans sz1)
      · rw [ht2]
        have hk : k < old.toList.length := by simp at hsz ⊢; omega
        have e : (old.setIfInBounds k x).toList.take (k + 1) = old.toList.take k ++ [x] := by
          rw [Array.toList_setIfInBounds, List.take_succ_eq_append_getElem (by simpa using hk), List.take_set_of_le (Nat.le_refl _)]
          simp
        rw [e, List.append_assoc]
        rfl
      · rcases List.mem_cons.mp m with rfl | m
        · refine St_keep st1 fun c o hc e => kp2 c o ?_ (fun q' m' => ?_) e
          · rcases hc with rfl | rfl
            · exact (hTO _ hqa).1
            · exact (hTO _ hqa).2
          · rcases hc with rfl | rfl
            · exact fun z => nit q' m' z.symm
            · exact hai _ hqa q' (hin q' (List.mem_cons_of_mem _ m'))
        · exact st2 q' m
end
end WF
namespace WF
open PySem PySem.Spec PyProof.Rows L2
section
variable {prog : Program} {w : World} {A : Around} {E : Value → Shared → Prop} {s : Shared} {i : Nat} {z TI TO : Addr} {qs : List Sr} {old : Array Value} {strict : Bool}
theorem zip_next_item {Q : Value → Shared → Prop} (hh : A.handled = none) (Z : ZApart z TI TO qs) (hz : s.heap.get? z = some (zipO strict .none TI TO)) (hTI : s.heap.get? TI = some (tupO (qs.map fun q => Value.ref q.it).toArray)) (hTO : s.heap.get? TO = some (tupO old))
    (hn : old.size = qs.length) (hsm : qs.length ≤ 1000) (hne : qs ≠ []) (hst : ∀ q ∈ qs, q.St i s.heap ∧ i < q.xs.size)
    (hQ : ∀ (xs : List Value) h' tk, xs.map some = qs.map (fun q => q.xs[i]?) → h'.get? z = some (zipO strict (rawInt s.heap.objs.size) TI TO) → h'.get? TO = some (tupO xs.toArray) → (∀ q ∈ qs, q.St (i + 1) h') → h'.get? s.heap.objs.size = some (tupO xs.toArray) → h'.objs.size = s.heap.objs.size + 1 →
      (∀ c o, c ≠ z → c ≠ TO → (∀ q ∈ qs, c ≠ q.it) → s.heap.get? c = some o → h'.get? c = some o) → Q (.ref s.heap.objs.size) { s with heap := h', toks := tk }) :
    wpAny (model prog w) A (Builtin.«zip.__next__» ⟨[.ref z], []⟩) (fun fin s' => ∃ v, fin = .done (.ret v) ∧ Q v s') E s := by
  obtain ⟨hp, g, d, tk0, os⟩ := s
  show wpAny _ _ (field (.ref z) 2 >>= _) _ _ _
  refine wpAny_bind (wpAny_field hz rfl (x := .bool strict) rfl ?_)
  show wpAny _ _ (field (.ref z) 3 >>= _) _ _ _
  refine wpAny_bind (wpAny_field hz rfl (x := .ref TI) rfl ?_)
  refine wpAny_bind (wpAny_seqItems hTI rfl ?_)
  have hem : (qs.map fun q => Value.ref q.it).toArray.isEmpty = false := by
    cases qs with
    | nil => exact (hne rfl).elim
    | cons _ _ => simp
  simp only [hem, Bool.false_eq_true, if_false]
  refine wpAny_bind ?_
  unfold Builtin.SmallTypes.ownedTupleIsFree
  refine wpAny_bind (wpAny_field hz rfl (x := .none) rfl (wpAny_pure ?_))
  simp only [if_true]
  refine wpAny_bind (wpAny_rule ?_)
  refine wpAny_bind (wpAny_field hz rfl (x := .ref TO) rfl ?_)
  refine wpAny_bind (wpAny_setField_rec hz (by simp) fun g0 hz0 sb0 => ?_)
  have hz0 : g0.get? z = some (zipO strict .ellipsis TI TO) := hz0
  have sb0 : Heap.SameBut z hp g0 := sb0
  have hTO0 : g0.get? TO = some (tupO old) := sb0.extBut _ _ Z.TOz hTO
  refine wpAny_bind (draw_loop (i := i) (TO := TO) qs Z.ai (fun q m => ⟨Z.iTO q m, Z.aTO q m⟩) ?_ qs 0 old _ (fun q m => m) Z.nd (fun q m => ⟨St_keep (hst q m).1 fun c o hc e => sb0.extBut _ _ ?_ e, (hst q m).2⟩) hTO0 (by omega) (by omega) fun h1 tk1 xs ex ht1 st1 kp1 sz1 => ?_)
  · intro q k s Q old hq st hlt ho hsz h
    refine wpAny_bind (wpAny_onRaise ?_)
    have fin : ∀ (x : Value) (h1 : Heap) (tk1 : Nat), q.xs[i]? = some x → q.St (i + 1) h1 → Heap.SameBut q.it s.heap h1 → wpAny (model prog w) A (do
        let __x ← seqItems? (Value.ref TO)
        match __x with
          | some kept => do
            updateSeq TO fun x_2 => x_2.setIfInBounds k x
            letGo [kept.getD k Value.none]
            pure (ForInStep.yield (none, ()))
          | y => do
            unsupported "internal:zip.__next__"
            pure (ForInStep.yield (none, ()))) Q E { s with heap := h1, toks := tk1 } := fun x h1 tk1 ex st1 sb1 => by
      have ho1 : h1.get? TO = some (tupO old) := sb1.extBut _ _ (Z.iTO q hq).symm ho
      refine wpAny_bind (wpAny_seqItems (s := { s with heap := h1, toks := tk1 }) ho1 rfl ?_)
      have z1 : old.size ≤ sizeLine := Nat.le_trans hsz (by decide)
      have z2 : (old.setIfInBounds k x).size ≤ sizeLine + 1 := by simp; omega
      refine wpAny_bind (wpAny_updateSeq (s := { s with heap := h1, toks := tk1 }) ho1 rfl ?_ z1 z2)
      have g2 : (h1.update TO (Obj.mapSeq (·.setIfInBounds k x))).get? TO = some (tupO (old.setIfInBounds k x)) := by
        rw [Heap.get?_update_self _ ho1 rfl]
        simp [Obj.mapSeq]
      have sb2 : Heap.SameBut TO h1 (h1.update TO (Obj.mapSeq (·.setIfInBounds k x))) := Heap.SameBut.update ..
      refine wpAny_bind (wpAny_letGo (wpAny_pure (h x _ tk1 ex g2 (St_keep st1 fun c o hc e => sb2.extBut _ _ ?_ e) (fun c o h1 h2 e => sb2.extBut _ _ h1 (sb1.extBut _ _ h2 e)) (sb2.1.trans sb1.1))))
      rcases hc with rfl | rfl
      · exact Z.iTO q hq
      · exact Z.aTO q hq
    cases strict with
    | true => exact drawS true q hh (Z.ai q hq q hq) st (fun x h1 tk1 ex st1 sb1 => fin x h1 tk1 ex st1 sb1) hlt
    | false => exact drawS false q hh (Z.ai q hq q hq) st (fun x h1 tk1 ex st1 sb1 => fin x h1 tk1 ex st1 sb1) hlt
  · rcases hc with rfl | rfl
    · exact Z.iz q m
    · exact Z.az q m
  · rw [List.take_zero, List.nil_append] at ht1
    have hsz : h1.objs.size = hp.objs.size := sz1.trans sb0.1
    refine wpAny_bind (wpAny_seqItems (s := ⟨h1, g, d, tk1, os⟩) ht1 rfl ?_)
    have hxl : xs.length = qs.length := by
      have := congrArg List.length ex
      simpa using this
    refine wpAny_bind (wpAny_newTuple ?_ (by simp; exact Nat.le_trans (by omega : xs.length ≤ 1000) (by decide)))
    have hz1 : h1.get? z = some (zipO strict .ellipsis TI TO) := kp1 z _ Z.TOz.symm (fun q m => (Z.iz q m).symm) hz0
    have hzl : z < h1.objs.size := Heap.lt_size hz1
    refine wpAny_bind ?_
    unfold Builtin.SmallTypes.ownedTupleHandOut
    have hz2 : (h1.push (tupO xs.toArray)).get? z = some (zipO strict .ellipsis TI TO) := Heap.get?_push_of_some _ hz1
    refine wpAny_bind (wpAny_setField_rec (s := ⟨h1.push (tupO xs.toArray), g, d, tk1, os⟩) hz2 (by simp) fun h3 hz3 sb3 => ?_)
    have hz3 : h3.get? z = some (zipO strict (rawInt h1.objs.size) TI TO) := hz3
    have sb3 : Heap.SameBut z (h1.push (tupO xs.toArray)) h3 := sb3
    refine wpAny_setField_rec (s := ⟨h3, g, d, tk1, os⟩) hz3 (by simp) fun h4 hz4 sb4 => ?_
    have hz4 : h4.get? z = some (zipO strict (rawInt h1.objs.size) TI TO) := hz4
    have sb4 : Heap.SameBut z h3 h4 := sb4
    have up : ∀ c o, c ≠ z → h1.get? c = some o → h4.get? c = some o := fun c o hc e => sb4.extBut _ _ hc (sb3.extBut _ _ hc (Heap.get?_push_of_some _ e))
    have hT4 : h4.get? h1.objs.size = some (tupO xs.toArray) := sb4.extBut _ _ (Nat.ne_of_gt hzl) (sb3.extBut _ _ (Nat.ne_of_gt hzl) (Heap.get?_push_size _ rfl))
    have sz4 : h4.objs.size = h1.objs.size + 1 := by rw [sb4.1, sb3.1, Heap.size_push]
    rw [hsz] at hz4 hT4 sz4
    refine wpAny_pure ⟨_, rfl, ?_⟩
    show Q (.ref h1.objs.size) ⟨h4, g, d, tk1, os⟩
    rw [hsz]
    refine hQ xs h4 tk1 ex hz4 (up _ _ Z.TOz ht1) (fun q m => St_keep (st1 q m) fun c o hc e => up c o ?_ e) hT4 sz4 fun c o h1 h2 h3 e => up c o h1 (kp1 c o h2 h3 (sb0.extBut _ _ h1 e))
    rcases hc with rfl | rfl
    · exact Z.iz q m
    · exact Z.az q m
end
end WF
namespace WF
open PySem PySem.Spec PyProof.Rows L2
section
variable {prog : Program} {w : World} {A : Around} {E : Value → Shared → Prop} {s : Shared} {i : Nat} {z TI TO : Addr} {qs : List Sr} {old : Array Value} {strict : Bool}
theorem stop_raise {α : Type} (hh : A.handled = none) {Q : α → Shared → Prop} (hE : ∀ h' e, (∀ c o, s.heap.get? c = some o → h'.get? c = some o) → (∃ o, h'.get? e = some o ∧ o.cls = .type "StopIteration") → E (.ref e) { s with heap := h' }) : wpAny (model prog w) A (Builtin.SmallTypes.stopIteration (α := α)) Q E s := by
  unfold Builtin.SmallTypes.stopIteration
  refine wpAny_bind ?_
  simp only [newExc, newTuple]
  refine wpAny_bind (wpAny_newObj_type ?_ (by size_fits))
  refine wpAny_bind (m := firstArgMember _ _) (wpAny_of_eq (a := Value.none) (by first | rfl | (simp only [firstArgMember]; rfl)) ?_)
  refine wpAny_newObj_type ?_ (by size_fits)
  simp only [raiseNew]
  refine wpAny_bind (wpAny_handled ?_)
  rw [hh]
  exact wpAny_bind (wpAny_pure (wpAny_throw (hE _ _ (fun c o e => Heap.get?_push_of_some _ (Heap.get?_push_of_some _ e)) ⟨_, Heap.get?_push_size _ rfl, rfl⟩)))
theorem end_loop {TO : Addr} {β : Type} {b : β} {f : Value × Nat → β → Sem (ForInStep β)} {R : β → Shared → Prop} {zo : Obj} (all : List Sr) (hai : ∀ q ∈ all, ∀ q' ∈ all, q.a ≠ q'.it) (hTO : ∀ q ∈ all, q.it ≠ TO ∧ q.a ≠ TO)
    (hf : ∀ (q : Sr) (k : Nat) (s : Shared) (Q : ForInStep β → Shared → Prop) (old : Array Value), q ∈ all → q.St i s.heap → i < q.xs.size → s.heap.get? TO = some (tupO old) → old.size ≤ 1000 →
      (∀ x h' tk, q.xs[i]? = some x → h'.get? TO = some (tupO (old.setIfInBounds k x)) → q.St (i + 1) h' → (∀ c o, c ≠ TO → c ≠ q.it → s.heap.get? c = some o → h'.get? c = some o) → h'.objs.size = s.heap.objs.size → Q (.yield b) { s with heap := h', toks := tk }) →
      wpAny (model prog w) A (f (.ref q.it, k) b) Q E s)
    (he : ∀ (q : Sr) (k : Nat) (s : Shared) (Q : ForInStep β → Shared → Prop), q ∈ all → q.St i s.heap → i = q.xs.size →
      (∀ h' e, (∀ c o, c ≠ z → c ≠ q.it → s.heap.get? c = some o → h'.get? c = some o) → (∃ o, h'.get? e = some o ∧ o.cls = .type "StopIteration") → E (.ref e) { s with heap := h' }) →
      s.heap.get? z = some zo → wpAny (model prog w) A (f (.ref q.it, k) b) Q E s) :
    ∀ (qs : List Sr) (k : Nat) (old : Array Value) (s : Shared), (∀ q ∈ qs, q ∈ all) → (qs.map Sr.it).Nodup → (∀ q ∈ qs, q.St i s.heap ∧ i ≤ q.xs.size) → (∃ q ∈ qs, i = q.xs.size) → s.heap.get? TO = some (tupO old) → old.size ≤ 1000 → s.heap.get? z = some zo → z ≠ TO → (∀ q ∈ all, q.it ≠ z) →
      (∀ h' tk e, (∀ c o, c ≠ z → c ≠ TO → (∀ q ∈ qs, c ≠ q.it) → s.heap.get? c = some o → h'.get? c = some o) → (∃ o, h'.get? e = some o ∧ o.cls = .type "StopIteration") → E (.ref e) { s with heap := h', toks := tk }) →
      wpAny (model prog w) A (forIn ((qs.map fun q => Value.ref q.it).zipIdx k) b f) R E s := by
  intro qs
  induction qs with
  | nil => intro k old s _ _ _ hex; obtain ⟨q, m, _⟩ := hex; cases m
  | cons q qs ih =>
    intro k old s hin hnd hst hex hto hsm hzo hzT hzi hR
    simp only [List.map_cons, List.zipIdx_cons, List.forIn_cons]
    obtain ⟨hq1, hq2⟩ := hst q List.mem_cons_self
    have hqa := hin q List.mem_cons_self
    simp only [List.map_cons, List.nodup_cons] at hnd
    have nit : ∀ q' ∈ qs, q'.it ≠ q.it := fun q' m e => hnd.1 (by rw [← e]; exact List.mem_map_of_mem m)
    by_cases hlt : i < q.xs.size
    · refine wpAny_bind (hf q k s _ old hqa hq1 hlt hto hsm fun x h1 tk1 ex ht1 st1 kp1 sz1 => ?_)
      refine ih (k + 1) (old.setIfInBounds k x) _ (fun q' m => hin q' (List.mem_cons_of_mem _ m)) hnd.2 (fun q' m => ⟨?_, (hst q' (List.mem_cons_of_mem _ m)).2⟩) ?_ ht1 (by simpa using hsm) ?_ hzT hzi fun h2 tk2 e kp2 he2 => ?_
      · have hq' := hin q' (List.mem_cons_of_mem _ m)
        refine St_keep (hst q' (List.mem_cons_of_mem _ m)).1 fun c o hc e => kp1 c o ?_ ?_ e
        · rcases hc with rfl | rfl
          · exact (hTO q' hq').1
          · exact (hTO q' hq').2
        · rcases hc with rfl | rfl
          · exact nit q' m
          · exact hai q' hq' q hqa
      · obtain ⟨q', m, e⟩ := hex
        rcases List.mem_cons.mp m with rfl | m
        · omega
        · exact ⟨q', m, e⟩
      · exact kp1 z zo hzT (hzi q hqa).symm hzo
      · exact hR h2 tk2 e (fun c o h0 h1 h2 e => kp2 c o h0 h1 (fun q' m => h2 q' (List.mem_cons_of_mem _ m)) (kp1 c o h1 (h2 q List.mem_cons_self) e)) he2
    · refine wpAny_bind (he q k s _ hqa hq1 (by omega) (fun h1 e kp1 hx => ?_) hzo)
      exact hR h1 s.toks e (fun c o h0 _ h2 x => kp1 c o h0 (h2 q List.mem_cons_self) x) hx
theorem ends_loop {β : Type} {b : β} {f : Value × Nat → β → Sem (ForInStep β)} {R : β → Shared → Prop} (hh : A.handled = none)
    (hf : ∀ (q : Sr) (k : Nat) (s : Shared) (Q : ForInStep β → Shared → Prop), q.a ≠ q.it → q.St q.xs.size s.heap → (∀ h', Heap.ExtBut q.it s.heap h' → Q (.yield b) { s with heap := h' }) → wpAny (model prog w) A (f (.ref q.it, k) b) Q E s) :
    ∀ (qs : List Sr) (k : Nat) (s : Shared), (qs.map Sr.it).Nodup → (∀ q ∈ qs, ∀ q' ∈ qs, q.a ≠ q'.it) → (∀ q ∈ qs, q.St q.xs.size s.heap) →
      (∀ h', (∀ c o, (∀ q ∈ qs, c ≠ q.it) → s.heap.get? c = some o → h'.get? c = some o) → R b { s with heap := h' }) →
      wpAny (model prog w) A (forIn ((qs.map fun q => Value.ref q.it).zipIdx k) b f) R E s := by
  intro qs
  induction qs with
  | nil =>
    intro k s _ _ _ hR
    simp only [List.map_nil, List.zipIdx_nil, List.forIn_nil]
    exact wpAny_pure (hR s.heap fun c o _ e => e)
  | cons q qs ih =>
    intro k s hnd hai hst hR
    simp only [List.map_cons, List.zipIdx_cons, List.forIn_cons]
    simp only [List.map_cons, List.nodup_cons] at hnd
    have nit : ∀ q' ∈ qs, q'.it ≠ q.it := fun q' m e => hnd.1 (by rw [← e]; exact List.mem_map_of_mem m)
    refine wpAny_bind (hf q k s _ (hai q List.mem_cons_self q List.mem_cons_self) (hst q List.mem_cons_self) fun h1 eb => ?_)
    refine ih (k + 1) _ hnd.2 (fun q1 m1 q2 m2 => hai q1 (List.mem_cons_of_mem _ m1) q2 (List.mem_cons_of_mem _ m2)) (fun q' m => St_keep (hst q' (List.mem_cons_of_mem _ m)) fun c o hc e => eb c o ?_ e) fun h2 kp => ?_
    · rcases hc with rfl | rfl
      · exact nit q' m
      · exact hai q' (List.mem_cons_of_mem _ m) q List.mem_cons_self
    · exact hR h2 fun c o hc e => kp c o (fun q' m => hc q' (List.mem_cons_of_mem _ m)) (eb c o (hc q List.mem_cons_self) e)
theorem zip_next_end {Q : Fin → Shared → Prop} (hh : A.handled = none) (Z : ZApart z TI TO qs) (hz : s.heap.get? z = some (zipO strict .none TI TO)) (hTI : s.heap.get? TI = some (tupO (qs.map fun q => Value.ref q.it).toArray)) (hTO : s.heap.get? TO = some (tupO old))
    (hn : old.size = qs.length) (hsm : qs.length ≤ 1000) (hne : qs ≠ []) (hst : ∀ q ∈ qs, q.St i s.heap ∧ i ≤ q.xs.size) (hex : if strict = true then ∀ q ∈ qs, i = q.xs.size else ∃ q ∈ qs, i = q.xs.size)
    (hE : ∀ h' tk e, (∀ c o, c ≠ z → c ≠ TO → (∀ q ∈ qs, c ≠ q.it) → s.heap.get? c = some o → h'.get? c = some o) → (∃ o, h'.get? e = some o ∧ o.cls = .type "StopIteration") → E (.ref e) { s with heap := h', toks := tk }) :
    wpAny (model prog w) A (Builtin.«zip.__next__» ⟨[.ref z], []⟩) Q E s := by
  obtain ⟨hp, g, d, tk0, os⟩ := s
  show wpAny _ _ (field (.ref z) 2 >>= _) _ _ _
  refine wpAny_bind (wpAny_field hz rfl (x := .bool strict) rfl ?_)
  show wpAny _ _ (field (.ref z) 3 >>= _) _ _ _
  refine wpAny_bind (wpAny_field hz rfl (x := .ref TI) rfl ?_)
  refine wpAny_bind (wpAny_seqItems hTI rfl ?_)
  have hem : (qs.map fun q => Value.ref q.it).toArray.isEmpty = false := by
    cases qs with
    | nil => exact (hne rfl).elim
    | cons _ _ => simp
  simp only [hem, Bool.false_eq_true, if_false]
  refine wpAny_bind ?_
  unfold Builtin.SmallTypes.ownedTupleIsFree
  refine wpAny_bind (wpAny_field hz rfl (x := .none) rfl (wpAny_pure ?_))
  simp only [if_true]
  refine wpAny_bind (wpAny_rule ?_)
  refine wpAny_bind (wpAny_field hz rfl (x := .ref TO) rfl ?_)
  refine wpAny_bind (wpAny_setField_rec hz (by simp) fun g0 hz0 sb0 => ?_)
  have hz0 : g0.get? z = some (zipO strict .ellipsis TI TO) := hz0
  have sb0 : Heap.SameBut z hp g0 := sb0
  have hTO0 : g0.get? TO = some (tupO old) := sb0.extBut _ _ Z.TOz hTO
  have st0 : ∀ q ∈ qs, q.St i g0 := fun q m => St_keep (hst q m).1 fun c o hc e => sb0.extBut _ _ (by
    rcases hc with rfl | rfl
    · exact Z.iz q m
    · exact Z.az q m) e
  cases strict with
  | true =>
    rw [if_pos rfl] at hex
    cases qs with
    | nil => exact (hne rfl).elim
    | cons q r =>
      simp only [List.map_cons, List.zipIdx_cons, List.forIn_cons]
      refine wpAny_bind (wpAny_bind (wpAny_bind (wpAny_onRaise ?_)))
      have hqi := hex q List.mem_cons_self
      have stq := st0 q List.mem_cons_self
      rw [hqi] at stq
      show wpAny _ _ (Builtin.SmallTypes.nextOrEnd (.ref q.it)) _ _ _
      refine drawEnd (s := ⟨g0, g, d, tk0, os⟩) q hh (Z.ai q List.mem_cons_self q List.mem_cons_self) stq fun h1 eb1 => ?_
      have eb1 : Heap.ExtBut q.it g0 h1 := eb1
      have hz1 : h1.get? z = some (zipO true .ellipsis TI TO) := eb1 _ _ (Z.iz q List.mem_cons_self).symm hz0
      refine wpAny_bind (wpAny_setField_rec (s := ⟨h1, g, d, tk0, os⟩) hz1 (by simp) fun h2 hz2 sb2 => ?_)
      have sb2 : Heap.SameBut z h1 h2 := sb2
      refine wpAny_bind ?_
      show wpAny _ _ (forIn ((r.map fun q => Value.ref q.it).zipIdx 1) () _ >>= _) _ _ _
      have hnd := Z.nd
      simp only [List.map_cons, List.nodup_cons] at hnd
      refine wpAny_bind (ends_loop hh (fun q' k s Q hne st hQ => by
        show wpAny _ _ (Builtin.SmallTypes.nextOrEnd (.ref q'.it) >>= _) _ _ _
        exact wpAny_bind (drawEnd q' hh hne st fun h' eb => wpAny_pure (hQ h' eb))) r 1 _ hnd.2 (fun q1 m1 q2 m2 => Z.ai q1 (List.mem_cons_of_mem _ m1) q2 (List.mem_cons_of_mem _ m2)) (fun q' m => ?_) fun h3 kp3 => ?_)
      · have e := hex q' (List.mem_cons_of_mem _ m)
        have x := st0 q' (List.mem_cons_of_mem _ m)
        rw [e] at x
        refine St_keep x fun c o hc e => sb2.extBut _ _ ?_ (eb1 _ _ ?_ e)
        · rcases hc with rfl | rfl
          · exact Z.iz _ (List.mem_cons_of_mem _ m)
          · exact Z.az _ (List.mem_cons_of_mem _ m)
        · rcases hc with rfl | rfl
          · exact fun z => hnd.1 (by rw [← z]; exact List.mem_map_of_mem m)
          · exact Z.ai _ (List.mem_cons_of_mem _ m) q List.mem_cons_self
      · refine wpAny_bind (wpAny_rule (stop_raise hh fun h4 e kp4 hx => ?_))
        exact hE h4 tk0 e (fun c o h1 _ h3 x => kp4 c o (kp3 c o (fun q' m => h3 q' (List.mem_cons_of_mem _ m)) (sb2.extBut _ _ h1 (eb1 _ _ (h3 q List.mem_cons_self) (sb0.extBut _ _ h1 x))))) hx
  | false =>
    rw [if_neg Bool.false_ne_true] at hex
    refine wpAny_bind (end_loop (zo := zipO false .ellipsis TI TO) qs Z.ai (fun q m => ⟨Z.iTO q m, Z.aTO q m⟩) ?_ ?_ qs 0 old _ (fun q m => m) Z.nd (fun q m => ⟨st0 q m, (hst q m).2⟩) hex hTO0 (by omega) hz0 Z.TOz.symm Z.iz fun h1 tk1 e kp hx => hE h1 tk1 e (fun c o h1 h2 h3 x => kp c o h1 h2 h3 (sb0.extBut _ _ h1 x)) hx)
    · intro q k s Q old hq st hlt ho hsz h
      refine wpAny_bind (wpAny_onRaise ?_)
      refine drawS false q hh (Z.ai q hq q hq) st (fun x h1 tk1 ex st1 sb1 => ?_) hlt
      have ho1 : h1.get? TO = some (tupO old) := sb1.extBut _ _ (Z.iTO q hq).symm ho
      refine wpAny_bind (wpAny_seqItems (s := { s with heap := h1, toks := tk1 }) ho1 rfl ?_)
      have z1 : old.size ≤ sizeLine := Nat.le_trans hsz (by decide)
      have z2 : (old.setIfInBounds k x).size ≤ sizeLine + 1 := by simp; omega
      refine wpAny_bind (wpAny_updateSeq (s := { s with heap := h1, toks := tk1 }) ho1 rfl ?_ z1 z2)
      have g2 : (h1.update TO (Obj.mapSeq (·.setIfInBounds k x))).get? TO = some (tupO (old.setIfInBounds k x)) := by
        rw [Heap.get?_update_self _ ho1 rfl]
        simp [Obj.mapSeq]
      have sb2 : Heap.SameBut TO h1 (h1.update TO (Obj.mapSeq (·.setIfInBounds k x))) := Heap.SameBut.update ..
      refine wpAny_bind (wpAny_letGo (wpAny_pure (h x _ tk1 ex g2 (St_keep st1 fun c o hc e => sb2.extBut _ _ ?_ e) (fun c o h1 h2 e => sb2.extBut _ _ h1 (sb1.extBut _ _ h2 e)) (sb2.1.trans sb1.1))))
      rcases hc with rfl | rfl
      · exact Z.iTO q hq
      · exact Z.aTO q hq
    · intro q k s Q hq st hi h hzs
      refine wpAny_bind (wpAny_onRaise ?_)
      rw [hi] at st
      show wpAny _ _ (Builtin.SmallTypes.nextOf (.ref q.it) >>= _) _ _ _
      refine wpAny_bind ((q.draws hh (Z.ai q hq q hq)).done s _ _ st fun h1 e eb hx => ?_)
      obtain ⟨oe, hoe, hce⟩ := hx
      have hz1 : h1.get? z = some (zipO false .ellipsis TI TO) := eb _ _ (Z.iz q hq).symm hzs
      refine wpAny_setField_rec (s := { s with heap := h1 }) hz1 (by simp) fun h2 _ sb2 => ?_
      have sb2 : Heap.SameBut z h1 h2 := sb2
      have hez : e ≠ z := fun q' => by
        have hoe : h1.get? e = some oe := hoe
        rw [q', hz1] at hoe
        cases hoe
        simp at hce
      exact h h2 e (fun c o h1 h2 x => sb2.extBut _ _ h1 (eb _ _ h2 x)) ⟨oe, sb2.extBut _ _ hez hoe, hce⟩
theorem pyNext_zipX {Q : Option Value → Shared → Prop} (hh : A.handled = none) (Z : ZApart z TI TO qs) (hz : s.heap.get? z = some (zipO strict .none TI TO)) (hTI : s.heap.get? TI = some (tupO (qs.map fun q => Value.ref q.it).toArray)) (hTO : s.heap.get? TO = some (tupO old))
    (hn : old.size = qs.length) (hsm : qs.length ≤ 1000) (hne : qs ≠ []) (hst : ∀ q ∈ qs, q.St i s.heap ∧ i < q.xs.size)
    (hQ : ∀ (xs : List Value) h' tk, xs.map some = qs.map (fun q => q.xs[i]?) → h'.get? z = some (zipO strict (rawInt s.heap.objs.size) TI TO) → h'.get? TO = some (tupO xs.toArray) → (∀ q ∈ qs, q.St (i + 1) h') → h'.get? s.heap.objs.size = some (tupO xs.toArray) → h'.objs.size = s.heap.objs.size + 1 →
      (∀ c o, c ≠ z → c ≠ TO → (∀ q ∈ qs, c ≠ q.it) → s.heap.get? c = some o → h'.get? c = some o) → Q (some (.ref s.heap.objs.size)) { s with heap := h', toks := tk }) :
    wpAny (model prog w) A (pyNext (.ref z)) Q E s := by
  have hT : s.TypeIs (.ref z) "zip" := ⟨_, hz, rfl⟩
  unfold pyNext
  exact wpAny_bind (wpAny_attempt (wpAny_callSpecial?_slot (name := Str.ofString "__next__") hT F.slot_zip_next
    (wpAny_call_entry F.slot_zip_next hT F.entry_zip_next (zip_next_item hh Z hz hTI hTO hn hsm hne hst fun xs h' tk a b c d e f k => wpAny_pure (hQ xs h' tk a b c d e f k)) (F.args_zip_next_1 _))))
theorem pyNext_zipEnd {Q : Option Value → Shared → Prop} (hh : A.handled = none) (Z : ZApart z TI TO qs) (hz : s.heap.get? z = some (zipO strict .none TI TO)) (hTI : s.heap.get? TI = some (tupO (qs.map fun q => Value.ref q.it).toArray)) (hTO : s.heap.get? TO = some (tupO old))
    (hn : old.size = qs.length) (hsm : qs.length ≤ 1000) (hne : qs ≠ []) (hst : ∀ q ∈ qs, q.St i s.heap ∧ i ≤ q.xs.size) (hex : if strict = true then ∀ q ∈ qs, i = q.xs.size else ∃ q ∈ qs, i = q.xs.size)
    (hQ : ∀ h' tk, (∀ c o, c ≠ z → c ≠ TO → (∀ q ∈ qs, c ≠ q.it) → s.heap.get? c = some o → h'.get? c = some o) → Q none { s with heap := h', toks := tk }) : wpAny (model prog w) A (pyNext (.ref z)) Q E s := by
  have hT : s.TypeIs (.ref z) "zip" := ⟨_, hz, rfl⟩
  unfold pyNext
  refine wpAny_bind (wpAny_attempt (wpAny_callSpecial?_slot (name := Str.ofString "__next__") hT F.slot_zip_next
    (wpAny_call_entry F.slot_zip_next hT F.entry_zip_next (zip_next_end hh Z hz hTI hTO hn hsm hne hst hex fun h' tk e hk he => ?_) (F.args_zip_next_1 _))))
  obtain ⟨o, ho, hc⟩ := he
  exact wpAny_bind (wpAny_isInstance (T := "StopIteration") (b := true) ⟨o, ho, hc⟩ isSubtype_stop (wpAny_pure (hQ _ _ hk)))
theorem pyIter_zipX {f0 : Value} {Q : Value → Shared → Prop} (hz : s.heap.get? z = some (zipO strict f0 TI TO)) (h : Q (.ref z) s) : wpAny (model prog w) A (pyIter (.ref z)) Q E s := by
  have hT : s.TypeIs (.ref z) "zip" := ⟨_, hz, rfl⟩
  refine wpAny_pyIter_slot hT F.slot_zip_iter (wpAny_call_entry F.slot_zip_iter hT F.entry_zip_iter ?_ (F.args_zip_iter_1 _))
  show wpAny _ _ (ret (.ref z)) _ _ s
  exact wpAny_pure ⟨_, rfl, "zip", _, hT, F.slot_zip_next.lookup, h⟩
theorem zip_go {elts : List Expr} {x1 : Nat} {pos : Pos} {T : Addr} {Q : Unit → Shared → Prop} (hz : s.heap.get? z = some (zipO strict (rawInt T) TI TO))
    (hQ : ∀ h', h'.get? z = some (zipO strict .none TI TO) → Heap.SameBut z s.heap h' → Q () { s with heap := h' }) : wpAny (model prog w) A (letOwnedTupleGo (.Tuple elts x1 pos) (.ref z) (.ref T)) Q E s := by
  unfold letOwnedTupleGo
  refine wpAny_bind (wpAny_load hz ?_)
  show wpAny _ _ (if (["enumerate", "zip", "dict_itemiterator", "dict_reverseitemiterator", "odict_iterator", "itertools.zip_longest", "itertools.pairwise"].contains "zip" &&
      (#[rawInt T, .bool false, .bool strict, .ref TI, .ref TO] : Array Value)[0]? == some (rawInt T)) = true then _ else _) Q E s
  rw [if_pos (by simp)]
  refine wpAny_bind (wpAny_rule ?_)
  exact wpAny_setField_rec hz (by simp) fun h' hz' sb => hQ h' hz' sb
end
end WF
namespace WF
open PySem PySem.Spec PyProof.Rows L2
section
variable {prog : Program} {w : World} {A : Around} {E : Value → Shared → Prop} {s : Shared}
abbrev iterO (k : Bool) (a : Addr) : Obj := { cls := .type (if k then "list_iterator" else "tuple_iterator"), data := .fields #[.ref a, .int 0 0] }
theorem pyIterK {k : Bool} {a : Addr} {xs : Array Value} {Q : Value → Shared → Prop} (h : seqAt k s.heap a xs) (hQ : Q (.ref s.heap.objs.size) { s with heap := s.heap.push (iterO k a) }) : wpAny (model prog w) A (pyIter (.ref a)) Q E s := by
  cases k with
  | true => exact wpAny_pyIter_list h hQ
  | false => exact wpAny_pyIter_tuple h hQ
theorem seqAt_push {k : Bool} {h : Heap} {a : Addr} {xs : Array Value} {o : Obj} (x : seqAt k h a xs) : seqAt k (h.push o) a xs := seqAt_keep x fun _ e => Heap.get?_push_of_some _ e
theorem iterO_at {k : Bool} {h : Heap} {a it : Addr} (e : h.get? it = some (iterO k a)) : itAt k h it a 0 := by
  cases k with
  | true => exact ⟨_, e, rfl, rfl⟩
  | false => exact ⟨_, e, rfl, rfl⟩
theorem callTypeKw {T newId : String} {Bn : Builtin} {args : List Value} {a0 : Value} {kw : List (Str × Value)} {S : PySem.Spec} {Q : Value → Shared → Prop} (ft : TypeCalled T newId "object.__init__") (hne : (some newId != some "object.__new__") = true)
    (hct : checkTypeCall T ⟨a0 :: args, kw⟩ = pure ()) (hcn : checkBuiltinCall newId ⟨.type T :: a0 :: args, kw⟩ = pure ()) (hok : ∀ obj, argsOk "object.__init__" ⟨obj :: a0 :: args, kw⟩) (entryN : entryFor table newId = some Bn) (g : Meets (Bn ⟨.type T :: a0 :: args, kw⟩) S)
    (h : S A.in1 (wants (fun obj s₁ => s₁.TypeIs obj T ∧ Q obj s₁) E) s) : wpAny (model prog w) A (call (.type T) (a0 :: args) kw) Q E s := by
  obtain ⟨c, tl, hmro⟩ := ft.mro
  have hmade := ft.made
  have hsub := ft.sub
  refine wpAny_call (codeAny_of_tree ?_)
  show wpAny _ _ (callAny (.type T) _) _ _ _
  refine wpAny_pure ⟨Code.quiet_builtin _ (by decide +kernel), codeAny_builtin F.entry_type_call ?_⟩
  rw [Around.under_plain (weight_type_call_type T (a0 :: args) kw) (units_type_call_type T (a0 :: args) kw)]
  have h1 := ft.notType
  have h2 := ft.canCreate
  repeat (any_goals (first | assumption | wp_step))
  refine codeAny_mono (codeAny_call_builtin ft.plain entryN (wpAny_of_eq hcn (g prog w A.in1 _ s h))) fun r s₁ hr => ?_
  cases r with
  | error e => exact hr
  | ok fl =>
    cases fl with
    | ret obj =>
      obtain ⟨hT, hq⟩ := hr
      have hli := ft.init.lookup
      have hbi := ft.init.bind obj
      repeat (any_goals (first | assumption | wp_step))
      have gi : Meets (Builtin.«object.__init__» ⟨obj :: a0 :: args, kw⟩) (fun _ R s => s.TypeIs obj T ∧ R (.ok (.ret .none)) s) := by
        refine Meets.of_wp fun prog w A R s hs => ?_
        obtain ⟨hT, hq⟩ := hs
        have hl := ft.init.lookup
        have hm := ft.made
        repeat (any_goals (first | assumption | wp_step))
        exact ⟨_, rfl, hq⟩
      refine codeAny_mono (codeAny_call_builtin ft.init.plain F.entry_object_init (ft.init.check _ _ _ _ _ _ _ _ hT (hok obj) (gi prog w A.in1 _ s₁ (⟨hT, ⟨rfl, hq⟩⟩ : s₁.TypeIs obj T ∧ wants (fun r s₂ => r = .none ∧ Q obj s₂) E (.ok (.ret .none)) s₁)))) fun r₂ s₂ hr₂ => ?_
      cases r₂ with
      | error e => exact hr₂
      | ok fl₂ =>
        cases fl₂ with
        | ret r =>
          obtain ⟨rfl, hq2⟩ := hr₂
          repeat (any_goals (first | assumption | wp_step))
        | _ => exact hr₂.elim
    | _ => exact hr.elim
def kwS (strict : Bool) (kf : Bool := false) : List (Str × Value) := if strict then [("strict", .bool true)] else if kf then [("strict", .bool false)] else []
abbrev Sq := Addr × Bool × Array Value
def mkIts : Nat → List Sq → List Sr
  | _, [] => []
  | n, x :: r => ⟨n, x.1, x.2.1, x.2.2⟩ :: mkIts (n + 1) r
theorem mkIts_len : ∀ (n : Nat) (l : List Sq), (mkIts n l).length = l.length
  | _, [] => rfl
  | n, x :: r => by simp [mkIts, mkIts_len (n + 1) r]
theorem mkIts_ge : ∀ {n : Nat} {l : List Sq} {q : Sr}, q ∈ mkIts n l → n ≤ q.it ∧ q.it < n + l.length ∧ (q.a, q.k, q.xs) ∈ l
  | n, x :: r, q, m => by
    rcases List.mem_cons.mp m with rfl | m
    · exact ⟨Nat.le_refl _, by simp, List.mem_cons_self⟩
    · obtain ⟨h1, h2, h3⟩ := mkIts_ge m
      exact ⟨Nat.le_of_succ_le h1, Nat.lt_of_lt_of_eq h2 (by simp; omega), List.mem_cons_of_mem _ h3⟩
theorem mkIts_nd : ∀ (n : Nat) (l : List Sq), ((mkIts n l).map Sr.it).Nodup
  | _, [] => List.nodup_nil
  | n, x :: r => by
    refine List.nodup_cons.mpr ⟨fun m => ?_, mkIts_nd (n + 1) r⟩
    obtain ⟨q, hq, e⟩ := List.mem_map.mp m
    have := (mkIts_ge hq).1
    have e : q.it = n := e
    rw [e] at this
    exact Nat.not_succ_le_self n this
theorem iter_loop {f : Value → Array Value → Sem (ForInStep (Array Value))} (hf : ∀ v acc, f v acc = (do let y ← holding acc.toList (pyIter v); pure (.yield (acc.push y)))) {R : Array Value → Shared → Prop} : ∀ (l : List Sq) (acc : Array Value) (s : Shared), (∀ x ∈ l, seqAt x.2.1 s.heap x.1 x.2.2) →
    (∀ h', (∀ c o, s.heap.get? c = some o → h'.get? c = some o) → (∀ q ∈ mkIts s.heap.objs.size l, h'.get? q.it = some (iterO q.k q.a)) → h'.objs.size = s.heap.objs.size + l.length → R (acc ++ ((mkIts s.heap.objs.size l).map fun q => Value.ref q.it).toArray) { s with heap := h' }) →
    wpAny (model prog w) A (forIn (l.map fun x => Value.ref x.1) acc f) R E s
  | [], acc, s, _, h => by
    simp only [List.map_nil, List.forIn_nil]
    have := h s.heap (fun _ _ e => e) (fun q m => nomatch m) (by simp)
    simp [mkIts] at this
    exact wpAny_pure this
  | x :: l, acc, s, hs, h => by
    simp only [List.map_cons, List.forIn_cons, hf]
    refine wpAny_bind (wpAny_bind (wpAny_holding (pyIterK (hs x List.mem_cons_self) (wpAny_pure ?_))))
    have hsz : (s.heap.push (iterO x.2.1 x.1)).objs.size = s.heap.objs.size + 1 := Heap.size_push ..
    refine iter_loop hf l _ { s with heap := s.heap.push (iterO x.2.1 x.1) } (fun y m => seqAt_push (hs y (List.mem_cons_of_mem _ m))) fun h' kp its sz => ?_
    have its : ∀ q ∈ mkIts (s.heap.push (iterO x.2.1 x.1)).objs.size l, h'.get? q.it = some (iterO q.k q.a) := its
    have sz : h'.objs.size = (s.heap.push (iterO x.2.1 x.1)).objs.size + l.length := sz
    have q := h h' (fun c o e => kp c o (Heap.get?_push_of_some _ e)) (fun q m => ?_) (by rw [sz, hsz]; simp; omega)
    · show R (acc.push (.ref s.heap.objs.size) ++ ((mkIts (s.heap.push (iterO x.2.1 x.1)).objs.size l).map fun q => Value.ref q.it).toArray) _
      rw [hsz]
      have e : acc ++ ((mkIts s.heap.objs.size (x :: l)).map fun q => Value.ref q.it).toArray = acc.push (.ref s.heap.objs.size) ++ ((mkIts (s.heap.objs.size + 1) l).map fun q => Value.ref q.it).toArray := by
        simp [mkIts]
      rw [← e]
      exact q
    · rcases List.mem_cons.mp m with rfl | m
      · exact kp _ _ (Heap.get?_push_size _ rfl)
      · exact its q (by rw [hsz]; exact m)
theorem newClass_zip {r : List Value} {kw : List (Str × Value)} {Q : Value × List Value → Shared → Prop} (h : Q (.type "zip", r) s) : wpAny (model prog w) A (Builtin.SmallTypes.newClass "zip" ⟨.type "zip" :: r, kw⟩) Q E s := by
  have hsub := sub_zip
  wp_walk
  exact h
def ZipMade (strict : Bool) (l : List Sq) (h h' : Heap) : Prop :=
  (∀ c o, h.get? c = some o → h'.get? c = some o) ∧ (∀ q ∈ mkIts h.objs.size l, h'.get? q.it = some (iterO q.k q.a)) ∧ h'.get? (h.objs.size + l.length) = some (tupO ((mkIts h.objs.size l).map fun q => Value.ref q.it).toArray) ∧
    h'.get? (h.objs.size + l.length + 1) = some (tupO (List.replicate l.length Value.none).toArray) ∧ h'.get? (h.objs.size + l.length + 2) = some (zipO strict .none (h.objs.size + l.length) (h.objs.size + l.length + 1)) ∧ h'.objs.size = h.objs.size + l.length + 3
theorem zip_new {l : List Sq} (strict : Bool) {kf : Bool} {Q : Fin → Shared → Prop} (hl : l.length ≤ 1000) (hs : ∀ x ∈ l, seqAt x.2.1 s.heap x.1 x.2.2) (h : ∀ h', ZipMade strict l s.heap h' → Q (.done (.ret (.ref (s.heap.objs.size + l.length + 2)))) { s with heap := h' }) :
    wpAny (model prog w) A (Builtin.«zip.__new__» ⟨.type "zip" :: (l.map fun x => Value.ref x.1), kwS strict kf⟩) Q E s := by
  obtain ⟨hp, g, d, tk, os⟩ := s
  have body : wpAny (model prog w) A (do
      let its ← Builtin.SmallTypes.iterAll (l.map fun x => Value.ref x.1)
      let t1 ← newTuple its
      let t2 ← newTuple (List.map (fun x => Value.none) its)
      let r ← Builtin.SmallTypes.newRecord (.type "zip") (Builtin.SmallTypes.ownedTupleFields ++ [Value.bool strict, t1, t2])
      ret r) Q E ⟨hp, g, d, tk, os⟩ := by
    refine wpAny_bind ?_
    unfold Builtin.SmallTypes.iterAll
    refine wpAny_bind (iter_loop (fun v acc => rfl) l #[] _ hs fun h1 kp its sz => wpAny_pure ?_)
    have its : ∀ q ∈ mkIts hp.objs.size l, h1.get? q.it = some (iterO q.k q.a) := its
    have sz : h1.objs.size = hp.objs.size + l.length := sz
    have e0 : (#[] ++ ((mkIts hp.objs.size l).map fun q => Value.ref q.it).toArray : Array Value).toList = (mkIts hp.objs.size l).map fun q => Value.ref q.it := by simp
    show wpAny _ _ (newTuple (#[] ++ ((mkIts hp.objs.size l).map fun q => Value.ref q.it).toArray : Array Value).toList >>= _) _ _ _
    rw [e0]
    have ln : ((mkIts hp.objs.size l).map fun q => Value.ref q.it).length = l.length := by rw [List.length_map, mkIts_len]
    have big : l.length ≤ sizeLine := Nat.le_trans hl (by decide)
    refine wpAny_bind (wpAny_newTuple ?_ (by rw [ln]; exact big))
    refine wpAny_bind (wpAny_newTuple ?_ (by rw [List.length_map, ln]; exact big))
    refine wpAny_bind ?_
    show wpAny _ _ (newObj (.type "zip") (.fields #[.none, .bool false, .bool strict, _, _])) _ _ _
    refine wpAny_newObj_type ?_ (by size_fits)
    refine wpAny_pure ?_
    have s1 : (h1.push (tupO ((mkIts hp.objs.size l).map fun q => Value.ref q.it).toArray)).objs.size = hp.objs.size + l.length + 1 := by rw [Heap.size_push, sz]
    have s2 : ((h1.push (tupO ((mkIts hp.objs.size l).map fun q => Value.ref q.it).toArray)).push (tupO (List.map (fun _ => Value.none) ((mkIts hp.objs.size l).map fun q => Value.ref q.it)).toArray)).objs.size = hp.objs.size + l.length + 2 := by rw [Heap.size_push, s1]
    have en : List.map (fun _ => Value.none) ((mkIts hp.objs.size l).map fun q => Value.ref q.it) = List.replicate l.length Value.none := by rw [List.map_const', ln]
    have m : ZipMade strict l hp (((h1.push (tupO ((mkIts hp.objs.size l).map fun q => Value.ref q.it).toArray)).push (tupO (List.map (fun _ => Value.none) ((mkIts hp.objs.size l).map fun q => Value.ref q.it)).toArray)).push (zipO strict .none h1.objs.size (h1.push (tupO ((mkIts hp.objs.size l).map fun q => Value.ref q.it).toArray)).objs.size)) := by
      refine ⟨fun c o e => Heap.get?_push_of_some _ (Heap.get?_push_of_some _ (Heap.get?_push_of_some _ (kp c o e))), fun q m => Heap.get?_push_of_some _ (Heap.get?_push_of_some _ (Heap.get?_push_of_some _ (its q m))), ?_, ?_, ?_, by rw [Heap.size_push, s2]⟩
      · rw [← sz]; exact Heap.get?_push_of_some _ (Heap.get?_push_of_some _ (Heap.get?_push_size _ rfl))
      · rw [← s1, ← en]; exact Heap.get?_push_of_some _ (Heap.get?_push_size _ rfl)
      · rw [← s2]
        have := Heap.get?_push_size ((h1.push (tupO ((mkIts hp.objs.size l).map fun q => Value.ref q.it).toArray)).push (tupO (List.map (fun _ => Value.none) ((mkIts hp.objs.size l).map fun q => Value.ref q.it)).toArray)) (o := zipO strict .none h1.objs.size (h1.push (tupO ((mkIts hp.objs.size l).map fun q => Value.ref q.it).toArray)).objs.size) rfl
        rw [this, sz, s1]
    have q := h _ m
    show Q (.done (.ret (.ref _))) _
    have q2 : Q (.done (.ret (.ref (hp.objs.size + l.length + 2)))) _ := q
    rw [← s2] at q2
    exact q2
  cases strict with
  | false =>
    cases kf with
    | false =>
      unfold Builtin.«zip.__new__»
      exact wpAny_bind (newClass_zip body)
    | true =>
      have hk : ((("strict" : Str)) != "strict") = false := by decide +kernel
      unfold Builtin.«zip.__new__»
      simp only [kwS, if_true, hk, List.length_cons, List.length_nil, Nat.zero_add, gt_iff_lt, Nat.lt_irrefl, if_false, Bool.false_eq_true]
      exact wpAny_bind (newClass_zip (wpAny_bind (wpAny_truthy_bool body)))
  | true =>
    have hk : ((("strict" : Str)) != "strict") = false := by decide +kernel
    unfold Builtin.«zip.__new__»
    simp only [kwS, if_true, hk, List.length_cons, List.length_nil, Nat.zero_add, gt_iff_lt, Nat.lt_irrefl, if_false, Bool.false_eq_true]
    exact wpAny_bind (newClass_zip (wpAny_bind (wpAny_truthy_bool body)))
end
end WF
namespace WF
open PySem PySem.Spec PyProof.Rows L2
def SqK (K : PySem.W.Frag) (H : Hp) (x : Addr × Bool) (vs : List V) : Prop := match x.2 with
  | true => SqL K H x.1 vs
  | false => SqT K H x.1 vs
inductive RdAll (K : PySem.W.Frag) (H : Hp) : List (Addr × Bool) → List (List V) → Prop where
  | nil : RdAll K H [] []
  | cons {x vs xs vss} : SqK K H x vs → RdAll K H xs vss → RdAll K H (x :: xs) (vs :: vss)
def Itz2 (K : PySem.W.Frag) (strict : Bool) (xs : List (Addr × Bool)) : It :=
  ⟨fun i H => ∃ vss, RdAll K H xs vss ∧ ∀ vs ∈ vss, i < vs.length,
   fun i H v H' => ∃ T us, v = .ref T ∧ H T = none ∧ H' = upd H T (.tup us) ∧ ∀ vss, RdAll K H xs vss → us.map some = vss.map (fun vs => vs[i]?),
   fun i H => ∃ vss, RdAll K H xs vss ∧ (∀ vs ∈ vss, i ≤ vs.length) ∧ (if strict = true then ∀ vs ∈ vss, i = vs.length else ∃ vs ∈ vss, i = vs.length)⟩
section
variable {X : Cx} {pins : List (Addr × Obj)} {σ : L2.St} {H : Hp} {s : Shared} {i : Nat}
theorem sqK_inj {x : Addr × Bool} {vs vs' : List V} (I : L2.Inv X pins σ H s) (h : SqK X.K H x vs) (h' : SqK X.K H x vs') : vs = vs' := by
  obtain ⟨a, k⟩ := x
  cases k with
  | true => exact I.list_inj h h'
  | false => exact I.tuple_inj h h'
theorem rdAll_inj (I : L2.Inv X pins σ H s) : ∀ {xs : List (Addr × Bool)} {v v' : List (List V)}, RdAll X.K H xs v → RdAll X.K H xs v' → v = v'
  | _, _, _, .nil, .nil => rfl
  | _, _, _, .cons a b, .cons a' b' => by rw [sqK_inj I a a', rdAll_inj I b b']
theorem sqK_at (I : L2.Inv X pins σ H s) {x : Addr × Bool} {vs : List V} (h : SqK X.K H x vs) : ∃ its : List Value, Vals vs its ∧ seqAt x.2 s.heap x.1 its.toArray := by
  obtain ⟨a, k⟩ := x
  cases k with
  | true => obtain ⟨its, r, p, _⟩ := I.list h; exact ⟨its, r, p.isList⟩
  | false => obtain ⟨its, r, p, _⟩ := I.tuple h; exact ⟨its, r, p⟩
theorem rdAll_at (I : L2.Inv X pins σ H s) : ∀ {xs : List (Addr × Bool)} {vss : List (List V)}, RdAll X.K H xs vss → ∃ itss : List (List Value), Paired Vals vss itss ∧ xs.length = itss.length ∧ ∀ (j : Nat) x its, xs[j]? = some x → itss[j]? = some its → seqAt x.2 s.heap x.1 its.toArray
  | _, _, .nil => ⟨[], .nil, rfl, fun j x its h => by simp at h⟩
  | _, _, .cons a b => by
    obtain ⟨its, r, h⟩ := sqK_at I a
    obtain ⟨itss, rs, hl, hs⟩ := rdAll_at I b
    refine ⟨its :: itss, .cons r rs, by simp [hl], fun j x its' h1 h2 => ?_⟩
    cases j with
    | zero => simp at h1 h2; subst h1 h2; exact h
    | succ j => exact hs j x its' (by simpa using h1) (by simpa using h2)
def mkSr : List Addr → List (Addr × Bool) → List (List Value) → List Sr
  | t :: ts, x :: xs, y :: ys => ⟨t, x.1, x.2, y.toArray⟩ :: mkSr ts xs ys
  | _, _, _ => []
theorem mkSr_its : ∀ {ts : List Addr} {xs : List (Addr × Bool)} {ys : List (List Value)}, ts.length = xs.length → xs.length = ys.length → (mkSr ts xs ys).map Sr.it = ts
  | [], [], [], _, _ => rfl
  | t :: ts, x :: xs, y :: ys, h1, h2 => by simp [mkSr, mkSr_its (ts := ts) (xs := xs) (ys := ys) (by simpa using h1) (by simpa using h2)]
  | [], _ :: _, _, h, _ => by simp at h
  | _ :: _, [], _, h, _ => by simp at h
  | _, [], _ :: _, _, h => by simp at h
  | _, _ :: _, [], _, h => by simp at h
theorem mkSr_mem : ∀ {ts : List Addr} {xs : List (Addr × Bool)} {ys : List (List Value)} {q : Sr}, q ∈ mkSr ts xs ys → ∃ j : Nat, ts[j]? = some q.it ∧ xs[j]? = some (q.a, q.k) ∧ ∃ y, ys[j]? = some y ∧ q.xs = y.toArray
  | t :: ts, x :: xs, y :: ys, q, m => by
    rcases List.mem_cons.mp m with rfl | m
    · exact ⟨0, rfl, rfl, y, rfl, rfl⟩
    · obtain ⟨j, h1, h2, y', h3, h4⟩ := mkSr_mem m
      exact ⟨j + 1, by simpa using h1, by simpa using h2, y', by simpa using h3, h4⟩
theorem mkSr_refs {ts : List Addr} {xs : List (Addr × Bool)} {ys : List (List Value)} (h1 : ts.length = xs.length) (h2 : xs.length = ys.length) : (mkSr ts xs ys).map (fun q => Value.ref q.it) = ts.map Value.ref := by
  have e := congrArg (List.map Value.ref) (mkSr_its h1 h2)
  rw [List.map_map] at e
  exact e
theorem mkSr_items : ∀ {ts : List Addr} {xs : List (Addr × Bool)} {ys : List (List Value)}, ts.length = xs.length → xs.length = ys.length → (mkSr ts xs ys).map (fun q => q.xs[i]?) = ys.map (fun y => y[i]?)
  | [], [], [], _, _ => rfl
  | t :: ts, x :: xs, y :: ys, h1, h2 => by simp [mkSr, mkSr_items (ts := ts) (xs := xs) (ys := ys) (by simpa using h1) (by simpa using h2)]
  | [], _ :: _, _, h, _ => by simp at h
  | _ :: _, [], _, h, _ => by simp at h
  | _, [], _ :: _, _, h => by simp at h
  | _, _ :: _, [], _, h => by simp at h
theorem vals_at : ∀ {vss : List (List V)} {itss : List (List Value)} {xs : List Value}, Paired Vals vss itss → xs.map some = itss.map (fun y => y[i]?) → ∃ us, Vals us xs ∧ us.map some = vss.map (fun y => y[i]?)
  | _, _, [], .nil, _ => ⟨[], .nil, rfl⟩
  | _, _, x :: xs, .cons r t, h => by
    simp only [List.map_cons, List.cons.injEq] at h
    obtain ⟨us, v, e⟩ := vals_at t h.2
    rename_i vs its vss itss
    have hlt : i < vs.length := by
      rw [r.length]
      by_cases q : i < its.length
      · exact q
      · rw [List.getElem?_eq_none (by omega)] at h; cases h.1
    obtain ⟨u, e1, r1⟩ := r.get (List.getElem?_eq_getElem hlt)
    have : u = x := by rw [e1] at h; exact (Option.some.inj h.1).symm
    subst this
    exact ⟨vs[i] :: us, .cons r1 v, by rw [List.map_cons, List.map_cons, e, List.getElem?_eq_getElem hlt]⟩
  | _, _, [], .cons _ _, h => by simp at h
  | _, _, _ :: _, .nil, h => by simp at h
theorem paired_len {vss : List (List V)} {itss : List (List Value)} (p : Paired Vals vss itss) : ∀ its ∈ itss, ∃ vs ∈ vss, vs.length = its.length := by
  induction p with
  | nil => intro its m; cases m
  | cons r _ ih =>
    intro its m
    rcases List.mem_cons.mp m with rfl | m
    · exact ⟨_, List.mem_cons_self, r.length⟩
    · obtain ⟨vs, h1, h2⟩ := ih its m
      exact ⟨vs, List.mem_cons_of_mem _ h1, h2⟩
theorem paired_len' {vss : List (List V)} {itss : List (List Value)} (p : Paired Vals vss itss) : ∀ vs ∈ vss, ∃ its ∈ itss, vs.length = its.length := by
  induction p with
  | nil => intro its m; cases m
  | cons r _ ih =>
    intro its m
    rcases List.mem_cons.mp m with rfl | m
    · exact ⟨_, List.mem_cons_self, r.length⟩
    · obtain ⟨vs, h1, h2⟩ := ih its m
      exact ⟨vs, List.mem_cons_of_mem _ h1, h2⟩
end
structure ZTurn (z TI TO : Addr) (ts : List Addr) (xs : List (Addr × Bool)) : Prop where
  TIz : TI ≠ z
  TOz : TO ≠ z
  TITO : TI ≠ TO
  tz : ∀ t ∈ ts, t ≠ z ∧ t ≠ TI ∧ t ≠ TO
  xz : ∀ x ∈ xs, x.1 ≠ z ∧ x.1 ≠ TO ∧ ∀ t ∈ ts, x.1 ≠ t
  nd : ts.Nodup
  len : ts.length = xs.length
  ne : xs ≠ []
  sm : xs.length ≤ 1000
theorem ZTurn.apart {z TI TO : Addr} {ts : List Addr} {xs : List (Addr × Bool)} (Z : ZTurn z TI TO ts xs) {ys : List (List Value)} (h : xs.length = ys.length) : ZApart z TI TO (mkSr ts xs ys) := by
  have tm : ∀ q ∈ mkSr ts xs ys, q.it ∈ ts := fun q m => by
    obtain ⟨j, h1, _⟩ := mkSr_mem m
    exact List.mem_of_getElem? h1
  have xm : ∀ q ∈ mkSr ts xs ys, (q.a, q.k) ∈ xs := fun q m => by
    obtain ⟨j, _, h1, _⟩ := mkSr_mem m
    exact List.mem_of_getElem? h1
  exact ⟨Z.TIz, Z.TOz, Z.TITO, fun q m => (Z.tz _ (tm q m)).1, fun q m => (Z.tz _ (tm q m)).2.1, fun q m => (Z.tz _ (tm q m)).2.2, fun q m => (Z.xz _ (xm q m)).1, fun q m => (Z.xz _ (xm q m)).2.1,
    fun q m q' m' => (Z.xz _ (xm q m)).2.2 _ (tm q' m'), by rw [mkSr_its Z.len h]; exact Z.nd⟩
def zState (strict : Bool) (z TI TO : Addr) (ts : List Addr) (xs : List (Addr × Bool)) (i : Nat) (h : Heap) : Prop :=
  h.get? z = some (zipO strict .none TI TO) ∧ h.get? TI = some (tupO (ts.map Value.ref).toArray) ∧ (∃ old, old.size = xs.length ∧ h.get? TO = some (tupO old)) ∧ ∀ (j : Nat) t x, ts[j]? = some t → xs[j]? = some x → itAt x.2 h t x.1 i
theorem turn_zipX {P : Program} {w : World} {K : PySem.W.Frag} {elts : List Expr} {kk : Nat} {tpos : Pos} {strict : Bool} {z TI TO : Addr} {ts : List Addr} {xs : List (Addr × Bool)} (Z : ZTurn z TI TO ts xs) :
    Turn P w K (.Tuple elts kk tpos) (Itz2 K strict xs) (z :: TI :: TO :: ts) z (zState strict z TI TO ts xs) where
  mem := List.mem_cons_self
  obj := fun i h st b hb => by
    obtain ⟨hz, hTI, ⟨old, _, hTO⟩, hit⟩ := st
    rcases List.mem_cons.mp hb with rfl | hb
    · exact ⟨_, hz, fun v q => nomatch q⟩
    rcases List.mem_cons.mp hb with rfl | hb
    · exact ⟨_, hTI, fun v q => nomatch q⟩
    rcases List.mem_cons.mp hb with rfl | hb
    · exact ⟨_, hTO, fun v q => nomatch q⟩
    obtain ⟨j, hj, e⟩ := List.mem_iff_getElem.mp hb
    have h1 : ts[j]? = some b := by rw [List.getElem?_eq_getElem hj, e]
    have h2 : xs[j]? = some (xs[j]'(by rw [← Z.len]; exact hj)) := List.getElem?_eq_getElem _
    exact itAt_get (hit j b _ h1 h2)
  keep := fun i h h' st k => by
    obtain ⟨hz, hTI, ⟨old, ho, hTO⟩, hit⟩ := st
    exact ⟨k z (by simp) _ hz, k TI (by simp) _ hTI, ⟨old, ho, k TO (by simp) _ hTO⟩, fun j t x h1 h2 => itAt_keep (hit j t x h1 h2) fun o => k t (by simp [List.mem_of_getElem? h1]) o⟩
  item := by
    intro X hP hw hK hc i pins s σ H E I hf st hg
    subst hP hw hK
    obtain ⟨hz, hTI, ⟨old, ho, hTO⟩, hit⟩ := st
    obtain ⟨vss, rd, hlt⟩ := hg
    obtain ⟨itss, pv, hl, hs⟩ := rdAll_at I rd
    have hh : X.A.handled = none := I.ok.hd hc
    have ln := Z.len
    have sl : (mkSr ts xs itss).length = xs.length := by
      have := congrArg List.length (mkSr_its ln hl)
      simpa [ln] using this
    have stt : ∀ q ∈ mkSr ts xs itss, q.St i s.heap ∧ i < q.xs.size := fun q m => by
      obtain ⟨j, h1, h2, y, h3, h4⟩ := mkSr_mem m
      refine ⟨⟨hit j _ _ h1 h2, by rw [h4]; exact hs j _ _ h2 h3⟩, ?_⟩
      obtain ⟨vs, m1, e1⟩ := paired_len pv y (List.mem_of_getElem? h3)
      rw [h4, List.size_toArray, ← e1]
      exact hlt vs m1
    have hne : mkSr ts xs itss ≠ [] := fun e => by
      rw [e] at sl
      have : xs.length = 0 := sl.symm
      exact Z.ne (List.length_eq_zero_iff.mp this)
    refine pyNext_zipX hh (Z.apart hl) hz (by rw [mkSr_refs ln hl]; exact hTI) hTO (by rw [sl]; exact ho) (by rw [sl]; exact Z.sm) hne stt fun ys h' tk ey hz' hTO' st' hT hsz kp => ?_
    refine ⟨_, rfl, zip_go (s := { s with heap := h', toks := tk }) hz' fun h2 hz2 sb => ?_⟩
    have sb : Heap.SameBut z h' h2 := sb
    rw [mkSr_items ln hl] at ey
    obtain ⟨us, vu, eu⟩ := vals_at pv ey
    have zl : z < s.heap.objs.size := Heap.lt_size hz
    have hT2 : h2.get? s.heap.objs.size = some (tupO ys.toArray) := sb.extBut _ _ (Nat.ne_of_gt zl) hT
    have ul : us.length ≤ sizeLine := by
      have e1 : us.length = xs.length := by
        have a := congrArg List.length ey
        simp at a
        rw [vu.length, a, hl]
      rw [e1]
      exact Nat.le_trans Z.sm (by decide)
    have new : ObjOk X.prog X.w (upd H s.heap.objs.size (.tup us)) h2 s.heap.objs.size (.tup us) := ⟨ul, ys, vu, ⟨_, hT2, rfl, _, rfl⟩⟩
    have tm : ∀ q ∈ mkSr ts xs itss, q.it ∈ ts := fun q m => by
      obtain ⟨j, h1, _⟩ := mkSr_mem m
      exact List.mem_of_getElem? h1
    have I1 : L2.Inv X pins σ (upd H s.heap.objs.size (.tup us)) { s with heap := h2, toks := tk } :=
      I.turnedNew (t' := tk) (ch := z :: TI :: TO :: ts) (fun c o hb q => sb.extBut _ _ (fun e => hb (by simp [e])) (kp c o (fun e => hb (by simp [e])) (fun e => hb (by simp [e])) (fun q' m e => hb (by simp [e, tm q' m])) q)) hf (Nat.le_refl _) new
    refine ⟨.ref s.heap.objs.size, _, I1, rfl, ⟨_, us, rfl, I.hok.fresh (Nat.le_refl _), rfl, fun vss' rd' => by rw [← rdAll_inj I rd rd']; exact eu⟩, ⟨hz2, ?_, ⟨ys.toArray, ?_, sb.extBut _ _ Z.TOz hTO'⟩, fun j t x h1 h2' => ?_⟩, fun c hcm => ?_⟩
    · refine sb.extBut _ _ Z.TIz (kp TI _ Z.TIz Z.TITO (fun q m e => ?_) hTI)
      exact (Z.tz _ (tm q m)).2.1 e.symm
    · have a := congrArg List.length ey
      simp at a
      simp [a, hl]
    · have hj : j < itss.length := by rw [← hl]; exact (List.getElem?_eq_some_iff.mp h2').1
      have hm : (⟨t, x.1, x.2, (itss[j]).toArray⟩ : Sr) ∈ mkSr ts xs itss := by
        have : ∀ {ts : List Addr} {xs : List (Addr × Bool)} {ys : List (List Value)} {j : Nat} {t : Addr} {x : Addr × Bool} {y : List Value}, ts[j]? = some t → xs[j]? = some x → ys[j]? = some y → (⟨t, x.1, x.2, y.toArray⟩ : Sr) ∈ mkSr ts xs ys := by
          intro ts
          induction ts with
          | nil => intro xs ys j t x y h; simp at h
          | cons t0 ts ih =>
            intro xs ys j t x y h1 h2 h3
            cases xs with
            | nil => simp at h2
            | cons x0 xs =>
              cases ys with
              | nil => simp at h3
              | cons y0 ys =>
                cases j with
                | zero => simp at h1 h2 h3; subst h1 h2 h3; exact List.mem_cons_self
                | succ j => exact List.mem_cons_of_mem _ (ih (by simpa using h1) (by simpa using h2) (by simpa using h3))
        exact this h1 h2' (List.getElem?_eq_getElem hj)
      exact itAt_keep (st' _ hm).1 fun o e => sb.extBut _ _ (Z.tz t (List.mem_of_getElem? h1)).1 e
    · have hlt' : c < s.heap.objs.size := by
        rcases List.mem_cons.mp hcm with rfl | hcm
        · exact zl
        rcases List.mem_cons.mp hcm with rfl | hcm
        · exact Heap.lt_size hTI
        rcases List.mem_cons.mp hcm with rfl | hcm
        · exact Heap.lt_size hTO
        obtain ⟨j, hj, e⟩ := List.mem_iff_getElem.mp hcm
        have h1 : ts[j]? = some c := by rw [List.getElem?_eq_getElem hj, e]
        obtain ⟨o, ho, _⟩ := itAt_get (hit j c _ h1 (List.getElem?_eq_getElem (by rw [← Z.len]; exact hj)))
        exact Heap.lt_size ho
      rw [upd_ne (Nat.ne_of_lt hlt')]
      exact (hf c hcm).1
  done := by
    intro X hP hw hK hc i pins s σ H E I hf st hg
    subst hP hw hK
    obtain ⟨hz, hTI, ⟨old, ho, hTO⟩, hit⟩ := st
    obtain ⟨vss, rd, hle, hend⟩ := hg
    obtain ⟨itss, pv, hl, hs⟩ := rdAll_at I rd
    have hh : X.A.handled = none := I.ok.hd hc
    have ln := Z.len
    have sl : (mkSr ts xs itss).length = xs.length := by
      have := congrArg List.length (mkSr_its ln hl)
      simpa [ln] using this
    have tm : ∀ q ∈ mkSr ts xs itss, q.it ∈ ts := fun q m => by
      obtain ⟨j, h1, _⟩ := mkSr_mem m
      exact List.mem_of_getElem? h1
    have stt : ∀ q ∈ mkSr ts xs itss, q.St i s.heap ∧ i ≤ q.xs.size := fun q m => by
      obtain ⟨j, h1, h2, y, h3, h4⟩ := mkSr_mem m
      refine ⟨⟨hit j _ _ h1 h2, by rw [h4]; exact hs j _ _ h2 h3⟩, ?_⟩
      obtain ⟨vs, m1, e1⟩ := paired_len pv y (List.mem_of_getElem? h3)
      rw [h4, List.size_toArray, ← e1]
      exact hle vs m1
    have hne : mkSr ts xs itss ≠ [] := fun e => by
      rw [e] at sl
      have : xs.length = 0 := sl.symm
      exact Z.ne (List.length_eq_zero_iff.mp this)
    have hex : if strict = true then ∀ q ∈ mkSr ts xs itss, i = q.xs.size else ∃ q ∈ mkSr ts xs itss, i = q.xs.size := by
      cases strict with
      | true =>
        rw [if_pos rfl] at hend ⊢
        intro q m
        obtain ⟨j, h1, h2, y, h3, h4⟩ := mkSr_mem m
        obtain ⟨vs, m1, e1⟩ := paired_len pv y (List.mem_of_getElem? h3)
        rw [h4, List.size_toArray, ← e1]
        exact hend vs m1
      | false =>
        rw [if_neg Bool.false_ne_true] at hend ⊢
        obtain ⟨vs, m1, e1⟩ := hend
        obtain ⟨its, m2, e2⟩ := paired_len' pv vs m1
        obtain ⟨j, hj, e3⟩ := List.mem_iff_getElem.mp m2
        have : ∀ {ts : List Addr} {xs : List (Addr × Bool)} {ys : List (List Value)} {j : Nat} {y : List Value}, ts.length = xs.length → xs.length = ys.length → ys[j]? = some y → ∃ q ∈ mkSr ts xs ys, q.xs = y.toArray := by
          intro ts
          induction ts with
          | nil =>
            intro xs ys j y h1 h2 h3
            have z : ys.length = 0 := h2.symm.trans h1.symm
            rw [List.length_eq_zero_iff.mp z] at h3
            simp at h3
          | cons t0 ts ih =>
            intro xs ys j y h1 h2 h3
            cases xs with
            | nil => simp at h1
            | cons x0 xs =>
              cases ys with
              | nil => simp at h3
              | cons y0 ys =>
                cases j with
                | zero => simp at h3; subst h3; exact ⟨_, List.mem_cons_self, rfl⟩
                | succ j =>
                  obtain ⟨q, m, e⟩ := ih (xs := xs) (ys := ys) (j := j) (y := y) (by simpa using h1) (by simpa using h2) (by simpa using h3)
                  exact ⟨q, List.mem_cons_of_mem _ m, e⟩
        obtain ⟨q, mq, eq⟩ := this (j := j) (y := its) ln hl (by rw [List.getElem?_eq_getElem hj, e3])
        exact ⟨q, mq, by rw [eq, List.size_toArray, ← e2]; exact e1⟩
    exact pyNext_zipEnd hh (Z.apart hl) hz (by rw [mkSr_refs ln hl]; exact hTI) hTO (by rw [sl]; exact ho) (by rw [sl]; exact Z.sm) hne stt hex fun h' tk kp =>
      ⟨rfl, I.turnedL (t' := tk) (ch := z :: TI :: TO :: ts) (fun c o hb q => kp c o (fun e => hb (by simp [e])) (fun e => hb (by simp [e])) (fun q' m e => hb (by simp [e, tm q' m])) q) hf⟩
  self := fun A i s Q E st h => pyIter_zipX st.1 h
end WF
namespace WF
open PySem PySem.Spec PyProof.Rows L2
section
variable {M : Model} {A : Around} {E : Value → Shared → Prop} {s : Shared} {env : Env}
end
structure ZipArgs (strict : Bool) (us : List Value) (kf : Bool := false) : Prop where
  ct : checkTypeCall "zip" ⟨us, kwS strict kf⟩ = pure ()
  cn : checkBuiltinCall "zip.__new__" ⟨.type "zip" :: us, kwS strict kf⟩ = pure ()
  ok : ∀ obj, argsOk "object.__init__" ⟨obj :: us, kwS strict kf⟩
theorem zipArgs2 (strict : Bool) (a b : Value) : ZipArgs strict [a, b] := by
  cases strict with
  | false => exact ⟨by kernel_rfl, by kernel_rfl, fun obj => by unfold argsOk; kernel_rfl⟩
  | true => exact ⟨by kernel_rfl, by kernel_rfl, fun obj => by unfold argsOk; kernel_rfl⟩
section
variable {prog : Program} {w : World} {A : Around} {E : Value → Shared → Prop} {s : Shared}
theorem call_zipX {l : List Sq} (strict : Bool) {kf : Bool} {Q : Value → Shared → Prop} (hl : l.length ≤ 1000) (hne : l ≠ []) (za : ZipArgs strict (l.map fun x => Value.ref x.1) kf) (hs : ∀ x ∈ l, seqAt x.2.1 s.heap x.1 x.2.2)
    (h : ∀ h', ZipMade strict l s.heap h' → Q (.ref (s.heap.objs.size + l.length + 2)) { s with heap := h' }) : wpAny (model prog w) A (call (.type "zip") (l.map fun x => Value.ref x.1) (kwS strict kf)) Q E s := by
  obtain ⟨x0, r, rfl⟩ : ∃ x0 r, l = x0 :: r := by
    cases l with
    | nil => exact (hne rfl).elim
    | cons x0 r => exact ⟨x0, r, rfl⟩
  have g : Meets (Builtin.«zip.__new__» ⟨.type "zip" :: Value.ref x0.1 :: (r.map fun x => Value.ref x.1), kwS strict kf⟩) (fun _ R s => (∀ x ∈ x0 :: r, seqAt x.2.1 s.heap x.1 x.2.2) ∧ ∀ h', ZipMade strict (x0 :: r) s.heap h' → R (.ok (.ret (.ref (s.heap.objs.size + (x0 :: r).length + 2)))) { s with heap := h' }) :=
    Meets.of_wp fun prog w A R s h => zip_new (l := x0 :: r) strict hl h.1 fun h' m => ⟨_, rfl, h.2 h' m⟩
  have k : (∀ x ∈ x0 :: r, seqAt x.2.1 s.heap x.1 x.2.2) ∧ ∀ h', ZipMade strict (x0 :: r) s.heap h' → wants (fun obj s1 => s1.TypeIs obj "zip" ∧ Q obj s1) E (.ok (.ret (.ref (s.heap.objs.size + (x0 :: r).length + 2)))) { s with heap := h' } :=
    ⟨hs, fun h' m => ⟨⟨_, m.2.2.2.2.1, rfl⟩, h h' m⟩⟩
  have hd : (some "zip.__new__" != some "object.__new__") = true := by decide
  have c1 := za.ct
  have c2 := za.cn
  have c3 := za.ok
  simp only [List.map_cons] at c1 c2 c3 ⊢
  refine callTypeKw F.called_zip hd c1 c2 c3 F.entry_zip_new g ?_
  exact k
end
def iZipX (K : PySem.W.Frag) (strict : Bool) (ta : TA) : TI := fun σ H R => ta σ H fun vs H1 => ∃ (xs : List (Addr × Bool)) (vss : List (List V)), vs = xs.map (fun x => V.ref x.1) ∧ RdAll K H1 xs vss ∧ R (Itz2 K strict xs) H1
section
variable {X : Cx} {pins : List (Addr × Obj)} {σ : L2.St} {H : Hp} {s : Shared}
theorem vals_refs : ∀ {xs : List (Addr × Bool)} {us : List Value}, Vals (xs.map fun x => V.ref x.1) us → us = xs.map fun x => Value.ref x.1
  | [], _, .nil => rfl
  | x :: xs, _, .cons r t => by
    have e := vals_refs (xs := xs) t
    rw [e, show _ = Value.ref x.1 from r]
    rfl
theorem mkSq (I : L2.Inv X pins σ H s) : ∀ {xs : List (Addr × Bool)} {vss : List (List V)}, RdAll X.K H xs vss → ∃ l : List Sq, l.map (fun x => (x.1, x.2.1)) = xs ∧ ∀ x ∈ l, seqAt x.2.1 s.heap x.1 x.2.2
  | _, _, .nil => ⟨[], rfl, fun x m => nomatch m⟩
  | _, _, .cons a b => by
    obtain ⟨its, r, h⟩ := sqK_at I a
    obtain ⟨l, e, hs⟩ := mkSq I b
    rename_i x vs xs vss
    refine ⟨(x.1, x.2, its.toArray) :: l, by rw [List.map_cons, e], fun y m => ?_⟩
    rcases List.mem_cons.mp m with rfl | m
    · exact h
    · exact hs y m
theorem seqAt_lt {k : Bool} {h : Heap} {a : Addr} {xs : Array Value} (x : seqAt k h a xs) : a < h.objs.size := by
  cases k with
  | true => obtain ⟨o, e, _⟩ := x; exact Heap.lt_size e
  | false => obtain ⟨o, e, _⟩ := x; exact Heap.lt_size e
theorem zip_pie {elts : List Expr} {kk : Nat} {tpos : Pos} {R : It → Hp → Prop} (strict : Bool) {kf : Bool} (I : L2.Inv X pins σ H s) {xs : List (Addr × Bool)} {vss : List (List V)} (rd : RdAll X.K H xs vss) (hne : xs ≠ []) (hsm : xs.length ≤ 1000) (za : ZipArgs strict (xs.map fun x => Value.ref x.1) kf) (q : R (Itz2 X.K strict xs) H) :
    wpAny (model X.prog X.w) X.A (call (.type "zip") (xs.map fun x => Value.ref x.1) (kwS strict kf)) (fun v s1 => wpAny (model X.prog X.w) X.A (pyIter v) (PIE X pins σ (.Tuple elts kk tpos) R) X.xe s1) X.xe s := by
  obtain ⟨l, el, hs⟩ := mkSq I rd
  have ll : l.length = xs.length := by rw [← el, List.length_map]
  have er : (xs.map fun x => Value.ref x.1) = l.map fun x => Value.ref x.1 := by rw [← el, List.map_map]; rfl
  rw [er] at za ⊢
  refine call_zipX strict (by omega) (fun e => hne (by rw [← el, e]; rfl)) za hs fun h' m => ?_
  obtain ⟨kp, its, hTI, hTO, hz, sz⟩ := m
  refine pyIter_zipX (s := { s with heap := h' }) hz ?_
  have I2 : L2.Inv X pins σ H { s with heap := h' } := I.kept (t' := s.toks) kp
  let n := s.heap.objs.size
  let ts := (mkIts n l).map Sr.it
  have tl : ts.length = xs.length := by rw [List.length_map, mkIts_len, ll]
  have tge : ∀ t : Nat, t ∈ ts → n ≤ t ∧ t < n + l.length := fun t m => by
    obtain ⟨q, hq, rfl⟩ := List.mem_map.mp m
    exact ⟨(mkIts_ge hq).1, (mkIts_ge hq).2.1⟩
  have ne : ∀ a b : Nat, a < b → (a : Addr) ≠ b := fun a b h => Nat.ne_of_lt h
  have xlt : ∀ x ∈ xs, Nat.lt x.1 n := fun x m => by
    rw [← el] at m
    obtain ⟨y, hy, rfl⟩ := List.mem_map.mp m
    exact seqAt_lt (hs y hy)
  have Z : ZTurn (n + l.length + 2) (n + l.length) (n + l.length + 1) ts xs := by
    refine ⟨ne _ _ (by omega), (ne _ _ (by omega)), ne _ _ (by omega), fun t m => ?_, fun x m => ?_, mkIts_nd _ _, tl, hne, hsm⟩
    · have := tge t m
      exact ⟨ne t _ (by omega), ne t _ (by omega), ne t _ (by omega)⟩
    · have := xlt x m
      have h2 : ∀ k : Nat, Nat.lt x.1 (n + k) := fun k => Nat.lt_of_lt_of_le this (Nat.le_add_right n k)
      exact ⟨Nat.ne_of_lt (h2 (l.length + 2)), Nat.ne_of_lt (h2 (l.length + 1)), fun t m' => Nat.ne_of_lt (Nat.lt_of_lt_of_le this (tge t m').1)⟩
  have fr : ∀ c ∈ (n + l.length + 2) :: (n + l.length) :: (n + l.length + 1) :: ts, FpOk X pins H c := fun c hc => by
    have hle : n ≤ c := by
      rcases List.mem_cons.mp hc with rfl | hc
      · omega
      rcases List.mem_cons.mp hc with rfl | hc
      · omega
      rcases List.mem_cons.mp hc with rfl | hc
      · omega
      exact (tge c hc).1
    exact I.fpOk hle (I.hok.fresh hle)
  refine ⟨n + l.length + 2, (n + l.length + 2) :: (n + l.length) :: (n + l.length + 1) :: ts, _, _, H, rfl, I2, turn_zipX Z, ⟨hz, ?_, ⟨_, ?_, hTO⟩, fun j t x h1 h2 => ?_⟩, fr, q⟩
  · have e : (mkIts n l).map (fun q => Value.ref q.it) = ts.map Value.ref := by rw [List.map_map]; rfl
    rw [← e]
    exact hTI
  · simp [ll]
  · have hj : (mkIts n l)[j]? = some ((mkIts n l)[j]'(by
        have := (List.getElem?_eq_some_iff.mp h1).1
        simpa [ts] using this)) := List.getElem?_eq_getElem _
    have ht : ((mkIts n l)[j]'(by
        have := (List.getElem?_eq_some_iff.mp h1).1
        simpa [ts] using this)).it = t := by
      have h1 : ((mkIts n l).map Sr.it)[j]? = some t := h1
      rw [List.getElem?_map, hj] at h1
      exact Option.some.inj h1
    have e := its _ (List.mem_of_getElem? hj)
    rw [ht] at e
    have hx : ∀ {n : Nat} {l : List Sq} {j : Nat} {q : Sr} {x : Addr × Bool}, (mkIts n l)[j]? = some q → (l.map (fun x => (x.1, x.2.1)))[j]? = some x → (q.a, q.k) = x := by
      intro n l
      induction l generalizing n with
      | nil => intro j q x h; simp [mkIts] at h
      | cons y l ih =>
        intro j q x h1 h2
        cases j with
        | zero => simp [mkIts] at h1 h2; rw [← h1, ← h2]
        | succ j => exact ih (n := n + 1) (by simpa [mkIts] using h1) (by simpa using h2)
    rw [← el] at h2
    have e2 := hx hj h2
    rw [← e2]
    exact iterO_at e
variable {e : Expr} {es : List Expr} {p pos tpos kpos cpos : Pos} {elts : List Expr} {kk j : Nat} {ta : TA}
theorem pi_zipX (hn : ∀ us : List Value, us.length = (e :: es).length → ZipArgs false us) (hsm : (e :: es).length ≤ 1000) (hlen : ∀ σ H Q, ta σ H Q → ta σ H fun vs H1 => vs.length = (e :: es).length ∧ Q vs H1) (hg : Gl X "zip") (hm : X.mg "zip" = none) (ha : PA X (e :: es) ta)
    (hs : starEach (e :: es) X.env = (false, eval e X.env) :: starEach es X.env := by rfl) (hpl : (backTo pos (starEach es X.env)).any (·.1) = false := by rfl) : PI X (.Tuple elts kk tpos) (.Call (.Name "zip" p) (e :: es) [] pos) (iZipX X.K false ta) := ⟨fun pins s σ H R I h => by
  refine Call_ (ld_blt I hg hm PyProof.Rows.boot_zip (PyProof.Rows.callWith_type1 (thn (ha.run pos pins s σ H _ I (hlen _ _ _ h)) fun us s1 ⟨vs, H1, I1, r1, q0, q1⟩ => ?_) hs hpl))
  obtain ⟨xs, vss, ex, rd, q1⟩ := q1
  subst ex
  have hu := vals_refs r1
  have hl : us.length = (e :: es).length := by rw [← r1.length]; exact q0
  subst hu
  have hl2 : xs.length = (e :: es).length := by simpa using hl
  have za := hn _ hl
  exact zip_pie false I1 rd (fun z => by rw [z] at hl2; simp at hl2) (by omega) za q1⟩
end
end WF
namespace WF
open PySem PySem.Spec PyProof.Rows L2
section
variable {prog : Program} {w : World} {A : Around} {E : Value → Shared → Prop} {s : Shared}
theorem meets_enumK (k : Bool) (a : Addr) (xs : Array Value) :
    Meets (Builtin.«enumerate.__new__» ⟨[.type "enumerate", .ref a], []⟩) (fun _ R s => seqAt k s.heap a xs ∧ R (.ok (.ret (.ref (s.heap.push (iterO k a)).objs.size)))
      { s with heap := (s.heap.push (iterO k a)).push { cls := .type "enumerate", data := .fields #[.none, .bool false, .ref s.heap.objs.size, rawInt 0, .none, .none] } }) :=
  .of_wp fun prog w A R s h => by
    obtain ⟨hp, g, d, tk, os⟩ := s
    obtain ⟨hl, h⟩ := h
    have hsub := sub_enumerate
    have hL : seqAt k (Shared.heap ⟨hp, g, d, tk, os⟩) a xs := hl
    wp_walk
    refine wpAny_stack_any fun st => wpAny_pure ?_
    split
    · rename_i c _ _ _ _ _
      cases (c == Value.type "enumerate")
      · wp_walk using pyIterK hL
        exact ⟨_, rfl, h⟩
      · wp_walk using pyIterK hL
        exact ⟨_, rfl, h⟩
    · wp_walk using pyIterK hL
      exact ⟨_, rfl, h⟩
theorem call_enumK {k : Bool} {a : Addr} {xs : Array Value} {Q : Value → Shared → Prop} (hL : seqAt k s.heap a xs)
    (h : ∀ h', IsEnum h' (s.heap.objs.size + 1) s.heap.objs.size 0 .none → itAt k h' s.heap.objs.size a 0 → (∀ b o, s.heap.get? b = some o → h'.get? b = some o) → Q (.ref (s.heap.objs.size + 1)) { s with heap := h' }) :
    wpAny (model prog w) A (call (.type "enumerate") [.ref a]) Q E s := by
  have hz : (s.heap.push (iterO k a)).objs.size = s.heap.objs.size + 1 := Heap.size_push ..
  refine callType_new F.called_enumerate (by decide) (F.typeCall_enumerate_1 _) (F.newCall_enumerate_1 _) (fun obj => F.args_object_init_2 obj _) F.entry_enumerate_new (meets_enumK k a xs) ⟨hL, ?_⟩
  show _ ∧ _
  rw [hz]
  have he : IsEnum ((s.heap.push (iterO k a)).push { cls := .type "enumerate", data := .fields #[.none, .bool false, .ref s.heap.objs.size, rawInt 0, .none, .none] }) (s.heap.objs.size + 1) s.heap.objs.size 0 .none := by
    rw [← hz]
    exact Heap.get?_push_size _ rfl
  exact ⟨⟨_, he, rfl⟩, h _ he (iterO_at (Heap.get?_push_of_some _ (Heap.get?_push_size _ rfl))) fun b o x => Heap.get?_push_of_some _ (Heap.get?_push_of_some _ x)⟩
end
def Ite2 (K : PySem.W.Frag) (x : Addr × Bool) : It :=
  ⟨fun i H => ∃ (xs : List V) (u : V), SqK K H x xs ∧ xs[i]? = some u, fun i H v H' => ∃ T u, v = .ref T ∧ H T = none ∧ H' = upd H T (.tup [.int (i : Nat), u]) ∧ ∀ xs, SqK K H x xs → xs[i]? = some u, fun i H => ∃ xs : List V, SqK K H x xs ∧ xs.length = i⟩
theorem turn_enumX {P : Program} {w : World} {K : PySem.W.Frag} {elts : List Expr} {kk : Nat} {tpos : Pos} {x : Addr × Bool} {e it : Addr} (hei : e ≠ it) (hea : e ≠ x.1) (hia : x.1 ≠ it) :
    Turn P w K (.Tuple elts kk tpos) (Ite2 K x) [e, it] e (fun i h => (∃ old, IsEnum h e it ((i : Nat) : Int) old) ∧ itAt x.2 h it x.1 i) where
  mem := List.mem_cons_self
  obj := fun i h st b hb => by
    obtain ⟨⟨old, he⟩, hi⟩ := st
    have e' : b = e ∨ b = it := by simpa using hb
    rcases e' with rfl | rfl
    · exact ⟨_, he, fun v q => nomatch q⟩
    · exact itAt_get hi
  keep := fun i h h' st k => let ⟨⟨old, he⟩, hi⟩ := st; ⟨⟨old, k e (by simp) _ he⟩, itAt_keep hi fun o q => k it (by simp) o q⟩
  item := by
    intro X hP hw hK hc i pins s σ H E I hf st hg
    subst hP hw hK
    obtain ⟨⟨old, he⟩, hit⟩ := st
    obtain ⟨xs, u, hq, hx⟩ := hg
    obtain ⟨its, rv, hseq⟩ := sqK_at I hq
    obtain ⟨y, hy, ry⟩ := rv.get hx
    have hh : X.A.handled = none := I.ok.hd hc
    have hlt : i < its.length := (List.getElem?_eq_some_iff.mp hy).1
    have hel : e < s.heap.objs.size := Heap.lt_size he
    obtain ⟨oi, hoi, _⟩ := itAt_get hit
    have hil : it < s.heap.objs.size := Heap.lt_size hoi
    let q : Sr := ⟨it, x.1, x.2, its.toArray⟩
    have dr : Draws X.prog X.w X.A.in1 it [it, x.1] its.toArray.size (fun i v => its.toArray[i]? = some v) (fun i h => q.St i h) := q.draws (A := X.A.in1) hh hia
    refine wpAny_pyNext_enum_itemD dr he ⟨hit, hseq⟩ (by simpa using hlt) hei (by simp [hei, hea]) fun z h' tk ez ho st' hT hsz kp => ?_
    have ez : z = y := by
      have : its[i]? = some z := by simpa using ez
      rw [hy] at this
      exact (Option.some.inj this).symm
    subst ez
    refine ⟨_, rfl, wpAny_letOwnedTupleGo_enum (s := { s with heap := h', toks := tk + 1 }) ho fun h2 he2 sb => ?_⟩
    have sb : Heap.SameBut e h' h2 := sb
    have hT2 : h2.get? s.heap.objs.size = some (tupO #[.int i tk, z]) := sb.extBut _ _ (Nat.ne_of_gt hel) hT
    have new : ObjOk X.prog X.w (upd H s.heap.objs.size (.tup [.int (i : Nat), u])) h2 s.heap.objs.size (.tup [.int (i : Nat), u]) :=
      ⟨by show 2 ≤ sizeLine; decide, [.int i tk, z], .cons ⟨_, rfl⟩ (.cons ry .nil), ⟨_, hT2, rfl, _, rfl⟩⟩
    have I1 : L2.Inv X pins σ (upd H s.heap.objs.size (.tup [.int (i : Nat), u])) { s with heap := h2, toks := tk + 1 } :=
      I.turnedNew (ch := [e, it]) (fun b ob hb q => sb.extBut _ _ (fun z => hb (by simp [z])) (kp b ob (fun z => hb (by simp [z])) (fun z => hb (by simp [z])) q)) hf (Nat.le_refl _) new
    refine ⟨.ref s.heap.objs.size, _, I1, rfl, ⟨_, u, rfl, I.hok.fresh (Nat.le_refl _), rfl, fun ys hy => by rw [sqK_inj I hy hq]; exact hx⟩, ⟨⟨z, ?_⟩, itAt_keep st'.1 fun o q => sb.extBut _ _ (Ne.symm hei) q⟩, fun b hb => ?_⟩
    · have e1 : ((i + 1 : Nat) : Int) = (i : Int) + 1 := by omega
      rw [e1]; exact he2
    · have hb' : b < s.heap.objs.size := by
        have e' : b = e ∨ b = it := by simpa using hb
        rcases e' with z | z
        · rw [z]; exact hel
        · rw [z]; exact hil
      rw [upd_ne (Nat.ne_of_lt hb')]
      exact (hf b hb).1
  done := by
    intro X hP hw hK hc i pins s σ H E I hf st hg
    subst hP hw hK
    obtain ⟨⟨old, he⟩, hit⟩ := st
    obtain ⟨xs, hq, hx⟩ := hg
    obtain ⟨its, rv, hseq⟩ := sqK_at I hq
    have hh : X.A.handled = none := I.ok.hd hc
    obtain ⟨f0, f1, f2, f3, f4, f5⟩ := hf it (by simp)
    let q : Sr := ⟨it, x.1, x.2, its.toArray⟩
    have dr : Draws X.prog X.w X.A.in1 it [it, x.1] its.toArray.size (fun i v => its.toArray[i]? = some v) (fun i h => q.St i h) := q.draws (A := X.A.in1) hh hia
    have hn : its.toArray.size = i := by rw [List.size_toArray, ← rv.length]; exact hx
    refine wpAny_pyNext_enum_endD dr he (by rw [hn]; exact ⟨hit, hseq⟩) fun h' eb => ⟨rfl, I.turned (t' := s.toks) (fun b o hb q => eb b o hb q) f0 f1 f3 f4 f5⟩
  self := fun A i s Q E st h => let ⟨⟨_, he⟩, _⟩ := st; wpAny_pyIter_enum he h
def iEnumX (K : PySem.W.Frag) (ta : TA) : TI := fun σ H R => ta σ H fun vs H1 => ∃ (x : Addr × Bool) (xs : List V), vs = [.ref x.1] ∧ SqK K H1 x xs ∧ R (Ite2 K x) H1
theorem pi_enumX {X : Cx} {e : Expr} {ta : TA} {p pos tpos : Pos} {elts : List Expr} {kk : Nat} (hg : Gl X "enumerate") (hm : X.mg "enumerate" = none) (ha : PA X [e] ta) (hs : starEach [e] X.env = [(false, eval e X.env)] := by rfl) :
    PI X (.Tuple elts kk tpos) (.Call (.Name "enumerate" p) [e] [] pos) (iEnumX X.K ta) := ⟨fun pins s σ H R I h => by
  refine Call_ (ld_blt I hg hm boot_enumerate (PyProof.Rows.callWith_type1 (thn (ha.run pos pins s σ H _ I h) fun us s1 ⟨vs, H1, I1, r1, q1⟩ => ?_) hs rfl))
  obtain ⟨x, xs, ex, hq, q⟩ := q1
  subst ex
  obtain ⟨u, rfl, ru⟩ := vals1 r1
  cases (show u = Value.ref x.1 from ru)
  obtain ⟨its, rv, hseq⟩ := sqK_at I1 hq
  refine call_enumK hseq fun h' he hit hk => wpAny_pyIter_enum he ?_
  have I2 : L2.Inv X pins σ H1 { s1 with heap := h' } := I1.kept (t' := s1.toks) hk
  have hlt : Nat.lt x.1 s1.heap.objs.size := seqAt_lt hseq
  refine ⟨s1.heap.objs.size + 1, [s1.heap.objs.size + 1, s1.heap.objs.size], _, _, H1, rfl, I2, turn_enumX (Nat.succ_ne_self _) (Nat.ne_of_gt (Nat.lt_succ_of_lt hlt)) (Nat.ne_of_lt hlt), ⟨⟨.none, he⟩, hit⟩, fun b hb => ?_, q⟩
  have e' : b = s1.heap.objs.size + 1 ∨ b = s1.heap.objs.size := by simpa using hb
  have hle : s1.heap.objs.size ≤ b := by
    rcases e' with z | z
    · rw [z]; exact Nat.le_succ _
    · rw [z]; exact Nat.le_refl _
  exact I1.fpOk hle (I1.hok.fresh hle)⟩
def kindD : D → Bool
  | .tup _ => false
  | _ => true
section
variable {K : PySem.W.Frag} {H : Hp} {R : List Pr} {v : V} {d d' : D} {xs : List D}
theorem Joint.accK (h : WF.seqV d = some (xs, d')) (j : Joint K H ((v, d') :: R)) : ∃ p vs, v = .ref p ∧ ((H p = some (.lst vs) ∧ kindD d' = true) ∨ (H p = some (.tup vs) ∧ kindD d' = false)) ∧ vs.length = xs.length ∧ ∀ (n : Nat) u x, vs[n]? = some u → xs[n]? = some x → Joint K H ((u, x) :: (v, d') :: R) := by
  obtain ⟨p, vs, e, k, hl, get⟩ := Joint.acc h j
  refine ⟨p, vs, e, ?_, hl, get⟩
  rcases k with ⟨ys, rfl, hp⟩ | ⟨ys, rfl, hp⟩ | ⟨ys, rfl, hp⟩
  · exact .inl ⟨hp, rfl⟩
  · exact .inl ⟨hp, rfl⟩
  · exact .inr ⟨hp, rfl⟩
theorem sqK_of {p : Addr} {k : Bool} {vs : List V} (h : (H p = some (.lst vs) ∧ k = true) ∨ (H p = some (.tup vs) ∧ k = false)) : SqK K H (p, k) vs := by
  rcases h with ⟨h, rfl⟩ | ⟨h, rfl⟩
  · exact .inl (.inl h)
  · exact .inl (.inl h)
theorem Joint.accAll : ∀ {ds : List D} {xss : List (List D)} {vs : List V} {R : List Pr}, SeqAll ds xss → vs.length = ds.length → Joint K H (vs.zip ds ++ R) → ∃ (ys : List (Addr × Bool)) (vss : List (List V)), vs = ys.map (fun x => V.ref x.1) ∧ ys.map Prod.snd = ds.map kindD ∧ RdAll K H ys vss ∧ vss.map List.length = xss.map List.length ∧
    ∀ (i : Nat) (us : List V) (es : List D), us.map some = vss.map (fun l => l[i]?) → es.map some = xss.map (fun l => l[i]?) → Joint K H (us.zip es ++ (vs.zip ds ++ R))
  | [], _, [], R, .nil, _, j => ⟨[], [], rfl, rfl, .nil, rfl, fun i us es h1 h2 => by
    cases us with
    | nil => exact j
    | cons _ _ => simp at h1⟩
  | d :: ds, _, v :: vs, R, .cons h1 h2, hl, j => by
    rename_i d0 xs xss
    obtain ⟨p, ws, e, sk, lw, get⟩ := Joint.accK (R := vs.zip ds ++ R) h1 j
    obtain ⟨ys, vss, e1, ek, rd, ll, getA⟩ := Joint.accAll (R := (v, d) :: R) h2 (by simpa using hl) (j.perm perm_take.symm)
    refine ⟨(p, kindD d) :: ys, ws :: vss, by rw [List.map_cons, ← e1, e], by simp [ek], .cons (sqK_of sk) rd, by simp [lw, ll], fun i us es hu he => ?_⟩
    cases us with
    | nil => simp at hu
    | cons u us =>
      cases es with
      | nil => simp at he
      | cons x es =>
        simp only [List.map_cons, List.cons.injEq] at hu he
        have k1 := getA i us es hu.2 he.2
        have k2 : Joint K H ((v, d) :: (us.zip es ++ (vs.zip ds ++ R))) := k1.perm ((List.Perm.append_left _ perm_take).trans perm_take)
        obtain ⟨p', ws', e', sk', lw', get'⟩ := Joint.accK h1 k2
        have ep : p' = p := by rw [e] at e'; exact (V.ref.inj e').symm
        subst ep
        have ew : ws' = ws := by
          rcases sk with ⟨a, b⟩ | ⟨a, b⟩ <;> rcases sk' with ⟨a', b'⟩ | ⟨a', b'⟩
          · rw [a] at a'; cases a'; rfl
          · rw [a] at a'; cases a'
          · rw [a] at a'; cases a'
          · rw [a] at a'; cases a'; rfl
        subst ew
        have k3 := get' i u x hu.1.symm he.1.symm
        refine k3.perm (List.Perm.cons _ ?_)
        exact (perm_take.symm).trans (List.Perm.append_left _ (List.Perm.refl _))
end
end WF
namespace WF
open PySem PySem.Spec PyProof.Rows L2
structure ZipIs (strict : Bool) (xss : List (List D)) (R : List D) : Prop where
  at_ : ∀ (i : Nat) d, R[i]? = some d → ∃ es, d = .tup es ∧ es.map some = xss.map (fun l => l[i]?)
  le : ∀ xs ∈ xss, R.length ≤ xs.length
  fin : if strict = true then ∀ xs ∈ xss, R.length = xs.length else ∃ xs ∈ xss, R.length = xs.length
def zip2D (strict : Bool) : List (List D) → Option (List D)
  | [xs, ys] => if strict && xs.length != ys.length then none else some (List.zipWith (fun x y => .tup [x, y]) xs ys)
  | _ => none
theorem zip2_is {strict : Bool} {xss : List (List D)} {R : List D} (h : zip2D strict xss = some R) : ZipIs strict xss R ∧ xss.length = 2 := by
  unfold zip2D at h
  split at h
  · rename_i xs ys
    split at h
    · cases h
    · rename_i hc
      cases h
      refine ⟨⟨fun i d hd => ?_, fun l m => ?_, ?_⟩, rfl⟩
      · rw [List.getElem?_zipWith] at hd
        cases q1 : xs[i]? with
        | none => rw [q1] at hd; cases hd
        | some x =>
          cases q2 : ys[i]? with
          | none => rw [q1, q2] at hd; cases hd
          | some y => rw [q1, q2] at hd; cases hd; exact ⟨[x, y], rfl, by simp [q1, q2]⟩
      · rw [List.length_zipWith]
        have m' : l = xs ∨ l = ys := by simpa using m
        rcases m' with rfl | rfl <;> omega
      · rw [List.length_zipWith]
        cases strict with
        | true =>
          rw [if_pos rfl]
          have e : xs.length = ys.length := by simpa using hc
          intro l m
          have m' : l = xs ∨ l = ys := by simpa using m
          rcases m' with rfl | rfl <;> omega
        | false =>
          rw [if_neg Bool.false_ne_true]
          by_cases q : xs.length ≤ ys.length
          · exact ⟨xs, by simp, by omega⟩
          · exact ⟨ys, by simp, by omega⟩
  · cases h
theorem srcs_eq : ∀ {ys zs : List (Addr × Bool)} {vs : List V}, vs = ys.map (fun x => V.ref x.1) → vs = zs.map (fun x => V.ref x.1) → ys.map Prod.snd = zs.map Prod.snd → ys = zs
  | [], [], _, _, _, _ => rfl
  | y :: ys, z :: zs, v :: vs, h1, h2, h3 => by
    simp only [List.map_cons, List.cons.injEq] at h1 h2 h3
    have e1 : y.1 = z.1 := V.ref.inj (h1.1.symm.trans h2.1)
    rw [srcs_eq h1.2 h2.2 h3.2, show y = z from Prod.ext e1 h3.1]
  | [], _ :: _, _, h1, h2, _ => by rw [h1] at h2; simp at h2
  | _ :: _, [], _, h1, h2, _ => by rw [h1] at h2; simp at h2
  | _ :: _, _ :: _, [], h1, _, _ => by simp at h1
theorem len_mem {vss : List (List V)} {xss : List (List D)} (h : vss.map List.length = xss.map List.length) : ∀ vs ∈ vss, ∃ xs ∈ xss, vs.length = xs.length := fun vs m => by
  have : vs.length ∈ xss.map List.length := by rw [← h]; exact List.mem_map_of_mem m
  obtain ⟨xs, m', e⟩ := List.mem_map.mp this
  exact ⟨xs, m', e.symm⟩
theorem len_mem' {vss : List (List V)} {xss : List (List D)} (h : vss.map List.length = xss.map List.length) : ∀ xs ∈ xss, ∃ vs ∈ vss, vs.length = xs.length := fun xs m => by
  have : xs.length ∈ vss.map List.length := by rw [h]; exact List.mem_map_of_mem m
  obtain ⟨vs, m', e⟩ := List.mem_map.mp this
  exact ⟨vs, m', e⟩
section
variable {K : PySem.W.Frag} {H : Hp} {ds : List D} {xss : List (List D)} {vs : List V} {Rr : List D} {strict : Bool}
theorem iter_zipX {ys : List (Addr × Bool)} (sa : SeqAll ds xss) (hl : vs.length = ds.length) (e : vs = ys.map (fun x => V.ref x.1)) (ek : ys.map Prod.snd = ds.map kindD) (z : ZipIs strict xss Rr) : Iter K (Itz2 K strict ys) (vs.zip ds) Rr := by
  have main : ∀ {H : Hp} {L : List Pr}, Joint K H (vs.zip ds ++ L) → ∃ vss, RdAll K H ys vss ∧ vss.map List.length = xss.map List.length ∧ ∀ (i : Nat) (us : List V) (es : List D), us.map some = vss.map (fun l => l[i]?) → es.map some = xss.map (fun l => l[i]?) → Joint K H (us.zip es ++ (vs.zip ds ++ L)) := fun {H L} j => by
    obtain ⟨ys', vss, e1, ek1, rd, ll, get⟩ := Joint.accAll sa hl j
    have := srcs_eq e1 e (ek1.trans ek.symm)
    subst this
    exact ⟨vss, rd, ll, get⟩
  refine ⟨fun i H L hi j => ?_, fun i H L d x H' hd j y => ?_, fun H L j => ?_⟩
  · obtain ⟨vss, rd, ll, get⟩ := main j
    refine ⟨vss, rd, fun ws m => ?_⟩
    obtain ⟨xs, m', e⟩ := len_mem ll ws m
    have := z.le xs m'
    omega
  · obtain ⟨vss, rd, ll, get⟩ := main j
    obtain ⟨T, us, rfl, hT, rfl, hu⟩ := y
    obtain ⟨es, rfl, he⟩ := z.at_ i d hd
    have k := get i us es (hu vss rd) he
    have lu : us.length = es.length := by
      have a := congrArg List.length (hu vss rd)
      have b := congrArg List.length he
      have c := congrArg List.length ll
      simp at a b c
      omega
    exact Joint.tup lu k hT
  · obtain ⟨vss, rd, ll, get⟩ := main j
    refine ⟨vss, rd, fun ws m => ?_, ?_⟩
    · obtain ⟨xs, m', e⟩ := len_mem ll ws m
      have := z.le xs m'
      omega
    · have f := z.fin
      cases strict with
      | true =>
        rw [if_pos rfl] at f ⊢
        intro ws m
        obtain ⟨xs, m', e⟩ := len_mem ll ws m
        rw [e]; exact f xs m'
      | false =>
        rw [if_neg Bool.false_ne_true] at f ⊢
        obtain ⟨xs, m', e⟩ := f
        obtain ⟨ws, m2, e2⟩ := len_mem' ll xs m'
        exact ⟨ws, m2, by omega⟩
def enumD : List (List D) → Option (List D)
  | [xs] => some (xs.zipIdx.map fun p => .tup [.int (p.2 : Nat), p.1])
  | _ => none
theorem iter_enumX {x : Addr × Bool} {d0 d' : D} {xs : List D} (h : seqV d0 = some (xs, d')) (hk : x.2 = kindD d') : Iter K (Ite2 K x) [(.ref x.1, d')] (xs.zipIdx.map fun p => .tup [.int (p.2 : Nat), p.1]) := by
  obtain ⟨p, k⟩ := x
  have hk : k = kindD d' := hk
  have main : ∀ {H : Hp} {L : List Pr}, Joint K H ([(.ref p, d')] ++ L) → ∃ vs, SqK K H (p, k) vs ∧ vs.length = xs.length ∧ ∀ (n : Nat) u x, vs[n]? = some u → xs[n]? = some x → Joint K H ((u, x) :: ([(.ref p, d')] ++ L)) := fun {H L} j => by
    obtain ⟨q, vs, e, sk, hl, get⟩ := Joint.accK (R := L) h j
    cases e
    rw [← hk] at sk
    exact ⟨vs, sqK_of sk, hl, get⟩
  refine ⟨fun i H L hi j => ?_, fun i H L d y H' hd j yy => ?_, fun H L j => ?_⟩
  · obtain ⟨vs, sq, hl, get⟩ := main j
    have hi' : i < vs.length := by simp at hi; omega
    exact ⟨vs, vs[i], sq, List.getElem?_eq_getElem _⟩
  · obtain ⟨vs, sq, hl, get⟩ := main j
    obtain ⟨T, u, rfl, hT, rfl, hu⟩ := yy
    rw [List.getElem?_map, List.getElem?_zipIdx] at hd
    cases q : xs[i]? with
    | none => rw [q] at hd; cases hd
    | some x =>
      rw [q] at hd
      simp at hd
      subst hd
      exact Joint.tup (vs := [.int (i : Nat), u]) (ds := [.int (i : Nat), x]) rfl (ju_int (get i u x (hu vs sq) q)) hT
  · obtain ⟨vs, sq, hl, get⟩ := main j
    exact ⟨vs, sq, by simp [hl]⟩
end
section
variable {c : Cfg} {X : Cx} {as : List Ar} {e : Expr} {es : List Expr} {p pos tpos kpos cpos : Pos} {elts : List Expr} {kk j : Nat}
theorem tArgsA_len : ∀ {as : List Ar} {σ : L2.St} {H : Hp} {Q : List V → Hp → Prop}, tArgsA c as σ H Q → tArgsA c as σ H fun vs H1 => vs.length = as.length ∧ Q vs H1
  | [], _, _, _, h => ⟨rfl, h⟩
  | .v f :: r, _, _, _, h => T.mono h fun v H1 h1 => tArgsA_mono (tArgsA_len h1) fun vs H2 ⟨a, b⟩ => ⟨by simp [a], b⟩
  | .s i :: r, _, _, _, ⟨v, e, h⟩ => ⟨v, e, tArgsA_mono (tArgsA_len h) fun vs H2 ⟨a, b⟩ => ⟨by simp [a], b⟩⟩
theorem t_zip {strict : Bool} {comb : List (List D) → Option (List D)} (hz : ∀ {xss R}, comb xss = some R → ZipIs strict xss R) (hK : c.K = X.K) {σ : L2.St} {H : Hp} {R : It → Hp → Prop} (h : TIm c (walkM comb as) σ H R) : iZipX X.K strict (tArgsA c as) σ H R := by
  refine tArgsA_mono (src_post h) fun vs H1 ⟨ds, xss, ys, hc, sa, hl, hd, ⟨Z, jz⟩, fin⟩ => ?_
  obtain ⟨zs, vss, e1, ek, rd, _, _⟩ := Joint.accAll sa hl jz
  exact ⟨zs, vss, e1, hK ▸ rd, fin _ (hK ▸ iter_zipX sa hl e1 ek (hz hc))⟩
theorem args2 (strict : Bool) : ∀ us : List Value, us.length = 2 → ZipArgs strict us
  | [a, b], _ => zipArgs2 strict a b
variable {e1 e2 e3 : Expr} {y1 y2 y3 : Ar}
theorem wi_zip2 (hK : c.K = X.K) (hg : Gl X "zip") (hm : X.mg "zip" = none) (ha : PA X [e1, e2] (tArgsA c [y1, y2])) (hs : starEach [e1, e2] X.env = (false, eval e1 X.env) :: starEach [e2] X.env := by rfl) (hpl : (backTo pos (starEach [e2] X.env)).any (·.1) = false := by rfl) :
    PI X (.Tuple elts kk tpos) (.Call (.Name "zip" p) [e1, e2] [] pos) (TIm c (walkM (zip2D false) [y1, y2])) :=
  pi_mono (pi_zipX (ta := tArgsA c [y1, y2]) (args2 false) (by simp) (fun σ H Q h => tArgsA_len (as := [y1, y2]) h) hg hm ha hs hpl) fun σ H R h => t_zip (fun h => (zip2_is h).1) hK h
theorem wi_enum (hK : c.K = X.K) (hg : Gl X "enumerate") (hm : X.mg "enumerate" = none) (ha : PA X [e1] (tArgsA c [y1])) (hs : starEach [e1] X.env = [(false, eval e1 X.env)] := by rfl) : PI X (.Tuple elts kk tpos) (.Call (.Name "enumerate" p) [e1] [] pos) (TIm c (walkM enumD [y1])) :=
  pi_mono (pi_enumX hg hm ha hs) fun σ H R h => by
    refine tArgsA_mono (src_post h) fun vs H1 ⟨ds, xss, ys, hc, sa, hl, hd, ⟨Z, jz⟩, fin⟩ => ?_
    obtain ⟨d, rfl⟩ := one_len hd
    obtain ⟨v, rfl⟩ := one_of hl
    cases sa with
    | cons h1 h2 =>
      cases h2
      cases hc
      have jz : Joint c.K H1 ((v, d) :: Z) := jz
      obtain ⟨q, ws, rfl, sk, _, _⟩ := Joint.accK h1 jz
      exact ⟨(q, kindD d), ws, rfl, hK ▸ sqK_of sk, fin _ (hK ▸ iter_enumX (x := (q, kindD d)) h1 rfl)⟩
end
end WF
namespace WF
open PySem PySem.Spec PyProof.Rows L2
def lstS (i : Nat) (f : EM) : EM := fun S => match S[i]? with
  | some (.lst o xs) => f S
  | _ => none
def modS (i : Nat) (g : List D → Option (D × List D)) : EM := fun S => match S[i]? with
  | some (.lst true xs) => (g xs).map fun r => (.ok r.1, S.set i (.lst true r.2))
  | _ => none
def appM (i : Nat) (fe : EM) : EM := lstS i (bindM fe fun d => modS i fun xs => if xs.length < 1000000 then some (.non, xs ++ [d]) else none)
def extM (i : Nat) (fe : EM) : EM := lstS i (bindM fe fun d => modS i fun xs => match d with
  | .lst _ ys => if xs.length + ys.length < 1000000 then some (.non, xs ++ ys) else none
  | _ => none)
section
variable {c : Cfg} {X : Cx} {S : S0} {tm tm0 : List Pr} {σ : L2.St} {H : Hp} {i : Nat} {a b e o : Expr} {fa fb fe : EM} {pos apos : Pos}
theorem lst_get {f : EM} {Q : VK} (j : SJ c S tm σ H) (p : post c (lstS i f S) tm0 σ Q) : ∃ q vs, σ[i]? = some (some (.ref q)) ∧ H q = some (.lst vs) ∧ post c (f S) tm0 σ Q := by
  unfold lstS at p
  split at p
  · rename_i o xs hd
    obtain ⟨v, ev, Z, k, _⟩ := j.get hd rfl
    obtain ⟨q, rfl⟩ := k.is_lst
    obtain ⟨vs, hp, _⟩ := k.unlst
    exact ⟨q, vs, ev, hp, p⟩
  · exact p.elim
theorem t_app {Q : VK} (h : T c (appM i fe) σ H Q) : tBM X.K "list" rAppend (tVar i) (tCons (T c fe) tNil) σ H Q := by
  obtain ⟨S, tm, j, p⟩ := h
  obtain ⟨q, vs, ev, hp, p⟩ := lst_get j p
  refine ⟨_, ev, .inl ⟨rfl, vs, .inl (.inl hp)⟩, (post_bind j p).mono fun v H1 ⟨d, S1, j1, p1⟩ => ?_⟩
  unfold modS at p1
  split at p1
  · rename_i xs hd
    obtain ⟨v', ev', Z, k, put⟩ := j1.get2 hd rfl
    have e0 : v' = .ref q := by rw [ev] at ev'; exact (Option.some.inj (Option.some.inj ev')).symm
    subst e0
    by_cases hlt : xs.length < 1000000
    · simp only [if_pos hlt, Option.map_some] at p1
      obtain ⟨us, hq, hl, k2⟩ := k.sw.app
      refine ⟨q, us, v, rfl, rfl, hq, Nat.lt_trans (by omega : us.length < 1000000) (by decide), p1 .non _ ?_⟩
      exact put _ [(.non, .non)] _ (ju_non k2).sw
    · simp only [if_neg hlt, Option.map_none] at p1
      exact p1.elim
  · exact p1.elim
theorem w_app (h : PE X e (tBM X.K "list" rAppend (tVar i) (tCons (T c fe) tNil))) : PE X e (T c (appM i fe)) := pe_mono h fun _ _ _ h => t_app h
def gSubM (i : Nat) (fk : EM) : GM := fun d S => match S[i]? with
  | some (.lst _ _) => match fk S with
    | some (.ok (.int k), S1) => match S1[i]? with
      | some (.lst true xs) => match ixN xs.length k with
        | some m => some (S1.set i (.lst true (xs.set m d)))
        | none => none
      | _ => none
    | _ => none
  | _ => none
theorem zip_set : ∀ {vs : List V} {ds : List D} {m : Nat} {v : V} {d : D}, vs.length = ds.length → m < vs.length → ∃ u x Z, (vs.zip ds).Perm ((u, x) :: Z) ∧ ((vs.set m v).zip (ds.set m d)).Perm ((v, d) :: Z)
  | u :: vs, x :: ds, 0, v, d, h, _ => ⟨u, x, vs.zip ds, .refl _, .refl _⟩
  | u :: vs, x :: ds, m + 1, v, d, h, hm => by
    obtain ⟨u', x', Z, p1, p2⟩ := zip_set (vs := vs) (ds := ds) (m := m) (v := v) (d := d) (by simpa using h) (by simpa using hm)
    exact ⟨u', x', (u, x) :: Z, (List.Perm.cons _ p1).trans (List.Perm.swap _ _ _), (List.Perm.cons _ p2).trans (List.Perm.swap _ _ _)⟩
  | [], _, _, _, _, _, h => by simp at h
  | _ :: _, [], _, _, _, h, _ => by simp at h
theorem Joint.setL {K : PySem.W.Frag} {p : Addr} {ds : List D} {v : V} {d : D} {R : List Pr} {m : Nat} (j : Joint K H ((.ref p, .lst true ds) :: (v, d) :: R)) (hm : m < ds.length) : ∃ vs, H p = some (.lst vs) ∧ vs.length = ds.length ∧ Joint K (upd H p (.lst (vs.set m v))) ((.ref p, .lst true (ds.set m d)) :: R) := by
  obtain ⟨vs, hp, hl, k⟩ := j.openL
  obtain ⟨u, x, Z, p1, p2⟩ := zip_set (v := v) (d := d) hl (by omega : m < vs.length)
  refine ⟨vs, hp, hl, JX.close (by simp [hl]) ?_⟩
  have k1 := k.perm (List.Perm.append_right _ p1)
  have k2 : JX K H p (Z ++ ((v, d) :: R)) := JX.drop k1
  exact (k2.perm perm_take).perm (List.Perm.append_right _ p2.symm)
theorem wg_sub {t : Expr} {fk : EM} (h : PG X t (gSub (tVar i) (T c fk) rSetL)) : PG X t (UG c (gSubM i fk)) := pg_mono h fun v σ H Q h => by
  obtain ⟨d, S, tm, j, p⟩ := h
  unfold gSubM at p
  split at p
  · rename_i S' heq
    split at heq
    · rename_i o xs0 hd0
      obtain ⟨w, ew, Z0, k0, _⟩ := j.get hd0 rfl
      obtain ⟨q, rfl⟩ := k0.is_lst
      refine ⟨_, ew, S, (v, d) :: tm, j, ?_⟩
      split at heq
      · rename_i k S1 hfk
        rw [hfk]
        split at heq
        · rename_i xs hd1
          split at heq
          · rename_i m hm
            cases heq
            intro kv H1 j1
            have ek := j1.take.is_int
            obtain ⟨w', ew', Z, k1, put⟩ := (j1.drop).get2 hd1 rfl
            have e0 : w' = .ref q := by rw [ew] at ew'; exact (Option.some.inj (Option.some.inj ew')).symm
            subst e0
            have hml : m < xs.length := (ixN_seq hm).2.1
            obtain ⟨us, hq, hl, k2⟩ := k1.sw.setL hml
            exact ⟨q, us, k, m, rfl, ek, hq, by rw [hl]; exact hm, p _ _ (put _ [] _ k2)⟩
          · cases heq
        · cases heq
      · cases heq
    · cases heq
  · exact p.elim
end
end WF
namespace WF
open PySem PySem.Spec PyProof.Rows L2
abbrev FnP (K : PySem.W.Frag) (x : Str) (st : Stmt) (kws : List (Str × V)) (f : Addr) (fd : FuncData) : Prop := FunD K x x (defArgs st) (defBody st) (defScope st) [] kws f fd
section
variable {P : Program} {w : World} {K : PySem.W.Frag} {mg : Str → Option Value} {base : Heap}
theorem def_okD {x : Str} {st : Stmt} {kws : List (Str × V)} {f : Addr} {fd : FuncData} {N ps : List Str} {k : Nat} {mask : List Bool} {fb : SM} (F : FnP K x st kws f fd) (S : FnScope N ps (defScope st)) (hm : mask.length = ps.length) (hN : ps.length ≤ N.length)
    (hbody : ∀ (cdv : Value) (A : Around) (outer : List Env) (s : Shared) (H : Hp) (vs : List V) (rs : List Pr) (E : XK), Room k (A.deeper (envOfC x (defScope st) s.heap.objs.size f cdv)) → vs.length = ps.length →
      PSs (cxOf (L2.CX P w) P w K mg base N x (defScope st) f cdv A outer s H E) (defBody st) (U (cfgOf K mask N.length vs rs E) fb)) :
    FnOk P w K mg base (L2.CX P w) (k + 1) f fd ps (spOf K ps.length (defM mask N.length fb)) := by
  refine F.ok (CX := L2.CX P w) S (fun vs H Q E h => h.1) fun cdv A outer s H vs Q E hr h => ?_
  obtain ⟨hl, ds, rs, hd, j, mt⟩ := h
  refine ⟨_, hbody cdv A outer s H vs rs E hr hl, ds ++ List.replicate (N.length - mask.length) .un, [], ⟨?_, fun i d h hu => ?_, fun i o h => ?_, ?_, ?_⟩, ?_⟩
  · simp [L2.start, hl, hd, hm]
  · by_cases hi : i < ds.length
    · refine ⟨vs[i]'(by omega), ?_⟩
      unfold L2.start
      rw [List.getElem?_append_left (by simp; omega)]
      simp [show i < vs.length by omega]
    · rw [List.getElem?_append_right (by omega)] at h
      rw [List.getElem?_replicate] at h
      split at h
      · cases h; exact (hu rfl).elim
      · cases h
  · exact pvOf_get (r := List.replicate (N.length - vs.length) none) (pv_split h)
  · simp [L2.start, pvOf_len (hm.trans hl.symm), hl, hm]
  · unfold L2.start
    rw [show N.length - vs.length = N.length - mask.length by omega, slotL_start (by omega)]
    exact Joint.uns j
  · unfold defM at mt
    have fin : ∀ {S1 : S0} {σ : L2.St} {H' : Hp} {tm : List Pr}, (maskM mask S1).length = ps.length → SJ (cfgOf K mask N.length vs rs E) S1 tm σ H' → Joint K H' (vs.zip (maskM mask S1) ++ (tm ++ rs)) := fun {S1 σ H' tm} e j' =>
      mask_ok (by omega) j'.len (by have := maskM_le (e.trans hm.symm); omega) (fun i o h => j'.pv i o (by
        rw [List.getElem?_append_left (List.getElem?_eq_some_iff.mp h).1]
        exact h)) j'.jt
    cases hb : fb (ds ++ List.replicate (N.length - mask.length) D.un) with
    | none => rw [hb] at mt; exact mt.elim
    | some o =>
      obtain ⟨fl, S1⟩ := o
      rw [hb] at mt
      cases fl with
      | nx => exact fun σ H' j' => mt.2 _ _ (j_non (c := cfgOf K mask N.length vs rs E) H' _ (fin mt.1 j'))
      | rt d => exact fun v σ H' j' => mt.2 _ _ ((fin mt.1 j').perm perm_take)
      | bk => exact mt.elim
      | ct => exact mt.elim
      | ex y => exact fun cls dd σ H' ⟨fv, x1, x2, x3, k⟩ => mt.2 cls dd H' ⟨fv, x1, x2, x3, (fin mt.1 k).perm perm_sw⟩
theorem fn_none {f : Addr} {fd : FuncData} {ps : List Str} {k n : Nat} : FnOk P w K mg base (L2.CX P w) k f fd ps (spOf K n fun _ => none) :=
  ⟨fun _ _ _ _ ⟨_, _, _, _, _, h⟩ => h.elim, fun _ _ _ _ _ _ _ _ _ _ _ _ _ ⟨_, _, _, _, _, h⟩ => h.elim⟩
end
def pick {α : Type} (d : α) (ix : List Nat) (xs : List α) : List α := ix.map fun i => xs.getD i d
def pickF (ix inv : List Nat) (dd : List D) (m : Fn) : Fn := fun ds => match m (pick .un ix (ds ++ dd)) with
  | some (o, as) => if as.length = ix.length then some (o, (pick .un inv as).take ds.length) else none
  | none => none
section
theorem pick_len {α : Type} {d : α} {ix : List Nat} {xs : List α} : (pick d ix xs).length = ix.length := by simp [pick]
theorem map_range_getD {α : Type} (d : α) (xs : List α) : (List.range xs.length).map (fun i => xs.getD i d) = xs := by
  refine List.ext_getElem (by simp) fun i h1 h2 => ?_
  simp at h1
  simp [List.getElem?_eq_getElem h2]
theorem pick_perm {α : Type} {d : α} {ix : List Nat} {xs : List α} (h : ix.Perm (List.range xs.length)) : (pick d ix xs).Perm xs := by
  have := h.map (fun i => xs.getD i d)
  rwa [map_range_getD] at this
theorem pick_zip {ix : List Nat} {vs : List V} {ds : List D} (h : ∀ i ∈ ix, i < vs.length) (hl : vs.length = ds.length) : (pick .non ix vs).zip (pick .un ix ds) = pick (V.non, D.un) ix (vs.zip ds) := by
  induction ix with
  | nil => rfl
  | cons i ix ih =>
    have ih := ih fun j m => h j (List.mem_cons_of_mem _ m)
    have hi := h i List.mem_cons_self
    simp only [pick, List.map_cons, List.zip_cons_cons] at ih ⊢
    rw [ih]
    congr 1
    simp only [List.getD_eq_getElem?_getD, List.getElem?_zip_eq_some, List.getElem?_eq_getElem hi, List.getElem?_eq_getElem (show i < ds.length by omega), List.getElem?_eq_getElem (show i < (vs.zip ds).length by simp; omega), Option.getD_some, List.getElem_zip]
theorem pick_inv {α : Type} {d : α} {ix inv : List Nat} {as : List α} (h : ∀ j, j < ix.length → inv.getD (ix.getD j 0) as.length = j) (hi : ∀ i ∈ ix, i < inv.length) (hl : as.length = ix.length) : pick d ix (pick d inv as) = as := by
  refine List.ext_getElem (by rw [pick_len, hl]) fun j h1 h2 => ?_
  have hj : j < ix.length := by rwa [pick_len] at h1
  have hx := hi (ix[j]) (List.getElem_mem hj)
  have e := h j hj
  rw [List.getD_eq_getElem?_getD, List.getElem?_eq_getElem (by simpa [List.getD_eq_getElem?_getD, List.getElem?_eq_getElem hj] using hx)] at e
  simp only [List.getD_eq_getElem?_getD, List.getElem?_eq_getElem hj, Option.getD_some] at e
  simp only [pick, List.getElem_map, List.getD_eq_getElem?_getD, List.getElem?_map, List.getElem?_eq_getElem hx, Option.map_some, Option.getD_some]
  rw [e, List.getElem?_eq_getElem h2]
  rfl
variable {K : PySem.W.Frag} {H : Hp}
structure PickOk (n m : Nat) (ix inv : List Nat) : Prop where
  perm : ix.Perm (List.range (n + m))
  len : inv.length = n + m
  inv : ∀ j, j < ix.length → inv.getD (ix.getD j 0) ix.length = j
theorem sp_pick {n : Nat} {ix inv : List Nat} {dvs : List V} {dd : List D} {m : Fn} (hp : PickOk n dd.length ix inv) (hd : dvs.length = dd.length) (hj : ∀ H R, Joint K H R → Joint K H (dvs.zip dd ++ R)) {vs : List V} {Q : VK} {E : XK}
    (h : spOf K n (pickF ix inv dd m) vs H Q E) : spOf K (n + dd.length) m (pick .non ix (vs ++ dvs)) H Q E := by
  obtain ⟨hl, ds, rs, hl2, j, mt⟩ := h
  have il : ix.length = n + dd.length := by rw [hp.perm.length_eq, List.length_range]
  have lv : (vs ++ dvs).length = n + dd.length := by simp [hl, hd]
  have ld : (ds ++ dd).length = n + dd.length := by simp [hl2]
  have hlt : ∀ i ∈ ix, i < n + dd.length := fun i mm => List.mem_range.mp (hp.perm.mem_iff.mp mm)
  refine ⟨by rw [pick_len, il], pick .un ix (ds ++ dd), rs, by rw [pick_len, il], ?_, ?_⟩
  · rw [pick_zip (by rw [lv]; exact hlt) (lv.trans ld.symm), List.zip_append (hl.trans hl2.symm)]
    refine Joint.perm (List.Perm.append_right _ (pick_perm ?_).symm) ?_
    · rw [List.length_append, List.length_zip, List.length_zip, hl, hl2, hd, Nat.min_self, Nat.min_self]
      exact hp.perm
    · rw [List.append_assoc]
      exact (hj H _ j).perm perm_sw
  · unfold pickF at mt
    cases hm : m (pick .un ix (ds ++ dd)) with
    | none => rw [hm] at mt; exact mt.elim
    | some o =>
      obtain ⟨o, as⟩ := o
      rw [hm] at mt
      have key : as.length = n + dd.length → ∀ {H' : Hp} {A : List Pr}, Joint K H' (A ++ ((pick .non ix (vs ++ dvs)).zip as ++ rs)) → Joint K H' (A ++ (vs.zip ((pick .un inv as).take ds.length) ++ rs)) := fun la H' A k => by
        have e1 : as = pick .un ix (pick .un inv as) := (pick_inv (fun j hjj => by rw [la, ← il]; exact hp.inv j hjj) (fun i mm => by rw [hp.len]; exact hlt i mm) (by rw [la, il])).symm
        have lp : (pick D.un inv as).length = n + dd.length := by rw [pick_len, hp.len]
        rw [e1, pick_zip (by rw [lv]; exact hlt) (lv.trans lp.symm)] at k
        have k2 : Joint K H' (A ++ ((vs ++ dvs).zip (pick .un inv as) ++ rs)) := k.perm (List.Perm.append_left _ (List.Perm.append_right _ (pick_perm (by rw [List.length_zip, lv, lp, Nat.min_self]; exact hp.perm))))
        have e2 : (vs ++ dvs).zip (pick .un inv as) = vs.zip ((pick .un inv as).take ds.length) ++ dvs.zip ((pick .un inv as).drop ds.length) := by
          conv => lhs; rw [← List.take_append_drop ds.length (pick .un inv as)]
          rw [List.zip_append (by rw [List.length_take, lp, hl2, hl]; omega)]
        rw [e2, List.append_assoc] at k2
        have k3 : Joint K H' (dvs.zip ((pick .un inv as).drop ds.length) ++ (A ++ (vs.zip ((pick .un inv as).take ds.length) ++ rs))) := k2.perm ((List.Perm.append_left _ perm_sw).trans perm_sw)
        exact k3.dropL
      by_cases hla : as.length = ix.length
      · simp only [if_pos hla] at mt
        have la := hla.trans il
        cases o with
        | ok r => exact ⟨la, fun v H' k => mt.2 v H' (key la (A := [(v, r)]) k)⟩
        | ex y => exact ⟨la, fun cls dx H' ⟨fv, x1, x2, x3, k⟩ => mt.2 cls dx H' ⟨fv, x1, x2, x3, key la k⟩⟩
      · simp only [if_neg hla] at mt
end
end WF
namespace WF
open PySem PySem.Spec PyProof.Rows L2
theorem vals_get {d : V} {e : Value} (hde : RelV d e) : ∀ {vs : List V} {us : List Value}, Vals vs us → ∀ i : Nat, RelV (vs.getD i d) (us.getD i e)
  | _, _, .nil, i => by simpa using hde
  | _, _, .cons a r, 0 => by simpa using a
  | _, _, .cons a r, i + 1 => by simpa using vals_get hde r i
theorem vals_pick {vs : List V} {us : List Value} (h : Vals vs us) : ∀ ix : List Nat, Vals (pick .non ix vs) (pick .none ix us)
  | [] => .nil
  | i :: ix => .cons (vals_get (d := .non) (e := .none) rfl h i) (vals_pick h ix)
theorem len2 {α : Type} {xs : List α} (h : xs.length = 2) : ∃ a b, xs = [a, b] := by
  match xs, h with
  | [a, b], _ => exact ⟨a, b, rfl⟩
theorem len3 {α : Type} {xs : List α} (h : xs.length = 3) : ∃ a b c, xs = [a, b, c] := by
  match xs, h with
  | [a, b, c], _ => exact ⟨a, b, c, rfl⟩
section
variable {c : Cfg} {X : Cx} {k : Nat} {f : Addr} {fd : FuncData} {ps : List Str} {n : Nat} {m : Fn} {x : Str} {p pos : Pos} {e : Expr} {es : List Expr} {as bs : List Ar} {ks : List Str} {kws : List Keyword}
theorem tArgsA_app : ∀ {as bs : List Ar} {σ : L2.St} {H : Hp} {Q : List V → Hp → Prop}, tArgsA c (as ++ bs) σ H Q → tArgsA c as σ H fun vs H1 => tArgsA c bs σ H1 fun zs H2 => Q (vs ++ zs) H2
  | [], _, _, _, _, h => h
  | .v f :: as, bs, _, _, _, h => T.mono h fun _ _ h2 => tArgsA_app h2
  | .s i :: as, bs, _, _, _, ⟨v, e, h⟩ => ⟨v, e, tArgsA_app h⟩
theorem wk_nil : PK X [] (tArgsA c []) := pk_nil
theorem wk_v {g : EM} {nm : Option Str} {kpos : Pos} (h : PE X e (T c g)) (hr : PK X kws (tArgsA c as)) : PK X (⟨nm, e, kpos⟩ :: kws) (tArgsA c (.v g :: as)) := pk_cons h hr
def KB (K : PySem.W.Frag) (fd : FuncData) (ps ks : List Str) (n : Nat) (ix : List Nat) (its : List Value) : Prop :=
  ∀ (s : Shared) (us ws : List Value), K.In s.heap → us.length = n → ws.length = ks.length → BindsTo s fd ⟨us, ks.zip ws⟩ (ps.zip (pick .none ix ((us ++ ws) ++ its)))
variable {ix inv : List Nat} {dvs : List V} {dd : List D} {its : List Value}
theorem t_callK {σ : L2.St} {H : Hp} {Q : VK} (h : T c (callM (pickF ix inv dd m) (as ++ bs)) σ H Q) (hn : (as ++ bs).length = n) : tArgsA c as σ H fun vs H1 => tArgsA c bs σ H1 fun zs H2 => spOf c.K n (pickF ix inv dd m) (vs ++ zs) H2 Q (WE c.W σ) :=
  tArgsA_mono (tArgsA_app (tArgsA_mono (t_call h hn) fun vs H h => by rw [List.append_nil] at h; exact h)) fun _ _ h => h
theorem run_K {pins : List (Addr × Obj)} {σ : L2.St} {H : Hp} {s : Shared} {Q : VK} {us ws : List Value} {vs zs : List V} (F : FnOk X.prog X.w X.K X.mg X.base (L2.CX X.prog X.w) k f fd ps (spOf c.K (n + dd.length) m)) (hr : Room k X.A) (hp : PickOk n dd.length ix inv) (hdv : Vals dvs its) (hdd : dvs.length = dd.length) (hj : ∀ H R, Joint c.K H R → Joint c.K H (dvs.zip dd ++ R))
    (hb : KB X.K fd ps ks as.length ix its) (tk : Takes X c.W) (I : Inv X pins σ H s) (r : Vals vs us) (rz : Vals zs ws) (h1 : vs.length = as.length) (h2 : zs.length = ks.length) (h : spOf c.K n (pickF ix inv dd m) (vs ++ zs) H Q (WE c.W σ)) : wpAny (model X.prog X.w) X.A (call (.ref f) us (ks.zip ws)) (EP X pins σ Q) X.xe s := by
  have h' := sp_pick hp hdd hj h
  have r2 : Vals (pick .non ix ((vs ++ zs) ++ dvs)) (pick .none ix ((us ++ ws) ++ its)) := vals_pick ((r.append rz).append hdv) ix
  refine wpAny_call (codeAny_mono (F.run X.A X.stack s H ⟨us, ks.zip ws⟩ _ _ Q (WE c.W σ) hr I.env0 (hb s us ws I.kIn (by rw [← r.length]; exact h1) (by rw [← rz.length]; exact h2)) r2 h') fun r s' hq => ?_)
  cases r with
  | error e => exact passAt tk σ pins H s e s' I hq
  | ok fl =>
    cases fl with
    | ret u => exact I.after hq
    | next => exact False.elim hq
    | brk => exact False.elim hq
    | cont => exact False.elim hq
theorem w_callK0 (F : FnOk X.prog X.w X.K X.mg X.base (L2.CX X.prog X.w) k f fd ps (spOf c.K (n + dd.length) m)) (hr : Room k X.A) (hg : Gl X x) (hm : X.mg x = some (.ref f)) (hk : PySem.W.keepIn X.K (.ref f) = true) (hb : KB X.K fd ps ks 0 ix its) (hp : PickOk n dd.length ix inv) (hdv : Vals dvs its) (hdd : dvs.length = dd.length) (hj : ∀ H R, Joint c.K H R → Joint c.K H (dvs.zip dd ++ R)) (tk : Takes X c.W)
    (hkw : PK X kws (tArgsA c bs)) (hn : bs.length = n := by rfl) (hbl : bs.length = ks.length := by rfl) (hall : (backToKw pos (keywordEach kws X.env)).all (·.1.isSome) = true := by rfl) (hks : (backToKw pos (keywordEach kws X.env)).filterMap (·.1) = ks := by rfl)
    (hdb : (x == ("__debug__" : Str)) = false := by decide)
    (hpl : ((backTo pos (starEach [] X.env)).any (·.1) || (backToKw pos (keywordEach kws X.env)).any (·.1.isNone)) = false := by rfl) :
    PE X (.Call (.Name x p) [] kws pos) (T c (callM (pickF ix inv dd m) bs)) := by
  refine ⟨fun pins s σ H Q I h => ?_⟩
  refine wpAny_Call_Name_kw (ld_glob I hg hm ?_ hdb)
  have h2 := t_callK (as := []) (bs := bs) h hn
  refine PySem.W.callWith_KW0 (h₀ := X.base) I.ok.mod.kin hk hall ?_ hpl
  refine thn (hkw.run pos pins s σ H _ I (tArgsA_len h2)) fun ws s2 ⟨zs, H2, I2, rz, l2, q2⟩ => ⟨I2.kIn, ?_⟩
  rw [hks]
  exact run_K (as := []) (us := []) (vs := []) F hr hp hdv hdd hj hb tk I2 .nil rz rfl (l2.trans hbl) q2
theorem kb_none {K : PySem.W.Frag} {x : Str} {st : Stmt} {kws : List (Str × V)} {r : Nat} (F : FnP K x st kws f fd)
    (h : ∀ (kV doc pm : Value) (an : Option Addr) (cdv ct : Value) (us ws : List Value), us.length = r → ws.length = ks.length → bindArgs (PySem.W.fnOf x x (defArgs st) (defBody st) (defScope st) .none kV doc pm an cdv ct) ⟨us, ks.zip ws⟩ = pure (ps.zip (pick .none ix ((us ++ ws) ++ [])))) : KB K fd ps ks r ix [] := by
  obtain ⟨oc, od, dV, kV, doc, pm, an, cdv, ct, osl, rfl, lk, hcd, hD, hK⟩ := F.ex
  rcases hD with ⟨_, rfl⟩ | ⟨e, _⟩
  · exact fun s us ws _ h1 h2 => .of_eq (h kV doc pm an cdv ct us ws h1 h2)
  · exact absurd rfl e
theorem post_argsS : ∀ (fs : List EM) {g : List D → EM} {h : D → SM} {S : S0} {tm tm0 : List Pr} {σ : L2.St} {H : Hp} {E : Ends}, SJ c S tm σ H → postS c (bindS (argsM fs g) h S) tm0 E →
    tArgs c fs σ H (fun vs H1 => ∃ ds S', vs.length = ds.length ∧ ds.length = fs.length ∧ SJ c S' (vs.zip ds ++ tm) σ H1 ∧ postS c (bindS (g ds) h S') tm0 E)
  | [], _, _, S, _, _, _, _, _, j, p => ⟨[], S, rfl, rfl, j, p⟩
  | f :: fs, g, h, S, tm, tm0, σ, H, E, j, p => by
    have p' : postS c (bindS f (fun d => bindS (argsM fs fun ds => g (d :: ds)) h) S) tm0 E := by
      unfold bindS argsM bindM at p
      unfold bindS
      cases hf : f S with
      | none => rw [hf] at p; exact p
      | some o =>
        obtain ⟨o, S'⟩ := o
        rw [hf] at p
        cases o with
        | ok d => exact p
        | ex x => exact p
    refine (post_bindS (fa := f) j p').mono fun v H1 ⟨d, S1, j1, p1⟩ => ?_
    refine tArgs_mono (post_argsS fs j1 p1) fun vs H2 ⟨ds, S2, e1, e2, j2, p2⟩ => ?_
    exact ⟨d :: ds, S2, by simp [e1], by simp [e2], j2.perm perm_take, p2⟩
def par2M (i j : Nat) (fs : List EM) : SM := asgM (tupM fs) (gTupM 2 (gConsM (gSetM i) (gConsM (gSetM j) gNilM)))
def par3M (i j l : Nat) (fs : List EM) : SM := asgM (tupM fs) (gTupM 3 (gConsM (gSetM i) (gConsM (gSetM j) (gConsM (gSetM l) gNilM))))
theorem SJ.setSlot' {S S' : S0} {tm : List Pr} {σ : L2.St} {H : Hp} {i : Nat} {v : V} {d : D} (j : SJ c S ((v, d) :: tm) σ H) (h : gSetM i d S = some S') (hp : c.PV[i]? = some none) : SJ c S' tm (σ.set i (some v)) H := by
  unfold gSetM at h
  split at h
  · cases h; exact j.setSlot (by assumption) hp
  · cases h
theorem w_par2 {i j : Nat} {y : Str} {a b : Expr} {fa fb : EM} {px py pt : Pos} {kt k2 pt2} (hc : X.calm = true) (hN : X.N.Nodup) (hi : X.N[i]? = some x) (hj : X.N[j]? = some y) (hij : i ≠ j)
    (hx : X.env.scope.names.lookup x = some .local) (hy : X.env.scope.names.lookup y = some .local) (hpi : c.PV[i]? = some none) (hpj : c.PV[j]? = some none) (ha : PA X [a, b] (tArgs c [fa, fb]))
    (hw : swappedStores [.Tuple [.Name x px, .Name y py] kt pt] (.Tuple [a, b] k2 pt2) X.env = pure (some [x, y]))
    (hs : swapsWithSole [.Tuple [.Name x px, .Name y py] kt pt] (.Tuple [a, b] k2 pt2) pos.line X.env = pure false := by rfl) :
    PS X (.Assign [.Tuple [.Name x px, .Name y py] kt pt] (.Tuple [a, b] k2 pt2) pos) (U c (par2M i j [fa, fb])) := ps_mono (ps_par hc hN hi hj hij hx hy ha hw hs) fun E σ H h => by
  obtain ⟨S, tm, j0, p⟩ := h
  refine tArgs_mono (post_argsS [fa, fb] j0 p) fun vs H1 ⟨ds, S1, e1, e2, j1, p1⟩ => ?_
  · obtain ⟨d, e, rfl⟩ := len2 e2
    obtain ⟨v, u, rfl⟩ := len2 e1
    refine ⟨v, u, rfl, ?_⟩
    have p2 : postS c (((gSetM i d S1).bind fun S' => (gSetM j e S').bind fun S2 => some S2).map fun S' => (Fl.nx, S')) tm E := p1
    cases h1 : gSetM i d S1 with
    | none => rw [h1] at p2; exact p2.elim
    | some S2 =>
      rw [h1] at p2
      cases h2 : gSetM j e S2 with
      | none => simp only [Option.bind_some, h2] at p2; exact p2.elim
      | some S3 =>
        simp only [Option.bind_some, h2] at p2
        exact p2 _ _ (SJ.setSlot' (SJ.setSlot' j1 h1 hpi) h2 hpj)
theorem w_par3 {i j l : Nat} {y z : Str} {a b d : Expr} {fa fb fd : EM} {px py pz pt : Pos} {kt k2 pt2} (hc : X.calm = true) (hN : X.N.Nodup) (hi : X.N[i]? = some x) (hj : X.N[j]? = some y) (hl : X.N[l]? = some z) (hij : i ≠ j) (hil : i ≠ l) (hjl : j ≠ l)
    (hx : X.env.scope.names.lookup x = some .local) (hy : X.env.scope.names.lookup y = some .local) (hz : X.env.scope.names.lookup z = some .local) (hpi : c.PV[i]? = some none) (hpj : c.PV[j]? = some none) (hpl : c.PV[l]? = some none) (ha : PA X [a, b, d] (tArgs c [fa, fb, fd]))
    (hw : swappedStores [.Tuple [.Name x px, .Name y py, .Name z pz] kt pt] (.Tuple [a, b, d] k2 pt2) X.env = pure (some [x, y, z]))
    (hs : swapsWithSole [.Tuple [.Name x px, .Name y py, .Name z pz] kt pt] (.Tuple [a, b, d] k2 pt2) pos.line X.env = pure false := by rfl) :
    PS X (.Assign [.Tuple [.Name x px, .Name y py, .Name z pz] kt pt] (.Tuple [a, b, d] k2 pt2) pos) (U c (par3M i j l [fa, fb, fd])) := ps_mono (ps_par3 hc hN hi hj hl hij hil hjl hx hy hz ha hw hs) fun E σ H h => by
  obtain ⟨S, tm, j0, p⟩ := h
  refine tArgs_mono (post_argsS [fa, fb, fd] j0 p) fun vs H1 ⟨ds, S1, e1, e2, j1, p1⟩ => ?_
  · obtain ⟨d, e, f, rfl⟩ := len3 e2
    obtain ⟨v, u, t, rfl⟩ := len3 e1
    refine ⟨v, u, t, rfl, ?_⟩
    have p2 : postS c (((gSetM i d S1).bind fun S' => (gSetM j e S').bind fun S2 => (gSetM l f S2).bind fun S3 => some S3).map fun S' => (Fl.nx, S')) tm E := p1
    cases h1 : gSetM i d S1 with
    | none => rw [h1] at p2; exact p2.elim
    | some S2 =>
      rw [h1] at p2
      cases h2 : gSetM j e S2 with
      | none => simp only [Option.bind_some, h2] at p2; exact p2.elim
      | some S3 =>
        simp only [Option.bind_some, h2] at p2
        cases h3 : gSetM l f S3 with
        | none => simp only [Option.bind_some, h3] at p2; exact p2.elim
        | some S4 =>
          simp only [Option.bind_some, h3] at p2
          exact p2 _ _ (SJ.setSlot' (SJ.setSlot' (SJ.setSlot' j1 h1 hpi) h2 hpj) h3 hpl)
end
end WF
namespace WF
open PySem PySem.Spec PyProof.Rows L2
def prD (p : Int × Int) : D := .tup [.int p.1, .int p.2]
def sortI (ns : List Int) : List Int := ns.mergeSort fun a b => decide (a ≤ b)
section
variable {K : PySem.W.Frag} {H : Hp} {R : List Pr}
end
end WF
namespace WF
open PySem PySem.Spec PyProof.Rows L2
theorem tuple_mul1 (l : Addr) (items : Array Value) (n : Nat) (dd : Option Addr) (sl : Array (Option Value)) (x : Int) (u : Tok) (c0 : (decide (x < -(2 ^ 63)) || decide (x ≥ 2 ^ 63)) = false) (c1 : (items.isEmpty || x == 1) = true) :
    Meets (Builtin.«tuple.__mul__» ⟨[.ref l, .int x u], []⟩) (fun _ R s => s.heap.get? l = some { cls := .type "tuple", dict := dd, data := .seq items n, slots := sl } ∧
      R (.ok (.ret (Value.ref l))) s) :=
  .of_wp fun prog w A R s h => by
    obtain ⟨hp, g, d, tk, os⟩ := s
    obtain ⟨hl, h⟩ := h
    have f1 := AutoSeq1.idx_int
    wp_walk using wpAny_loadPart' hl
    repeat (first
      | (refine wpAny_ite_false (decide_eq_false (by rw [c0]; exact Bool.false_ne_true)) ?_; wp_walk using wpAny_loadPart' hl)
      | (refine wpAny_ite_true (decide_eq_true c1) ?_; wp_walk using wpAny_loadPart' hl))
    all_goals exact ⟨_, rfl, h⟩
def rRep1 (K : PySem.W.Frag) : R2 := fun x y H Q => ∃ l xs, x = .ref l ∧ y = .int 1 ∧ SqT K H l xs ∧ Q (.ref l) H
theorem op_rep1 {X : Cx} : OpR X (binaryOp .Mult) (rRep1 X.K) := by
  intro pins s σ H x y v u Q I rx ry h
  obtain ⟨l, xs, rfl, rfl, hT, q⟩ := h
  cases rx
  obtain ⟨t, rfl⟩ := ry
  obtain ⟨its, r, ⟨⟨cls, dd, data, sl⟩, ho, hc, n, hd⟩, hs⟩ := I.tuple hT
  simp only at hc hd
  subst hc hd
  refine wpAny_binaryOp_repeat_ref (T := "tuple") (U := "int") (by decide) ⟨_, ho, rfl⟩ (fun s' => typeIs_int s' 1 t) noFill_tuple_mul F.fills_int_mul F.slot_int_rmul repeat_tuple F.slot_int_index.lookup
    (call_meets F.slot_int_rmul (typeIs_int s 1 t) F.entry_int_rmul (F.args_int_rmul_2 _ _) (int_rmul_tuple 1 t l its.toArray n dd sl)
      ⟨ho, rfl, ⟨_, ho, rfl⟩, call_meets F.slot_tuple_mul ⟨_, ho, rfl⟩ F.entry_tuple_mul (F.args_tuple_mul_2 _ _) (tuple_mul1 l its.toArray n dd sl 1 t (by decide) (by simp)) ⟨ho, ?_⟩⟩)
  exact ⟨.ref l, H, I, rfl, q⟩
def mulD2 (a b : D) : Option D := match a, b with
  | .tup xs, .int 1 => some (.tup (D.frzs xs))
  | _, _ => mulD a b
def rMulB (K : PySem.W.Frag) : R2 := fun x y H Q => rMulA K x y H Q ∨ rRep1 K x y H Q
theorem op_mulB {X : Cx} : OpR X (binaryOp .Mult) (rMulB X.K) := op_mulA.or op_rep1
theorem s_mulB {K : PySem.W.Frag} : Op2 K (rMulB K) mulD2 := by
  intro H R v1 v2 d1 d2 d Q e j q
  unfold mulD2 at e
  split at e
  · cases e
    have ek := j.is_int
    obtain ⟨p, rfl⟩ := j.sw.is_tup
    obtain ⟨vs, hp, hl, kk⟩ := j.drop.untup
    exact .inr ⟨p, vs, rfl, ek, .inl (.inl hp), q _ _ j.drop.freeze.drop⟩
  · exact .inl (s_mul H R v1 v2 d1 d2 d Q e j q)
end WF
namespace WF
open PySem PySem.Spec PyProof.Rows L2
theorem bb_len : bootBuiltins "len" = some (.builtin "len") := by decide +kernel
theorem bb_abs : bootBuiltins "abs" = some (.builtin "abs") := by decide +kernel
theorem bb_sum : bootBuiltins "sum" = some (.builtin "sum") := by decide +kernel
theorem bb_all : bootBuiltins "all" = some (.builtin "all") := by decide +kernel
theorem bb_max : bootBuiltins "max" = some (.builtin "max") := by decide +kernel
theorem bb_isinstance : bootBuiltins "isinstance" = some (.builtin "isinstance") := by decide +kernel
theorem bb_divmod : bootBuiltins "divmod" = some (.builtin "divmod") := by decide +kernel
theorem bt_int : bootBuiltins "int" = some (.type "int") := by decide +kernel
theorem bt_bool : bootBuiltins "bool" = some (.type "bool") := by decide +kernel
theorem bt_str : bootBuiltins "str" = some (.type "str") := by decide +kernel
theorem bt_list : bootBuiltins "list" = some (.type "list") := by decide +kernel
theorem bt_tuple : bootBuiltins "tuple" = some (.type "tuple") := by decide +kernel
end WF
namespace WF
open PySem PySem.Spec PyProof.Rows L2
theorem fn_cx0 {P : Program} {w : World} {K : PySem.W.Frag} {mg : Str → Option Value} {base : Heap} {k : Nat} {f : Addr} {fd : FuncData} {ps : List Str} {sp : Sp} (F : FnOk P w K mg base (L2.CX P w) k f fd ps sp) :
    FnOk P w K mg base CX0 k f fd ps (fun vs H Q _ => sp vs H Q fun _ _ _ => False) :=
  ⟨fun vs H Q _ h => F.len vs H Q _ h, fun A outer s H args us vs Q E hr e0 hb hv hs => codeAny_mono (F.run A outer s H args us vs Q (fun _ _ _ => False) hr e0 hb hv hs) fun r s' h => by
    cases r with
    | error e =>
      obtain ⟨_, _, _, _, _, _, _, _, _, _, _, _, z⟩ := h
      exact z.elim
    | ok fl => cases fl <;> exact h⟩
def takeM (i : Nat) : EM := fun S => match S[i]? with
  | some d => if isUn d then none else some (.ok d, S.set i .un)
  | none => none
theorem w_take {c : Cfg} {X : Cx} {e : Expr} {i : Nat} (he : PE X e (tVar i)) : PE X e (T c (takeM i)) := by
  refine pe_mono he fun σ H Q h => ?_
  obtain ⟨S, tm, j, p⟩ := h
  unfold takeM at p
  split at p
  · rename_i d hd
    split at p
    · exact p.elim
    · rename_i hu
      obtain ⟨v, ev, Z, k, put⟩ := j.get hd (by simpa using hu)
      refine ⟨v, ev, p v H ?_⟩
      exact put .un [(v, d)] H k.un
  · exact p.elim
end WF
namespace WF0
open WF PySem L2
def oE (o : Option (Out × S0)) (Q : D → S0 → Prop) : Prop := match o with
  | some (.ok d, S) => Q d S
  | _ => False
def oS (o : Option (Fl × S0)) (Q : Fl → S0 → Prop) : Prop := match o with
  | some (.ex _, _) => False
  | some (d, S) => Q d S
  | none => False
def oI (o : Option (IOut × S0)) (Q : List D → List (Nat × D) → S0 → Prop) : Prop := match o with
  | some (.ok ds l, S) => Q ds l S
  | _ => False
def oG (o : Option S0) (Q : S0 → Prop) : Prop := match o with
  | some S => Q S
  | none => False
def oC (o : Option (List D × S0)) (Q : List D → S0 → Prop) : Prop := match o with
  | some (d, S) => Q d S
  | none => False
def wE (f : EM) (S : S0) (Q : D → S0 → Prop) : Prop := oE (f S) Q
def wS (f : SM) (S : S0) (Q : Fl → S0 → Prop) : Prop := oS (f S) Q
def wI (f : IM) (S : S0) (Q : List D → List (Nat × D) → S0 → Prop) : Prop := oI (f S) Q
def wG (g : GM) (d : D) (S : S0) (Q : S0 → Prop) : Prop := oG (g d S) Q
def wGs (g : GMs) (d : List D) (S : S0) (Q : S0 → Prop) : Prop := oG (g d S) Q
def wF (m : Fn) (ds : List D) (Q : D → List D → Prop) : Prop := oE (m ds) Q
def wC (own : List Nat) (g : GM) (ft : Option EM) (fe : EM) (ds : List D) (S : S0) (acc : List D) (Q : List D → S0 → Prop) : Prop := oC (compL own g ft fe ds S acc) Q
def rd {α : Type} (o : Option α) (P : α → Prop) : Prop := ∃ d, o = some d ∧ P d
section
variable {α : Type} {P : α → Prop}
@[simp] theorem rd_some {d : α} : rd (some d) P ↔ P d := ⟨fun ⟨_, e, p⟩ => by cases e; exact p, fun p => ⟨_, rfl, p⟩⟩
@[simp] theorem rd_none : rd none P ↔ False := ⟨fun ⟨_, e, _⟩ => (by cases e), False.elim⟩
@[simp] theorem rd_ite {c : Prop} [Decidable c] {o : Option α} : rd (if c then o else none) P ↔ c ∧ rd o P := by
  by_cases h : c <;> simp [h]
@[simp] theorem rd_map {β : Type} {o : Option β} {g : β → α} : rd (o.map g) P ↔ rd o fun b => P (g b) := by cases o <;> simp
@[simp] theorem rd_bind {β : Type} {o : Option β} {g : β → Option α} : rd (o.bind g) P ↔ rd o fun b => rd (g b) P := by cases o <;> simp
end
section
variable {S : S0} {Q : D → S0 → Prop} {QS : Fl → S0 → Prop} {QI : List D → List (Nat × D) → S0 → Prop} {QG : S0 → Prop} {f fa fb fc fd fe : EM} {i : Nat}
theorem oE_ex {o : Option (Out × S0)} : oE o Q ↔ ∃ d S, o = some (.ok d, S) ∧ Q d S := by
  constructor
  · intro h
    match o, h with
    | some (.ok d, S), h => exact ⟨d, S, rfl, h⟩
  · rintro ⟨d, S, rfl, q⟩; exact q
theorem oE.mono {o : Option (Out × S0)} {Q' : D → S0 → Prop} (h : oE o Q) (q : ∀ d S, Q d S → Q' d S) : oE o Q' := by
  match o, h with
  | some (.ok d, S), h => exact q d S h
theorem oS.mono {o : Option (Fl × S0)} {Q' : Fl → S0 → Prop} (h : oS o QS) (q : ∀ d S, QS d S → Q' d S) : oS o Q' := by
  match o, h with
  | some (.nx, S), h => exact q _ S h
  | some (.rt d, S), h => exact q _ S h
  | some (.bk, S), h => exact q _ S h
  | some (.ct, S), h => exact q _ S h
theorem wE.mono {Q' : D → S0 → Prop} (h : wE f S Q) (q : ∀ d S, Q d S → Q' d S) : wE f S Q' := oE.mono h q
theorem wF.mono {m : Fn} {ds : List D} {Q Q' : D → List D → Prop} (h : wF m ds Q) (q : ∀ d S, Q d S → Q' d S) : wF m ds Q' := oE.mono h q
theorem wS.mono {f : SM} {Q' : Fl → S0 → Prop} (h : wS f S QS) (q : ∀ d S, QS d S → Q' d S) : wS f S Q' := oS.mono h q
@[simp] theorem wE_ret {d : D} : wE (retM d) S Q ↔ Q d S := Iff.rfl
@[simp] theorem wE_bind {g : D → EM} : wE (bindM f g) S Q ↔ wE f S fun d S' => wE (g d) S' Q := by
  simp only [wE, bindM]
  match f S with
  | none => exact Iff.rfl
  | some (.ok _, _) => exact Iff.rfl
  | some (.ex _, _) => exact Iff.rfl
@[simp] theorem wE_opt {o : Option D} : wE (optM o) S Q ↔ rd o fun d => Q d S := by
  cases o <;> simp [wE, optM, oE]
@[simp] theorem wE_var : wE (varM i) S Q ↔ rd S[i]? fun d => isUn d = false ∧ Q d.frz (S.set i d.frz) := by
  simp only [wE, varM]
  cases h : S[i]? with
  | none => simp [oE]
  | some d => cases hu : isUn d <;> simp [hu, oE]
@[simp] theorem wE_take : wE (takeM i) S Q ↔ rd S[i]? fun d => isUn d = false ∧ Q d (S.set i .un) := by
  simp only [wE, takeM]
  cases h : S[i]? with
  | none => simp [oE]
  | some d => cases hu : isUn d <;> simp [hu, oE]
@[simp] theorem wE_bin {op : D → D → Option D} : wE (binM op fa fb) S Q ↔ wE fa S fun x S => wE fb S fun y S => rd (op x y) fun d => Q d S := by simp only [binM, wE_bind, wE_opt]
@[simp] theorem wE_un {op : D → Option D} : wE (unM op fa) S Q ↔ wE fa S fun x S => rd (op x) fun d => Q d S := by simp only [unM, wE_bind, wE_opt]
@[simp] theorem wE_args0 {g : List D → EM} : wE (argsM [] g) S Q ↔ wE (g []) S Q := Iff.rfl
@[simp] theorem wE_args1 {g : List D → EM} {fs : List EM} : wE (argsM (f :: fs) g) S Q ↔ wE f S fun d S => wE (argsM fs fun ds => g (d :: ds)) S Q := wE_bind
@[simp] theorem wE_tup {fs : List EM} : wE (tupM fs) S Q ↔ wE (argsM fs fun ds => retM (.tup ds)) S Q := Iff.rfl
@[simp] theorem wE_lst {fs : List EM} : wE (lstM fs) S Q ↔ wE (argsM fs fun ds => retM (.lst true ds)) S Q := Iff.rfl
@[simp] theorem wE_cb {op : List D → Option D} {fs : List EM} : wE (cbM op fs) S Q ↔ wE (argsM fs fun ds => optM (op ds)) S Q := Iff.rfl
@[simp] theorem wE_br {b : Bool} : wE (brM (.bl b) fa fb) S Q ↔ if b = true then wE fa S Q else wE fb S Q := by cases b <;> simp [brM]
@[simp] theorem wE_and : wE (andM fa fb) S Q ↔ wE fa S fun d S => wE (brM d fb (retM (.bl false))) S Q := wE_bind
@[simp] theorem wE_or : wE (orM fa fb) S Q ↔ wE fa S fun d S => wE (brM d (retM (.bl true)) fb) S Q := wE_bind
@[simp] theorem wE_not : wE (notM fa) S Q ↔ wE fa S fun d S => wE (brM d (retM (.bl false)) (retM (.bl true))) S Q := wE_bind
@[simp] theorem wE_if : wE (ifM fc fa fb) S Q ↔ wE fc S fun d S => wE (brM d fa fb) S Q := wE_bind
@[simp] theorem wE_argsA0 {g : List Av → EM} : wE (argsA [] g) S Q ↔ wE (g []) S Q := Iff.rfl
@[simp] theorem wE_argsAv {g : List Av → EM} {r : List Ar} : wE (argsA (.v f :: r) g) S Q ↔ wE f S fun d S => wE (argsA r fun ds => g (.inl d :: ds)) S Q := wE_bind
@[simp] theorem wE_argsAs {g : List Av → EM} {r : List Ar} : wE (argsA (.s i :: r) g) S Q ↔ rd S[i]? fun d => isUn d = false ∧ wE (argsA r fun ds => g (.inr i :: ds)) S Q := by
  have e : argsA (.s i :: r) g S = match S[i]? with
    | some d => if isUn d then none else argsA r (fun ds => g (.inr i :: ds)) S
    | none => none := rfl
  simp only [wE, e]
  cases h : S[i]? with
  | none => simp [oE]
  | some d => cases hu : isUn d <;> simp [hu, oE]
def callK (m : Fn) (av : List Av) : EM := fun S => match takeA av S with
  | some (ds, S1) => match m ds with
    | some (o, ds') => if ds'.length = av.length then some (o, putA av ds' S1) else none
    | none => none
  | none => none
@[simp] theorem wE_call {m : Fn} {as : List Ar} : wE (callM m as) S Q ↔ wE (argsA as (callK m)) S Q := Iff.rfl
@[simp] theorem wE_callK {m : Fn} {av : List Av} : wE (callK m av) S Q ↔ rd (takeA av S) fun p => wF m p.1 fun r ds' => ds'.length = av.length ∧ Q r (putA av ds' p.2) := by
  simp only [wE, callK, wF]
  cases h : takeA av S with
  | none => simp [oE]
  | some o =>
    obtain ⟨ds, S1⟩ := o
    simp only [rd_some]
    match m ds with
    | none => exact Iff.rfl
    | some (.ok d, ds') => by_cases hl : ds'.length = av.length <;> simp [hl, oE]
    | some (.ex d, ds') => by_cases hl : ds'.length = av.length <;> simp [hl, oE]
def roK (op : List D → Option D) (av : List Av) : EM := fun S => match takeA av S with
  | some (ds, S1) => match op ds with
    | some d => if ds.length = av.length then some (.ok d, putA av ds S1) else none
    | none => none
  | none => none
@[simp] theorem wE_ro {op : List D → Option D} {as : List Ar} : wE (roM op as) S Q ↔ wE (argsA as (roK op)) S Q := Iff.rfl
@[simp] theorem wE_roK {op : List D → Option D} {av : List Av} : wE (roK op av) S Q ↔ rd (takeA av S) fun p => rd (op p.1) fun d => p.1.length = av.length ∧ Q d (putA av p.1 p.2) := by
  simp only [wE, roK]
  cases h : takeA av S with
  | none => simp [oE]
  | some o =>
    obtain ⟨ds, S1⟩ := o
    simp only [rd_some]
    cases hm : op ds with
    | none => simp [oE]
    | some d => by_cases hl : ds.length = av.length <;> simp [hl, oE]
@[simp] theorem wE_has : wE (hasM i f) S Q ↔ rd S[i]? fun d => isUn d = false ∧ wE f S Q := by
  simp only [wE, hasM]
  cases h : S[i]? with
  | none => simp [oE]
  | some d => cases hu : isUn d <;> simp [hu, oE]
@[simp] theorem wE_ixS : wE (ixS i fb) S Q ↔ wE fb S fun k S => rd S[i]? fun d => rd (ixO d k) fun p => isUn d = false ∧ Q p.1 (S.set i p.2) := by
  unfold ixS
  rw [wE_bind]
  apply iff_of_eq
  congr 1
  funext k S
  simp only [wE]
  cases h : S[i]? with
  | none => simp [oE]
  | some d =>
    cases h2 : ixO d k with
    | none => simp [h2, oE]
    | some r =>
      obtain ⟨x, d'⟩ := r
      cases hu : isUn d <;> simp [h2, hu, oE]
theorem wE_tail' {q : IP} {b : Int} : wE (tailM q b fc) S Q ↔ wE fc S fun z S => ∃ c, z = .int c ∧ Q (.bl (q b c)) S := by
  unfold tailM
  rw [wE_bind]
  apply iff_of_eq
  congr 1
  funext z S
  cases z <;> simp [wE, oE, retM]
theorem wE_chain2' {p q : IP} : wE (chain2M p q fa fb fc) S Q ↔ wE fa S fun x S => wE fb S fun y S => ∃ a b, x = .int a ∧ y = .int b ∧ if p a b = true then wE (tailM q b fc) S Q else Q (.bl false) S := by
  unfold chain2M
  simp only [wE_bind]
  apply iff_of_eq
  congr 1
  funext x S
  congr 1
  funext y S
  cases x with
  | int a =>
    cases y with
    | int b => by_cases h : p a b = true <;> simp [h]
    | _ => simp [wE, oE]
  | _ => simp [wE, oE]
theorem wE_chain3' {p q r : IP} : wE (chain3M p q r fa fb fc fd) S Q ↔ wE fa S fun x S => wE fb S fun y S => ∃ a b, x = .int a ∧ y = .int b ∧ if p a b = true then (wE fc S fun z S => ∃ d, z = .int d ∧ if q b d = true then wE (tailM r d fd) S Q else Q (.bl false) S) else Q (.bl false) S := by
  unfold chain3M
  simp only [wE_bind]
  apply iff_of_eq
  congr 1
  funext x S
  congr 1
  funext y S
  cases x with
  | int a =>
    cases y with
    | int b =>
      by_cases h : p a b = true
      · simp only [h, if_true, wE_bind, D.int.injEq, exists_and_left, exists_eq_left']
        congr 1
        funext z S
        cases z with
        | int d => by_cases h2 : q b d = true <;> simp [h2]
        | _ => simp [wE, oE]
      · simp [h]
    | _ => simp [wE, oE]
  | _ => simp [wE, oE]
@[simp] theorem wE_optE0 {g : Option Int → EM} : wE (optE none g) S Q ↔ wE (g none) S Q := Iff.rfl
theorem wE_optE1' {g : Option Int → EM} : wE (optE (some f) g) S Q ↔ wE f S fun d S => ∃ n, d = .int n ∧ wE (g (some n)) S Q := by
  unfold optE
  rw [wE_bind]
  apply iff_of_eq
  congr 1
  funext z S
  cases z <;> simp [wE, oE]
@[simp] theorem wE_slice {lo hi : Option EM} : wE (sliceM fe lo hi) S Q ↔ wE fe S fun d S => wE (optE lo fun l => optE hi fun h => optM (sliceD d l h)) S Q := wE_bind
theorem wE_app' : wE (appM i fe) S Q ↔ ∃ o xs, S[i]? = some (.lst o xs) ∧ wE fe S fun d S => ∃ xs, S[i]? = some (.lst true xs) ∧ xs.length < 1000000 ∧ Q .non (S.set i (.lst true (xs ++ [d]))) := by
  have e : wE (appM i fe) S Q ↔ ∃ o xs, S[i]? = some (.lst o xs) ∧ wE (bindM fe fun d => modS i fun xs => if xs.length < 1000000 then some (.non, xs ++ [d]) else none) S Q := by
    simp only [wE, appM, lstS]
    cases h : S[i]? with
    | none => simp [oE]
    | some d => cases d <;> simp [oE]
  rw [e]
  simp only [wE_bind]
  have e2 : ∀ (d : D) (S : S0), (wE (modS i fun xs => if xs.length < 1000000 then some (.non, xs ++ [d]) else none) S Q) = (∃ xs, S[i]? = some (.lst true xs) ∧ xs.length < 1000000 ∧ Q .non (S.set i (.lst true (xs ++ [d])))) := by
    intro d S
    simp only [wE, modS]
    cases h : S[i]? with
    | none => simp [oE]
    | some x =>
      cases x with
      | lst o xs =>
        cases o with
        | false => simp [oE]
        | true => by_cases hl : xs.length < 1000000 <;> simp [hl, oE]
      | _ => simp [oE]
  simp only [e2]
@[simp] theorem wS_seq {f g : SM} : wS (seqM f g) S QS ↔ wS f S fun fl S' => match fl with
    | .nx => wS g S' QS
    | fl => QS fl S' := by
  simp only [wS, seqM]
  match f S with
  | none => exact Iff.rfl
  | some (.nx, _) => exact Iff.rfl
  | some (.rt _, _) => exact Iff.rfl
  | some (.bk, _) => exact Iff.rfl
  | some (.ct, _) => exact Iff.rfl
  | some (.ex _, _) => exact Iff.rfl
@[simp] theorem wS_skip : wS skipM S QS ↔ QS .nx S := Iff.rfl
@[simp] theorem wS_fail : wS failM S QS ↔ False := Iff.rfl
@[simp] theorem wS_raise {x g : Str} {fe : EM} : wS (raiseM x g fe) S QS ↔ False := by
  simp only [wS, raiseM]
  match fe S with
  | none => exact Iff.rfl
  | some (.ok _, _) => exact Iff.rfl
  | some (.ex _, _) => exact Iff.rfl
@[simp] theorem wS_raise0 {x : Str} : wS (raise0M x) S QS ↔ False := Iff.rfl
@[simp] theorem wS_bindS {g : D → SM} : wS (bindS f g) S QS ↔ wE f S fun d S => wS (g d) S QS := by
  simp only [wS, wE, bindS]
  match f S with
  | none => exact Iff.rfl
  | some (.ok _, _) => exact Iff.rfl
  | some (.ex _, _) => exact Iff.rfl
@[simp] theorem wS_ret : wS (retS fe) S QS ↔ wE fe S fun d S => QS (.rt d) S := wS_bindS
@[simp] theorem wS_expr : wS (exprS fe) S QS ↔ wE fe S fun _ S => QS .nx S := wS_bindS
@[simp] theorem wS_bk : wS (fun S => some (.bk, S)) S QS ↔ QS .bk S := Iff.rfl
@[simp] theorem wS_ct : wS (fun S => some (.ct, S)) S QS ↔ QS .ct S := Iff.rfl
@[simp] theorem wS_asg {g : GM} : wS (asgM fe g) S QS ↔ wE fe S fun d S => wG g d S fun S => QS .nx S := by
  unfold asgM
  rw [wS_bindS]
  apply iff_of_eq
  congr 1
  funext d S
  simp only [wS, wG]
  cases g d S <;> rfl
@[simp] theorem wS_br {b : Bool} {f g : SM} : wS (brS (.bl b) f g) S QS ↔ if b = true then wS f S QS else wS g S QS := by cases b <;> simp [brS]
@[simp] theorem wS_if {f g : SM} : wS (ifS fc f g) S QS ↔ wE fc S fun d S => wS (brS d f g) S QS := wS_bindS
@[simp] theorem wS_par2 {j : Nat} {fs : List EM} : wS (par2M i j fs) S QS ↔ wS (asgM (tupM fs) (gTupM 2 (gConsM (gSetM i) (gConsM (gSetM j) gNilM)))) S QS := Iff.rfl
@[simp] theorem wS_par3 {j l : Nat} {fs : List EM} : wS (par3M i j l fs) S QS ↔ wS (asgM (tupM fs) (gTupM 3 (gConsM (gSetM i) (gConsM (gSetM j) (gConsM (gSetM l) gNilM))))) S QS := Iff.rfl
@[simp] theorem wG_set {d : D} : wG (gSetM i) d S QG ↔ i < S.length ∧ QG (S.set i d) := by
  simp only [wG, gSetM]
  by_cases h : i < S.length <;> simp [h, oG]
@[simp] theorem wG_tup {n : Nat} {gs : GMs} {ds : List D} : wG (gTupM n gs) (.tup ds) S QG ↔ ds.length = n ∧ wGs gs ds S QG := by
  simp only [wG, gTupM, wGs]
  by_cases h : ds.length = n <;> simp [h, oG]
@[simp] theorem wG_lst {n : Nat} {gs : GMs} {ds : List D} {o : Bool} : wG (gTupM n gs) (.lst o ds) S QG ↔ ds.length = n ∧ wGs gs ds S QG := by
  simp only [wG, gTupM, wGs]
  by_cases h : ds.length = n <;> simp [h, oG]
@[simp] theorem wGs_nil : wGs gNilM [] S QG ↔ QG S := Iff.rfl
@[simp] theorem wGs_cons {g : GM} {gs : GMs} {d : D} {ds : List D} : wGs (gConsM g gs) (d :: ds) S QG ↔ wG g d S fun S => wGs gs ds S QG := by
  simp only [wG, wGs, gConsM]
  cases g d S <;> rfl
theorem wG_sub' {fk : EM} {d : D} : wG (gSubM i fk) d S QG ↔ (∃ o xs, S[i]? = some (.lst o xs)) ∧ wE fk S fun k S => ∃ n, k = .int n ∧ ∃ xs, S[i]? = some (.lst true xs) ∧ ∃ m, ixN xs.length n = some m ∧ QG (S.set i (.lst true (xs.set m d))) := by
  simp only [wG, gSubM, wE]
  cases h : S[i]? with
  | none => simp [oG]
  | some x =>
    cases x with
    | lst o xs =>
      simp only [Option.some.injEq, D.lst.injEq, exists_and_left, exists_eq', and_true, true_and]
      match fk S with
      | none => simp [oG, oE]
      | some (.ex _, _) => simp [oG, oE]
      | some (.ok k, S1) =>
        simp only [oE]
        cases k with
        | int n =>
          simp only [D.int.injEq, exists_eq_left']
          cases h1 : S1[i]? with
          | none => simp [oG]
          | some y =>
            cases y with
            | lst o ys =>
              cases o with
              | false => simp [oG]
              | true => cases h2 : ixN ys.length n <;> simp [h2, oG]
            | _ => simp [oG]
        | _ => simp [oG]
    | _ => simp [oG]
theorem wF_def {mask : List Bool} {N : Nat} {body : SM} {ds : List D} {QF : D → List D → Prop} : wF (defM mask N body) ds QF ↔ wS body (ds ++ List.replicate (N - mask.length) .un) fun fl S => match fl with
    | .rt d => QF d (maskM mask S)
    | .nx => QF .non (maskM mask S)
    | _ => False := by
  simp only [wF, defM, wS]
  generalize body (ds ++ List.replicate (N - mask.length) .un) = o
  match o with
  | none => exact Iff.rfl
  | some (.nx, _) => exact Iff.rfl
  | some (.rt _, _) => exact Iff.rfl
  | some (.bk, _) => exact Iff.rfl
  | some (.ct, _) => exact Iff.rfl
  | some (.ex _, _) => exact Iff.rfl
theorem wF_pick {ix inv : List Nat} {dd : List D} {m : Fn} {ds : List D} {QF : D → List D → Prop} : wF (pickF ix inv dd m) ds QF ↔ wF m (pick .un ix (ds ++ dd)) fun r as => as.length = ix.length ∧ QF r ((pick .un inv as).take ds.length) := by
  simp only [wF, pickF]
  match m (pick .un ix (ds ++ dd)) with
  | none => exact Iff.rfl
  | some (.ok r, as) => by_cases h : as.length = ix.length <;> simp [h, oE]
  | some (.ex r, as) => by_cases h : as.length = ix.length <;> simp [h, oE]
@[simp] theorem wS_for {fi : IM} {g : GM} {body : SM} : wS (WF.forM fi g body) S QS ↔ wI fi S fun ds l S => l = [] ∧ wS (loopM g body ds) S QS := by
  simp only [wS, WF.forM, wI]
  match fi S with
  | none => exact Iff.rfl
  | some (.ok ds [], S) => simp [oI]
  | some (.ok ds (_ :: _), S) => simp [oI, oS]
  | some (.ex _, S) => simp [oI, oS]
theorem wS_loop0 {g : GM} {body : SM} : wS (loopM g body []) S QS ↔ QS .nx S := Iff.rfl
theorem wS_loop1 {g : GM} {body : SM} {d : D} {ds : List D} : wS (loopM g body (d :: ds)) S QS ↔ wG g d S fun S => wS body S fun fl S => match fl with
    | .nx => wS (loopM g body ds) S QS
    | .ct => wS (loopM g body ds) S QS
    | .bk => QS .nx S
    | fl => QS fl S := by
  have e : loopM g body (d :: ds) S = match g d S with
    | none => none
    | some S1 => match body S1 with
      | some (.nx, S2) => loopM g body ds S2
      | some (.ct, S2) => loopM g body ds S2
      | some (.bk, S2) => some (.nx, S2)
      | o => o := rfl
  simp only [wS, wG, e]
  cases g d S with
  | none => exact Iff.rfl
  | some S1 =>
    simp only [oG]
    match body S1 with
    | none => exact Iff.rfl
    | some (.nx, _) => exact Iff.rfl
    | some (.rt _, _) => exact Iff.rfl
    | some (.bk, _) => exact Iff.rfl
    | some (.ct, _) => exact Iff.rfl
    | some (.ex _, _) => exact Iff.rfl
theorem wI_seq' : wI (seqI fe) S QI ↔ wE fe S fun d S => ∃ ds, itemsD d = some ds ∧ QI ds [] S := by
  simp only [wI, seqI, wE, bindI]
  match fe S with
  | none => exact Iff.rfl
  | some (.ex _, _) => exact Iff.rfl
  | some (.ok d, S) => cases h : itemsD d <;> simp [optI, oI, oE, h]
theorem wI_rng1' : wI (rng1M fa) S QI ↔ wE fa S fun d S => ∃ n, d = .int n ∧ -(2 ^ 62) ≤ n ∧ n < 2 ^ 62 ∧ QI (rngD 0 n.toNat) [] S := by
  simp only [wI, rng1M, wE, bindI]
  match fa S with
  | none => exact Iff.rfl
  | some (.ex _, _) => exact Iff.rfl
  | some (.ok d, S) =>
    cases d with
    | int n =>
      simp only [oE]
      by_cases h : -(2 ^ 62) ≤ n ∧ n < 2 ^ 62
      · rw [if_pos h]
        exact ⟨fun q => ⟨n, rfl, h.1, h.2, q⟩, fun ⟨_, e, _, _, q⟩ => by cases e; exact q⟩
      · rw [if_neg h]
        exact ⟨fun q => q.elim, fun ⟨_, e, a, b, q⟩ => by cases e; exact h ⟨a, b⟩⟩
    | _ => simp [oI, oE]
theorem wI_rng2' : wI (rng2M fa fb) S QI ↔ wE fa S fun d S => wE fb S fun e S => ∃ a b, d = .int a ∧ e = .int b ∧ (-(2 ^ 62) ≤ a ∧ a < 2 ^ 62 ∧ -(2 ^ 62) ≤ b ∧ b < 2 ^ 62) ∧ QI (rngD a (b - a).toNat) [] S := by
  simp only [wI, rng2M, wE, bindI]
  match fa S with
  | none => exact Iff.rfl
  | some (.ex _, _) => exact Iff.rfl
  | some (.ok d, S) =>
    simp only [oE]
    match fb S with
    | none => exact Iff.rfl
    | some (.ex _, _) => exact Iff.rfl
    | some (.ok e, S) =>
      cases d with
      | int a =>
        cases e with
        | int b =>
          simp only []
          by_cases h : -(2 ^ 62) ≤ a ∧ a < 2 ^ 62 ∧ -(2 ^ 62) ≤ b ∧ b < 2 ^ 62
          · rw [if_pos h]
            exact ⟨fun q => ⟨a, b, rfl, rfl, h, q⟩, fun ⟨_, _, e, e2, _, q⟩ => by cases e; cases e2; exact q⟩
          · rw [if_neg h]
            exact ⟨fun q => q.elim, fun ⟨_, _, e, e2, h2, q⟩ => by cases e; cases e2; exact h h2⟩
        | _ => simp [oI, oE]
      | _ => simp [oI, oE]
def walkK (comb : List (List D) → Option (List D)) (av : List Av) : IM := fun S => match takeA av S with
  | some (ds, S1) => match seqVs ds with
    | some (xss, ds') => match comb xss with
      | some ys => some (.ok ys (lentA av ds'), S1)
      | none => none
    | none => none
  | none => none
@[simp] theorem wI_walk {comb : List (List D) → Option (List D)} {as : List Ar} : wI (walkM comb as) S QI ↔ wI (argsAI as (walkK comb)) S QI := Iff.rfl
@[simp] theorem wI_args0 {g : List Av → IM} : wI (argsAI [] g) S QI ↔ wI (g []) S QI := Iff.rfl
@[simp] theorem wI_argsv {g : List Av → IM} {r : List Ar} : wI (argsAI (.v f :: r) g) S QI ↔ wE f S fun d S => wI (argsAI r fun ds => g (.inl d :: ds)) S QI := by
  have e : argsAI (.v f :: r) g S = bindI f (fun d => argsAI r fun ds => g (.inl d :: ds)) S := rfl
  simp only [wI, e, wE, bindI]
  match f S with
  | none => exact Iff.rfl
  | some (.ex _, _) => exact Iff.rfl
  | some (.ok d, S) => exact Iff.rfl
@[simp] theorem wI_argss {g : List Av → IM} {r : List Ar} : wI (argsAI (.s i :: r) g) S QI ↔ rd S[i]? fun d => isUn d = false ∧ wI (argsAI r fun ds => g (.inr i :: ds)) S QI := by
  have e : argsAI (.s i :: r) g S = match S[i]? with
    | some d => if isUn d then none else argsAI r (fun ds => g (.inr i :: ds)) S
    | none => none := rfl
  simp only [wI, e]
  cases h : S[i]? with
  | none => simp [oI]
  | some d => cases hu : isUn d <;> simp [hu, oI]
theorem wI_walkK' {comb : List (List D) → Option (List D)} {av : List Av} : wI (walkK comb av) S QI ↔ ∃ ds S1, takeA av S = some (ds, S1) ∧ ∃ xss ds', seqVs ds = some (xss, ds') ∧ ∃ ys, comb xss = some ys ∧ QI ys (lentA av ds') S1 := by
  constructor
  · intro q
    simp only [wI, walkK] at q
    cases h : takeA av S with
    | none => rw [h] at q; exact q.elim
    | some o =>
      obtain ⟨ds, S1⟩ := o
      rw [h] at q
      simp only at q
      cases h1 : seqVs ds with
      | none => rw [h1] at q; exact q.elim
      | some o =>
        obtain ⟨xss, ds'⟩ := o
        rw [h1] at q
        simp only at q
        cases h2 : comb xss with
        | none => rw [h2] at q; exact q.elim
        | some ys => rw [h2] at q; exact ⟨_, _, rfl, _, _, h1, _, h2, q⟩
  · rintro ⟨ds, S1, h, xss, ds', h1, ys, h2, q⟩
    simp only [wI, walkK, h, h1, h2]
    exact q
@[simp] theorem wE_comp {own : List Nat} {fi : IM} {g : GM} {ft : Option EM} : wE (compM own fi g ft fe) S Q ↔ wI fi S fun ds l S1 => own.all (fun k => decide (k < S1.length)) = true ∧ wC own g ft fe ds (wipeS S1 own) [] fun acc S2 => Q (.lst true acc) (restS l (backS S1 S2 own)) := by
  simp only [wE, compM, wI, wC]
  match fi S with
  | none => exact Iff.rfl
  | some (.ex _, _) => exact Iff.rfl
  | some (.ok ds l, S1) =>
    simp only [oI]
    by_cases h : own.all (fun k => decide (k < S1.length)) = true
    · simp only [h, if_true, true_and]
      match compL own g ft fe ds (wipeS S1 own) [] with
      | none => exact Iff.rfl
      | some (acc, S2) => exact Iff.rfl
    · simp [h, oE]
theorem wC_nil {own : List Nat} {g : GM} {ft : Option EM} {acc : List D} {QC : List D → S0 → Prop} : wC own g ft fe [] S acc QC ↔ QC acc S := Iff.rfl
theorem wC_cons0 {own : List Nat} {g : GM} {d : D} {ds acc : List D} {QC : List D → S0 → Prop} : wC own g none fe (d :: ds) S acc QC ↔ wG g d S fun S => wE fe S fun y S => acc.length < 1000000 ∧ wC own g none fe ds (wipeS S own) (acc ++ [y]) QC := by
  have e : compL own g none fe (d :: ds) S acc = match g d S with
    | none => none
    | some S1 => match fe S1 with
        | some (.ok y, S3) => if acc.length < 1000000 then compL own g none fe ds (wipeS S3 own) (acc ++ [y]) else none
        | _ => none := by
    rw [compL]
    cases g d S <;> rfl
  simp only [wC, wG, e, wE]
  cases g d S with
  | none => exact Iff.rfl
  | some S1 =>
    simp only [oG]
    match fe S1 with
    | none => exact Iff.rfl
    | some (.ex _, _) => exact Iff.rfl
    | some (.ok y, S3) => by_cases h : acc.length < 1000000 <;> simp [h, oE, oC]
theorem wC_cons1' {own : List Nat} {g : GM} {d : D} {ds acc : List D} {QC : List D → S0 → Prop} : wC own g (some f) fe (d :: ds) S acc QC ↔ wG g d S fun S => wE f S fun b S => ∃ t, b = .bl t ∧ if t = true then (wE fe S fun y S => acc.length < 1000000 ∧ wC own g (some f) fe ds (wipeS S own) (acc ++ [y]) QC) else wC own g (some f) fe ds (wipeS S own) acc QC := by
  simp only [wC, wG, wE]
  rw [compL]
  cases g d S with
  | none => exact Iff.rfl
  | some S1 =>
    simp only [oG, tstM]
    match f S1 with
    | none => exact Iff.rfl
    | some (.ex _, _) => exact Iff.rfl
    | some (.ok b, S2) =>
      cases b with
      | bl t =>
        cases t with
        | false => simp [oE]
        | true =>
          simp only [oE, D.bl.injEq, exists_eq_left', if_true]
          match fe S2 with
          | none => exact Iff.rfl
          | some (.ex _, _) => exact Iff.rfl
          | some (.ok y, S3) => by_cases h : acc.length < 1000000 <;> simp [h, oC]
      | _ => simp [oE, oC]
def asI : D → Option Int
  | .int n => some n
  | _ => none
def asB : D → Option Bool
  | .bl n => some n
  | _ => none
def asL : D → Option (List D)
  | .lst _ n => some n
  | _ => none
def asO : D → Option (List D)
  | .lst true n => some n
  | _ => none
@[simp] theorem asI_int {n : Int} : asI (.int n) = some n := rfl
@[simp] theorem asB_bl {n : Bool} : asB (.bl n) = some n := rfl
@[simp] theorem asL_lst {o : Bool} {n : List D} : asL (.lst o n) = some n := rfl
@[simp] theorem asO_lst {n : List D} : asO (.lst true n) = some n := rfl
theorem asI_is {d : D} {n : Int} : asI d = some n ↔ d = .int n := by cases d <;> simp [asI]
theorem asB_is {d : D} {n : Bool} : asB d = some n ↔ d = .bl n := by cases d <;> simp [asB]
theorem asL_is {d : D} {n : List D} : asL d = some n ↔ ∃ o, d = .lst o n := by cases d <;> simp [asL]
theorem asO_is {d : D} {n : List D} : asO d = some n ↔ d = .lst true n := by
  cases d with
  | lst o n => cases o <;> simp [asO]
  | _ => simp [asO]
@[simp] theorem wE_tail {q : IP} {b : Int} : wE (tailM q b fc) S Q ↔ wE fc S fun z S => rd (asI z) fun c => Q (.bl (q b c)) S := by
  rw [wE_tail']; simp only [rd, asI_is]
@[simp] theorem wE_chain2 {p q : IP} : wE (chain2M p q fa fb fc) S Q ↔ wE fa S fun x S => wE fb S fun y S => rd (asI x) fun a => rd (asI y) fun b => if p a b = true then wE (tailM q b fc) S Q else Q (.bl false) S := by
  rw [wE_chain2']; simp only [rd, asI_is, exists_and_left]
@[simp] theorem wE_chain3 {p q r : IP} : wE (chain3M p q r fa fb fc fd) S Q ↔ wE fa S fun x S => wE fb S fun y S => rd (asI x) fun a => rd (asI y) fun b => if p a b = true then (wE fc S fun z S => rd (asI z) fun d => if q b d = true then wE (tailM r d fd) S Q else Q (.bl false) S) else Q (.bl false) S := by
  rw [wE_chain3']; simp only [rd, asI_is, exists_and_left]
@[simp] theorem wE_optE1 {g : Option Int → EM} : wE (optE (some f) g) S Q ↔ wE f S fun d S => rd (asI d) fun n => wE (g (some n)) S Q := by
  rw [wE_optE1']; simp only [rd, asI_is]
@[simp] theorem wE_app : wE (appM i fe) S Q ↔ rd (S[i]?.bind asL) fun _ => wE fe S fun d S => rd (S[i]?.bind asO) fun xs => xs.length < 1000000 ∧ Q .non (S.set i (.lst true (xs ++ [d]))) := by
  rw [wE_app']
  simp only [rd, Option.bind_eq_some_iff, asL_is, asO_is]
  constructor
  · rintro ⟨o, xs, h, q⟩
    refine ⟨xs, ⟨_, h, o, rfl⟩, q.mono fun d S ⟨xs, h, q⟩ => ⟨xs, ⟨_, h, rfl⟩, q⟩⟩
  · rintro ⟨xs, ⟨_, h, o, rfl⟩, q⟩
    exact ⟨o, xs, h, q.mono fun d S ⟨xs, ⟨_, h, e⟩, q⟩ => ⟨xs, by rw [h, e], q⟩⟩
@[simp] theorem wG_sub {fk : EM} {d : D} : wG (gSubM i fk) d S QG ↔ rd (S[i]?.bind asL) fun _ => wE fk S fun k S => rd (asI k) fun n => rd (S[i]?.bind asO) fun xs => rd (ixN xs.length n) fun m => QG (S.set i (.lst true (xs.set m d))) := by
  rw [wG_sub']
  simp only [rd, Option.bind_eq_some_iff, asL_is, asO_is, asI_is]
  constructor
  · rintro ⟨⟨o, xs, h⟩, q⟩
    refine ⟨xs, ⟨_, h, o, rfl⟩, q.mono fun k S ⟨n, e, xs, h, m, h2, q⟩ => ⟨n, e, xs, ⟨_, h, rfl⟩, m, h2, q⟩⟩
  · rintro ⟨xs, ⟨_, h, o, rfl⟩, q⟩
    exact ⟨⟨o, xs, h⟩, q.mono fun k S ⟨n, e, xs, ⟨_, h, e2⟩, m, h2, q⟩ => ⟨n, e, xs, by rw [h, e2], m, h2, q⟩⟩
@[simp] theorem wI_seq : wI (seqI fe) S QI ↔ wE fe S fun d S => rd (itemsD d) fun ds => QI ds [] S := wI_seq'
@[simp] theorem wI_rng1 : wI (rng1M fa) S QI ↔ wE fa S fun d S => rd (asI d) fun n => (-(2 ^ 62) ≤ n ∧ n < 2 ^ 62) ∧ QI (rngD 0 n.toNat) [] S := by
  rw [wI_rng1']; simp only [rd, asI_is, and_assoc]
@[simp] theorem wI_rng2 : wI (rng2M fa fb) S QI ↔ wE fa S fun d S => wE fb S fun e S => rd (asI d) fun a => rd (asI e) fun b => (-(2 ^ 62) ≤ a ∧ a < 2 ^ 62 ∧ -(2 ^ 62) ≤ b ∧ b < 2 ^ 62) ∧ QI (rngD a (b - a).toNat) [] S := by
  rw [wI_rng2']; simp only [rd, asI_is, exists_and_left]
@[simp] theorem wI_walkK {comb : List (List D) → Option (List D)} {av : List Av} : wI (walkK comb av) S QI ↔ rd (takeA av S) fun p => rd (seqVs p.1) fun q => rd (comb q.1) fun ys => QI ys (lentA av q.2) p.2 := by
  rw [wI_walkK']
  exact ⟨fun ⟨ds, S1, h, xss, ds', h1, ys, h2, q⟩ => ⟨_, h, _, h1, _, h2, q⟩, fun ⟨p, h, q, h1, ys, h2, z⟩ => ⟨p.1, p.2, h, q.1, q.2, h1, ys, h2, z⟩⟩
theorem wC_cons1 {own : List Nat} {g : GM} {d : D} {ds acc : List D} {QC : List D → S0 → Prop} : wC own g (some f) fe (d :: ds) S acc QC ↔ wG g d S fun S => wE f S fun b S => rd (asB b) fun t => if t = true then (wE fe S fun y S => acc.length < 1000000 ∧ wC own g (some f) fe ds (wipeS S own) (acc ++ [y]) QC) else wC own g (some f) fe ds (wipeS S own) acc QC := by
  rw [wC_cons1']; simp only [rd, asB_is]
end
end WF0
namespace WF
open PySem L2
structure Tg {α : Sort u} (q : α) : Type
@[irreducible] def wE (f : EM) (S : S0) (Q : D → S0 → Prop) (t : Tg Q := ⟨⟩) : Prop := WF0.wE f S Q
@[irreducible] def wS (f : SM) (S : S0) (Q : Fl → S0 → Prop) (t : Tg Q := ⟨⟩) : Prop := WF0.wS f S Q
@[irreducible] def wI (f : IM) (S : S0) (Q : List D → List (Nat × D) → S0 → Prop) (t : Tg Q := ⟨⟩) : Prop := WF0.wI f S Q
@[irreducible] def wG (g : GM) (d : D) (S : S0) (Q : S0 → Prop) (t : Tg Q := ⟨⟩) : Prop := WF0.wG g d S Q
@[irreducible] def wGs (g : GMs) (d : List D) (S : S0) (Q : S0 → Prop) (t : Tg Q := ⟨⟩) : Prop := WF0.wGs g d S Q
@[irreducible] def wF (m : Fn) (ds : List D) (Q : D → List D → Prop) (t : Tg Q := ⟨⟩) : Prop := WF0.wF m ds Q
@[irreducible] def wC (own : List Nat) (g : GM) (ft : Option EM) (fe : EM) (ds : List D) (S : S0) (acc : List D) (Q : List D → S0 → Prop) (t : Tg Q := ⟨⟩) : Prop := WF0.wC own g ft fe ds S acc Q
@[irreducible] def rd {α : Type} (o : Option α) (P : α → Prop) (t : Tg P := ⟨⟩) : Prop := WF0.rd o P
abbrev asI := WF0.asI
abbrev asB := WF0.asB
abbrev asL := WF0.asL
abbrev asO := WF0.asO
abbrev callK := WF0.callK
abbrev roK := WF0.roK
abbrev walkK := WF0.walkK
section
variable {α : Type} {P : α → Prop}
@[simp] theorem rd_some {d : α} : rd (some d) P ↔ P d := by
  (try unfold wE); (try unfold wS); (try unfold wI); (try unfold wG); (try unfold wGs); (try unfold wF); (try unfold wC); (try unfold rd)
  exact WF0.rd_some
@[simp] theorem rd_none : rd none P ↔ False := by
  (try unfold wE); (try unfold wS); (try unfold wI); (try unfold wG); (try unfold wGs); (try unfold wF); (try unfold wC); (try unfold rd)
  exact WF0.rd_none
@[simp] theorem rd_ite {c : Prop} [Decidable c] {o : Option α} : rd (if c then o else none) P ↔ c ∧ rd o P := by
  (try unfold wE); (try unfold wS); (try unfold wI); (try unfold wG); (try unfold wGs); (try unfold wF); (try unfold wC); (try unfold rd)
  exact WF0.rd_ite
@[simp] theorem rd_map {β : Type} {o : Option β} {g : β → α} : rd (o.map g) P ↔ rd o fun b => P (g b) := by
  (try unfold wE); (try unfold wS); (try unfold wI); (try unfold wG); (try unfold wGs); (try unfold wF); (try unfold wC); (try unfold rd)
  exact WF0.rd_map
@[simp] theorem rd_bind {β : Type} {o : Option β} {g : β → Option α} : rd (o.bind g) P ↔ rd o fun b => rd (g b) P := by
  (try unfold wE); (try unfold wS); (try unfold wI); (try unfold wG); (try unfold wGs); (try unfold wF); (try unfold wC); (try unfold rd)
  exact WF0.rd_bind
end
section
variable {S : S0} {Q : D → S0 → Prop} {QS : Fl → S0 → Prop} {QI : List D → List (Nat × D) → S0 → Prop} {QG : S0 → Prop} {f fa fb fc fd fe : EM} {i : Nat}
theorem wE.mono {Q' : D → S0 → Prop} (h : wE f S Q) (q : ∀ d S, Q d S → Q' d S) : wE f S Q' := by
  revert h
  (try unfold wE); (try unfold wS); (try unfold wI); (try unfold wG); (try unfold wGs); (try unfold wF); (try unfold wC); (try unfold rd)
  exact fun h => WF0.wE.mono h q
theorem wF.mono {m : Fn} {ds : List D} {Q Q' : D → List D → Prop} (h : wF m ds Q) (q : ∀ d S, Q d S → Q' d S) : wF m ds Q' := by
  revert h
  (try unfold wE); (try unfold wS); (try unfold wI); (try unfold wG); (try unfold wGs); (try unfold wF); (try unfold wC); (try unfold rd)
  exact fun h => WF0.wF.mono h q
theorem wS.mono {f : SM} {Q' : Fl → S0 → Prop} (h : wS f S QS) (q : ∀ d S, QS d S → Q' d S) : wS f S Q' := by
  revert h
  (try unfold wE); (try unfold wS); (try unfold wI); (try unfold wG); (try unfold wGs); (try unfold wF); (try unfold wC); (try unfold rd)
  exact fun h => WF0.wS.mono h q
@[simp] theorem wE_ret {d : D} : wE (retM d) S Q ↔ Q d S := by
  (try unfold wE); (try unfold wS); (try unfold wI); (try unfold wG); (try unfold wGs); (try unfold wF); (try unfold wC); (try unfold rd)
  exact WF0.wE_ret
@[simp] theorem wE_bind {g : D → EM} : wE (bindM f g) S Q ↔ wE f S fun d S' => wE (g d) S' Q := by
  (try unfold wE); (try unfold wS); (try unfold wI); (try unfold wG); (try unfold wGs); (try unfold wF); (try unfold wC); (try unfold rd)
  exact WF0.wE_bind
@[simp] theorem wE_opt {o : Option D} : wE (optM o) S Q ↔ rd o fun d => Q d S := by
  (try unfold wE); (try unfold wS); (try unfold wI); (try unfold wG); (try unfold wGs); (try unfold wF); (try unfold wC); (try unfold rd)
  exact WF0.wE_opt
@[simp] theorem wE_var : wE (varM i) S Q ↔ rd S[i]? fun d => isUn d = false ∧ Q d.frz (S.set i d.frz) := by
  (try unfold wE); (try unfold wS); (try unfold wI); (try unfold wG); (try unfold wGs); (try unfold wF); (try unfold wC); (try unfold rd)
  exact WF0.wE_var
@[simp] theorem wE_take : wE (takeM i) S Q ↔ rd S[i]? fun d => isUn d = false ∧ Q d (S.set i .un) := by
  (try unfold wE); (try unfold wS); (try unfold wI); (try unfold wG); (try unfold wGs); (try unfold wF); (try unfold wC); (try unfold rd)
  exact WF0.wE_take
@[simp] theorem wE_bin {op : D → D → Option D} : wE (binM op fa fb) S Q ↔ wE fa S fun x S => wE fb S fun y S => rd (op x y) fun d => Q d S := by
  (try unfold wE); (try unfold wS); (try unfold wI); (try unfold wG); (try unfold wGs); (try unfold wF); (try unfold wC); (try unfold rd)
  exact WF0.wE_bin
@[simp] theorem wE_un {op : D → Option D} : wE (unM op fa) S Q ↔ wE fa S fun x S => rd (op x) fun d => Q d S := by
  (try unfold wE); (try unfold wS); (try unfold wI); (try unfold wG); (try unfold wGs); (try unfold wF); (try unfold wC); (try unfold rd)
  exact WF0.wE_un
@[simp] theorem wE_args0 {g : List D → EM} : wE (argsM [] g) S Q ↔ wE (g []) S Q := by
  (try unfold wE); (try unfold wS); (try unfold wI); (try unfold wG); (try unfold wGs); (try unfold wF); (try unfold wC); (try unfold rd)
  exact WF0.wE_args0
@[simp] theorem wE_args1 {g : List D → EM} {fs : List EM} : wE (argsM (f :: fs) g) S Q ↔ wE f S fun d S => wE (argsM fs fun ds => g (d :: ds)) S Q := by
  (try unfold wE); (try unfold wS); (try unfold wI); (try unfold wG); (try unfold wGs); (try unfold wF); (try unfold wC); (try unfold rd)
  exact WF0.wE_args1
@[simp] theorem wE_tup {fs : List EM} : wE (tupM fs) S Q ↔ wE (argsM fs fun ds => retM (.tup ds)) S Q := by
  (try unfold wE); (try unfold wS); (try unfold wI); (try unfold wG); (try unfold wGs); (try unfold wF); (try unfold wC); (try unfold rd)
  exact WF0.wE_tup
@[simp] theorem wE_lst {fs : List EM} : wE (lstM fs) S Q ↔ wE (argsM fs fun ds => retM (.lst true ds)) S Q := by
  (try unfold wE); (try unfold wS); (try unfold wI); (try unfold wG); (try unfold wGs); (try unfold wF); (try unfold wC); (try unfold rd)
  exact WF0.wE_lst
@[simp] theorem wE_cb {op : List D → Option D} {fs : List EM} : wE (cbM op fs) S Q ↔ wE (argsM fs fun ds => optM (op ds)) S Q := by
  (try unfold wE); (try unfold wS); (try unfold wI); (try unfold wG); (try unfold wGs); (try unfold wF); (try unfold wC); (try unfold rd)
  exact WF0.wE_cb
@[simp] theorem wE_br {b : Bool} : wE (brM (.bl b) fa fb) S Q ↔ if b = true then wE fa S Q else wE fb S Q := by
  (try unfold wE); (try unfold wS); (try unfold wI); (try unfold wG); (try unfold wGs); (try unfold wF); (try unfold wC); (try unfold rd)
  exact WF0.wE_br
@[simp] theorem wE_and : wE (andM fa fb) S Q ↔ wE fa S fun d S => wE (brM d fb (retM (.bl false))) S Q := by
  (try unfold wE); (try unfold wS); (try unfold wI); (try unfold wG); (try unfold wGs); (try unfold wF); (try unfold wC); (try unfold rd)
  exact WF0.wE_and
@[simp] theorem wE_or : wE (orM fa fb) S Q ↔ wE fa S fun d S => wE (brM d (retM (.bl true)) fb) S Q := by
  (try unfold wE); (try unfold wS); (try unfold wI); (try unfold wG); (try unfold wGs); (try unfold wF); (try unfold wC); (try unfold rd)
  exact WF0.wE_or
@[simp] theorem wE_not : wE (notM fa) S Q ↔ wE fa S fun d S => wE (brM d (retM (.bl false)) (retM (.bl true))) S Q := by
  (try unfold wE); (try unfold wS); (try unfold wI); (try unfold wG); (try unfold wGs); (try unfold wF); (try unfold wC); (try unfold rd)
  exact WF0.wE_not
@[simp] theorem wE_if : wE (ifM fc fa fb) S Q ↔ wE fc S fun d S => wE (brM d fa fb) S Q := by
  (try unfold wE); (try unfold wS); (try unfold wI); (try unfold wG); (try unfold wGs); (try unfold wF); (try unfold wC); (try unfold rd)
  exact WF0.wE_if
@[simp] theorem wE_argsA0 {g : List Av → EM} : wE (argsA [] g) S Q ↔ wE (g []) S Q := by
  (try unfold wE); (try unfold wS); (try unfold wI); (try unfold wG); (try unfold wGs); (try unfold wF); (try unfold wC); (try unfold rd)
  exact WF0.wE_argsA0
@[simp] theorem wE_argsAv {g : List Av → EM} {r : List Ar} : wE (argsA (.v f :: r) g) S Q ↔ wE f S fun d S => wE (argsA r fun ds => g (.inl d :: ds)) S Q := by
  (try unfold wE); (try unfold wS); (try unfold wI); (try unfold wG); (try unfold wGs); (try unfold wF); (try unfold wC); (try unfold rd)
  exact WF0.wE_argsAv
@[simp] theorem wE_argsAs {g : List Av → EM} {r : List Ar} : wE (argsA (.s i :: r) g) S Q ↔ rd S[i]? fun d => isUn d = false ∧ wE (argsA r fun ds => g (.inr i :: ds)) S Q := by
  (try unfold wE); (try unfold wS); (try unfold wI); (try unfold wG); (try unfold wGs); (try unfold wF); (try unfold wC); (try unfold rd)
  exact WF0.wE_argsAs
@[simp] theorem wE_call {m : Fn} {as : List Ar} : wE (callM m as) S Q ↔ wE (argsA as (callK m)) S Q := by
  (try unfold wE); (try unfold wS); (try unfold wI); (try unfold wG); (try unfold wGs); (try unfold wF); (try unfold wC); (try unfold rd)
  exact WF0.wE_call
@[simp] theorem wE_callK {m : Fn} {av : List Av} : wE (callK m av) S Q ↔ rd (takeA av S) fun p => wF m p.1 fun r ds' => ds'.length = av.length ∧ Q r (putA av ds' p.2) := by
  (try unfold wE); (try unfold wS); (try unfold wI); (try unfold wG); (try unfold wGs); (try unfold wF); (try unfold wC); (try unfold rd)
  exact WF0.wE_callK
@[simp] theorem wE_ro {op : List D → Option D} {as : List Ar} : wE (roM op as) S Q ↔ wE (argsA as (roK op)) S Q := by
  (try unfold wE); (try unfold wS); (try unfold wI); (try unfold wG); (try unfold wGs); (try unfold wF); (try unfold wC); (try unfold rd)
  exact WF0.wE_ro
@[simp] theorem wE_roK {op : List D → Option D} {av : List Av} : wE (roK op av) S Q ↔ rd (takeA av S) fun p => rd (op p.1) fun d => p.1.length = av.length ∧ Q d (putA av p.1 p.2) := by
  (try unfold wE); (try unfold wS); (try unfold wI); (try unfold wG); (try unfold wGs); (try unfold wF); (try unfold wC); (try unfold rd)
  exact WF0.wE_roK
@[simp] theorem wE_has : wE (hasM i f) S Q ↔ rd S[i]? fun d => isUn d = false ∧ wE f S Q := by
  (try unfold wE); (try unfold wS); (try unfold wI); (try unfold wG); (try unfold wGs); (try unfold wF); (try unfold wC); (try unfold rd)
  exact WF0.wE_has
@[simp] theorem wE_ixS : wE (ixS i fb) S Q ↔ wE fb S fun k S => rd S[i]? fun d => rd (ixO d k) fun p => isUn d = false ∧ Q p.1 (S.set i p.2) := by
  (try unfold wE); (try unfold wS); (try unfold wI); (try unfold wG); (try unfold wGs); (try unfold wF); (try unfold wC); (try unfold rd)
  exact WF0.wE_ixS
@[simp] theorem wE_optE0 {g : Option Int → EM} : wE (optE none g) S Q ↔ wE (g none) S Q := by
  (try unfold wE); (try unfold wS); (try unfold wI); (try unfold wG); (try unfold wGs); (try unfold wF); (try unfold wC); (try unfold rd)
  exact WF0.wE_optE0
@[simp] theorem wE_slice {lo hi : Option EM} : wE (sliceM fe lo hi) S Q ↔ wE fe S fun d S => wE (optE lo fun l => optE hi fun h => optM (sliceD d l h)) S Q := by
  (try unfold wE); (try unfold wS); (try unfold wI); (try unfold wG); (try unfold wGs); (try unfold wF); (try unfold wC); (try unfold rd)
  exact WF0.wE_slice
@[simp] theorem wS_seq {f g : SM} : wS (seqM f g) S QS ↔ wS f S fun fl S' => match fl with
    | .nx => wS g S' QS
    | fl => QS fl S' := by
  (try unfold wE); (try unfold wS); (try unfold wI); (try unfold wG); (try unfold wGs); (try unfold wF); (try unfold wC); (try unfold rd)
  exact WF0.wS_seq
@[simp] theorem wS_skip : wS skipM S QS ↔ QS .nx S := by
  (try unfold wE); (try unfold wS); (try unfold wI); (try unfold wG); (try unfold wGs); (try unfold wF); (try unfold wC); (try unfold rd)
  exact WF0.wS_skip
@[simp] theorem wS_fail : wS failM S QS ↔ False := by
  (try unfold wE); (try unfold wS); (try unfold wI); (try unfold wG); (try unfold wGs); (try unfold wF); (try unfold wC); (try unfold rd)
  exact WF0.wS_fail
@[simp] theorem wS_raise {x g : Str} {fe : EM} : wS (raiseM x g fe) S QS ↔ False := by
  (try unfold wS); exact WF0.wS_raise
@[simp] theorem wS_raise0 {x : Str} : wS (raise0M x) S QS ↔ False := by
  (try unfold wS); exact WF0.wS_raise0
@[simp] theorem wS_bindS {g : D → SM} : wS (bindS f g) S QS ↔ wE f S fun d S => wS (g d) S QS := by
  (try unfold wE); (try unfold wS); (try unfold wI); (try unfold wG); (try unfold wGs); (try unfold wF); (try unfold wC); (try unfold rd)
  exact WF0.wS_bindS
@[simp] theorem wS_ret : wS (retS fe) S QS ↔ wE fe S fun d S => QS (.rt d) S := by
  (try unfold wE); (try unfold wS); (try unfold wI); (try unfold wG); (try unfold wGs); (try unfold wF); (try unfold wC); (try unfold rd)
  exact WF0.wS_ret
@[simp] theorem wS_expr : wS (exprS fe) S QS ↔ wE fe S fun _ S => QS .nx S := by
  (try unfold wE); (try unfold wS); (try unfold wI); (try unfold wG); (try unfold wGs); (try unfold wF); (try unfold wC); (try unfold rd)
  exact WF0.wS_expr
@[simp] theorem wS_bk : wS (fun S => some (.bk, S)) S QS ↔ QS .bk S := by
  (try unfold wE); (try unfold wS); (try unfold wI); (try unfold wG); (try unfold wGs); (try unfold wF); (try unfold wC); (try unfold rd)
  exact WF0.wS_bk
@[simp] theorem wS_ct : wS (fun S => some (.ct, S)) S QS ↔ QS .ct S := by
  (try unfold wE); (try unfold wS); (try unfold wI); (try unfold wG); (try unfold wGs); (try unfold wF); (try unfold wC); (try unfold rd)
  exact WF0.wS_ct
@[simp] theorem wS_asg {g : GM} : wS (asgM fe g) S QS ↔ wE fe S fun d S => wG g d S fun S => QS .nx S := by
  (try unfold wE); (try unfold wS); (try unfold wI); (try unfold wG); (try unfold wGs); (try unfold wF); (try unfold wC); (try unfold rd)
  exact WF0.wS_asg
@[simp] theorem wS_br {b : Bool} {f g : SM} : wS (brS (.bl b) f g) S QS ↔ if b = true then wS f S QS else wS g S QS := by
  (try unfold wE); (try unfold wS); (try unfold wI); (try unfold wG); (try unfold wGs); (try unfold wF); (try unfold wC); (try unfold rd)
  exact WF0.wS_br
@[simp] theorem wS_if {f g : SM} : wS (ifS fc f g) S QS ↔ wE fc S fun d S => wS (brS d f g) S QS := by
  (try unfold wE); (try unfold wS); (try unfold wI); (try unfold wG); (try unfold wGs); (try unfold wF); (try unfold wC); (try unfold rd)
  exact WF0.wS_if
@[simp] theorem wS_par2 {j : Nat} {fs : List EM} : wS (par2M i j fs) S QS ↔ wS (asgM (tupM fs) (gTupM 2 (gConsM (gSetM i) (gConsM (gSetM j) gNilM)))) S QS := by
  (try unfold wE); (try unfold wS); (try unfold wI); (try unfold wG); (try unfold wGs); (try unfold wF); (try unfold wC); (try unfold rd)
  exact WF0.wS_par2
@[simp] theorem wS_par3 {j l : Nat} {fs : List EM} : wS (par3M i j l fs) S QS ↔ wS (asgM (tupM fs) (gTupM 3 (gConsM (gSetM i) (gConsM (gSetM j) (gConsM (gSetM l) gNilM))))) S QS := by
  (try unfold wE); (try unfold wS); (try unfold wI); (try unfold wG); (try unfold wGs); (try unfold wF); (try unfold wC); (try unfold rd)
  exact WF0.wS_par3
@[simp] theorem wG_set {d : D} : wG (gSetM i) d S QG ↔ i < S.length ∧ QG (S.set i d) := by
  (try unfold wE); (try unfold wS); (try unfold wI); (try unfold wG); (try unfold wGs); (try unfold wF); (try unfold wC); (try unfold rd)
  exact WF0.wG_set
@[simp] theorem wG_tup {n : Nat} {gs : GMs} {ds : List D} : wG (gTupM n gs) (.tup ds) S QG ↔ ds.length = n ∧ wGs gs ds S QG := by
  (try unfold wE); (try unfold wS); (try unfold wI); (try unfold wG); (try unfold wGs); (try unfold wF); (try unfold wC); (try unfold rd)
  exact WF0.wG_tup
@[simp] theorem wG_lst {n : Nat} {gs : GMs} {ds : List D} {o : Bool} : wG (gTupM n gs) (.lst o ds) S QG ↔ ds.length = n ∧ wGs gs ds S QG := by
  (try unfold wE); (try unfold wS); (try unfold wI); (try unfold wG); (try unfold wGs); (try unfold wF); (try unfold wC); (try unfold rd)
  exact WF0.wG_lst
@[simp] theorem wGs_nil : wGs gNilM [] S QG ↔ QG S := by
  (try unfold wE); (try unfold wS); (try unfold wI); (try unfold wG); (try unfold wGs); (try unfold wF); (try unfold wC); (try unfold rd)
  exact WF0.wGs_nil
@[simp] theorem wGs_cons {g : GM} {gs : GMs} {d : D} {ds : List D} : wGs (gConsM g gs) (d :: ds) S QG ↔ wG g d S fun S => wGs gs ds S QG := by
  (try unfold wE); (try unfold wS); (try unfold wI); (try unfold wG); (try unfold wGs); (try unfold wF); (try unfold wC); (try unfold rd)
  exact WF0.wGs_cons
theorem wF_def {mask : List Bool} {N : Nat} {body : SM} {ds : List D} {QF : D → List D → Prop} : wF (defM mask N body) ds QF ↔ wS body (ds ++ List.replicate (N - mask.length) .un) fun fl S => match fl with
    | .rt d => QF d (maskM mask S)
    | .nx => QF .non (maskM mask S)
    | _ => False := by
  (try unfold wE); (try unfold wS); (try unfold wI); (try unfold wG); (try unfold wGs); (try unfold wF); (try unfold wC); (try unfold rd)
  exact WF0.wF_def
theorem wF_pick {ix inv : List Nat} {dd : List D} {m : Fn} {ds : List D} {QF : D → List D → Prop} : wF (pickF ix inv dd m) ds QF ↔ wF m (pick .un ix (ds ++ dd)) fun r as => as.length = ix.length ∧ QF r ((pick .un inv as).take ds.length) := by
  (try unfold wE); (try unfold wS); (try unfold wI); (try unfold wG); (try unfold wGs); (try unfold wF); (try unfold wC); (try unfold rd)
  exact WF0.wF_pick
@[simp] theorem wS_for {fi : IM} {g : GM} {body : SM} : wS (WF.forM fi g body) S QS ↔ wI fi S fun ds l S => l = [] ∧ wS (loopM g body ds) S QS := by
  (try unfold wE); (try unfold wS); (try unfold wI); (try unfold wG); (try unfold wGs); (try unfold wF); (try unfold wC); (try unfold rd)
  exact WF0.wS_for
theorem wS_loop0 {g : GM} {body : SM} : wS (loopM g body []) S QS ↔ QS .nx S := by
  (try unfold wE); (try unfold wS); (try unfold wI); (try unfold wG); (try unfold wGs); (try unfold wF); (try unfold wC); (try unfold rd)
  exact WF0.wS_loop0
theorem wS_loop1 {g : GM} {body : SM} {d : D} {ds : List D} : wS (loopM g body (d :: ds)) S QS ↔ wG g d S fun S => wS body S fun fl S => match fl with
    | .nx => wS (loopM g body ds) S QS
    | .ct => wS (loopM g body ds) S QS
    | .bk => QS .nx S
    | fl => QS fl S := by
  (try unfold wE); (try unfold wS); (try unfold wI); (try unfold wG); (try unfold wGs); (try unfold wF); (try unfold wC); (try unfold rd)
  exact WF0.wS_loop1
@[simp] theorem wI_walk {comb : List (List D) → Option (List D)} {as : List Ar} : wI (walkM comb as) S QI ↔ wI (argsAI as (walkK comb)) S QI := by
  (try unfold wE); (try unfold wS); (try unfold wI); (try unfold wG); (try unfold wGs); (try unfold wF); (try unfold wC); (try unfold rd)
  exact WF0.wI_walk
@[simp] theorem wI_args0 {g : List Av → IM} : wI (argsAI [] g) S QI ↔ wI (g []) S QI := by
  (try unfold wE); (try unfold wS); (try unfold wI); (try unfold wG); (try unfold wGs); (try unfold wF); (try unfold wC); (try unfold rd)
  exact WF0.wI_args0
@[simp] theorem wI_argsv {g : List Av → IM} {r : List Ar} : wI (argsAI (.v f :: r) g) S QI ↔ wE f S fun d S => wI (argsAI r fun ds => g (.inl d :: ds)) S QI := by
  (try unfold wE); (try unfold wS); (try unfold wI); (try unfold wG); (try unfold wGs); (try unfold wF); (try unfold wC); (try unfold rd)
  exact WF0.wI_argsv
@[simp] theorem wI_argss {g : List Av → IM} {r : List Ar} : wI (argsAI (.s i :: r) g) S QI ↔ rd S[i]? fun d => isUn d = false ∧ wI (argsAI r fun ds => g (.inr i :: ds)) S QI := by
  (try unfold wE); (try unfold wS); (try unfold wI); (try unfold wG); (try unfold wGs); (try unfold wF); (try unfold wC); (try unfold rd)
  exact WF0.wI_argss
@[simp] theorem wE_comp {own : List Nat} {fi : IM} {g : GM} {ft : Option EM} : wE (compM own fi g ft fe) S Q ↔ wI fi S fun ds l S1 => own.all (fun k => decide (k < S1.length)) = true ∧ wC own g ft fe ds (wipeS S1 own) [] fun acc S2 => Q (.lst true acc) (restS l (backS S1 S2 own)) := by
  (try unfold wE); (try unfold wS); (try unfold wI); (try unfold wG); (try unfold wGs); (try unfold wF); (try unfold wC); (try unfold rd)
  exact WF0.wE_comp
theorem wC_nil {own : List Nat} {g : GM} {ft : Option EM} {acc : List D} {QC : List D → S0 → Prop} : wC own g ft fe [] S acc QC ↔ QC acc S := by
  (try unfold wE); (try unfold wS); (try unfold wI); (try unfold wG); (try unfold wGs); (try unfold wF); (try unfold wC); (try unfold rd)
  exact WF0.wC_nil
theorem wC_cons0 {own : List Nat} {g : GM} {d : D} {ds acc : List D} {QC : List D → S0 → Prop} : wC own g none fe (d :: ds) S acc QC ↔ wG g d S fun S => wE fe S fun y S => acc.length < 1000000 ∧ wC own g none fe ds (wipeS S own) (acc ++ [y]) QC := by
  (try unfold wE); (try unfold wS); (try unfold wI); (try unfold wG); (try unfold wGs); (try unfold wF); (try unfold wC); (try unfold rd)
  exact WF0.wC_cons0
@[simp] theorem asI_int {n : Int} : asI (.int n) = some n := by
  (try unfold wE); (try unfold wS); (try unfold wI); (try unfold wG); (try unfold wGs); (try unfold wF); (try unfold wC); (try unfold rd)
  exact WF0.asI_int
@[simp] theorem asB_bl {n : Bool} : asB (.bl n) = some n := by
  (try unfold wE); (try unfold wS); (try unfold wI); (try unfold wG); (try unfold wGs); (try unfold wF); (try unfold wC); (try unfold rd)
  exact WF0.asB_bl
@[simp] theorem asL_lst {o : Bool} {n : List D} : asL (.lst o n) = some n := by
  (try unfold wE); (try unfold wS); (try unfold wI); (try unfold wG); (try unfold wGs); (try unfold wF); (try unfold wC); (try unfold rd)
  exact WF0.asL_lst
@[simp] theorem asO_lst {n : List D} : asO (.lst true n) = some n := by
  (try unfold wE); (try unfold wS); (try unfold wI); (try unfold wG); (try unfold wGs); (try unfold wF); (try unfold wC); (try unfold rd)
  exact WF0.asO_lst
theorem asI_is {d : D} {n : Int} : asI d = some n ↔ d = .int n := by
  (try unfold wE); (try unfold wS); (try unfold wI); (try unfold wG); (try unfold wGs); (try unfold wF); (try unfold wC); (try unfold rd)
  exact WF0.asI_is
theorem asB_is {d : D} {n : Bool} : asB d = some n ↔ d = .bl n := by
  (try unfold wE); (try unfold wS); (try unfold wI); (try unfold wG); (try unfold wGs); (try unfold wF); (try unfold wC); (try unfold rd)
  exact WF0.asB_is
theorem asL_is {d : D} {n : List D} : asL d = some n ↔ ∃ o, d = .lst o n := by
  (try unfold wE); (try unfold wS); (try unfold wI); (try unfold wG); (try unfold wGs); (try unfold wF); (try unfold wC); (try unfold rd)
  exact WF0.asL_is
theorem asO_is {d : D} {n : List D} : asO d = some n ↔ d = .lst true n := by
  (try unfold wE); (try unfold wS); (try unfold wI); (try unfold wG); (try unfold wGs); (try unfold wF); (try unfold wC); (try unfold rd)
  exact WF0.asO_is
@[simp] theorem wE_tail {q : IP} {b : Int} : wE (tailM q b fc) S Q ↔ wE fc S fun z S => rd (asI z) fun c => Q (.bl (q b c)) S := by
  (try unfold wE); (try unfold wS); (try unfold wI); (try unfold wG); (try unfold wGs); (try unfold wF); (try unfold wC); (try unfold rd)
  exact WF0.wE_tail
@[simp] theorem wE_chain2 {p q : IP} : wE (chain2M p q fa fb fc) S Q ↔ wE fa S fun x S => wE fb S fun y S => rd (asI x) fun a => rd (asI y) fun b => if p a b = true then wE (tailM q b fc) S Q else Q (.bl false) S := by
  (try unfold wE); (try unfold wS); (try unfold wI); (try unfold wG); (try unfold wGs); (try unfold wF); (try unfold wC); (try unfold rd)
  exact WF0.wE_chain2
@[simp] theorem wE_chain3 {p q r : IP} : wE (chain3M p q r fa fb fc fd) S Q ↔ wE fa S fun x S => wE fb S fun y S => rd (asI x) fun a => rd (asI y) fun b => if p a b = true then (wE fc S fun z S => rd (asI z) fun d => if q b d = true then wE (tailM r d fd) S Q else Q (.bl false) S) else Q (.bl false) S := by
  (try unfold wE); (try unfold wS); (try unfold wI); (try unfold wG); (try unfold wGs); (try unfold wF); (try unfold wC); (try unfold rd)
  exact WF0.wE_chain3
@[simp] theorem wE_optE1 {g : Option Int → EM} : wE (optE (some f) g) S Q ↔ wE f S fun d S => rd (asI d) fun n => wE (g (some n)) S Q := by
  (try unfold wE); (try unfold wS); (try unfold wI); (try unfold wG); (try unfold wGs); (try unfold wF); (try unfold wC); (try unfold rd)
  exact WF0.wE_optE1
@[simp] theorem wE_app : wE (appM i fe) S Q ↔ rd (S[i]?.bind asL) fun _ => wE fe S fun d S => rd (S[i]?.bind asO) fun xs => xs.length < 1000000 ∧ Q .non (S.set i (.lst true (xs ++ [d]))) := by
  (try unfold wE); (try unfold wS); (try unfold wI); (try unfold wG); (try unfold wGs); (try unfold wF); (try unfold wC); (try unfold rd)
  exact WF0.wE_app
@[simp] theorem wG_sub {fk : EM} {d : D} : wG (gSubM i fk) d S QG ↔ rd (S[i]?.bind asL) fun _ => wE fk S fun k S => rd (asI k) fun n => rd (S[i]?.bind asO) fun xs => rd (ixN xs.length n) fun m => QG (S.set i (.lst true (xs.set m d))) := by
  (try unfold wE); (try unfold wS); (try unfold wI); (try unfold wG); (try unfold wGs); (try unfold wF); (try unfold wC); (try unfold rd)
  exact WF0.wG_sub
@[simp] theorem wI_seq : wI (seqI fe) S QI ↔ wE fe S fun d S => rd (itemsD d) fun ds => QI ds [] S := by
  (try unfold wE); (try unfold wS); (try unfold wI); (try unfold wG); (try unfold wGs); (try unfold wF); (try unfold wC); (try unfold rd)
  exact WF0.wI_seq
@[simp] theorem wI_rng1 : wI (rng1M fa) S QI ↔ wE fa S fun d S => rd (asI d) fun n => (-(2 ^ 62) ≤ n ∧ n < 2 ^ 62) ∧ QI (rngD 0 n.toNat) [] S := by
  (try unfold wE); (try unfold wS); (try unfold wI); (try unfold wG); (try unfold wGs); (try unfold wF); (try unfold wC); (try unfold rd)
  exact WF0.wI_rng1
@[simp] theorem wI_rng2 : wI (rng2M fa fb) S QI ↔ wE fa S fun d S => wE fb S fun e S => rd (asI d) fun a => rd (asI e) fun b => (-(2 ^ 62) ≤ a ∧ a < 2 ^ 62 ∧ -(2 ^ 62) ≤ b ∧ b < 2 ^ 62) ∧ QI (rngD a (b - a).toNat) [] S := by
  (try unfold wE); (try unfold wS); (try unfold wI); (try unfold wG); (try unfold wGs); (try unfold wF); (try unfold wC); (try unfold rd)
  exact WF0.wI_rng2
@[simp] theorem wI_walkK {comb : List (List D) → Option (List D)} {av : List Av} : wI (walkK comb av) S QI ↔ rd (takeA av S) fun p => rd (seqVs p.1) fun q => rd (comb q.1) fun ys => QI ys (lentA av q.2) p.2 := by
  (try unfold wE); (try unfold wS); (try unfold wI); (try unfold wG); (try unfold wGs); (try unfold wF); (try unfold wC); (try unfold rd)
  exact WF0.wI_walkK
theorem wC_cons1 {own : List Nat} {g : GM} {d : D} {ds acc : List D} {QC : List D → S0 → Prop} : wC own g (some f) fe (d :: ds) S acc QC ↔ wG g d S fun S => wE f S fun b S => rd (asB b) fun t => if t = true then (wE fe S fun y S => acc.length < 1000000 ∧ wC own g (some f) fe ds (wipeS S own) (acc ++ [y]) QC) else wC own g (some f) fe ds (wipeS S own) acc QC := by
  (try unfold wE); (try unfold wS); (try unfold wI); (try unfold wG); (try unfold wGs); (try unfold wF); (try unfold wC); (try unfold rd)
  exact WF0.wC_cons1
end
end WF
namespace WF
open PySem L2
section
variable {S : S0} {i : Nat} {d : D} {xs ys : List D} {a b : Int} {n : D} {o : Bool} {r : List Av} {ds : List D}
@[simp] theorem takeA_nil : takeA [] S = some ([], S) := rfl
@[simp] theorem takeA_v : takeA (.inl d :: r) S = (takeA r S).map fun x => (d :: x.1, x.2) := rfl
@[simp] theorem takeA_s : takeA (.inr i :: r) S = S[i]?.bind fun d => if isUn d = false then (takeA r (S.set i .un)).map fun x => (d :: x.1, x.2) else none := by
  rw [takeA]
  cases S[i]? with
  | none => rfl
  | some d => cases h : isUn d <;> simp [h]
@[simp] theorem putA_nil : putA [] ds S = S := by cases ds <;> rfl
@[simp] theorem putA_v : putA (.inl d :: r) (n :: ds) S = putA r ds S := rfl
@[simp] theorem putA_s : putA (.inr i :: r) (d :: ds) S = (putA r ds S).set i d := rfl
@[simp] theorem isUn_un : isUn .un = true := rfl
@[simp] theorem isUn_non : isUn .non = false := rfl
@[simp] theorem isUn_bl {b : Bool} : isUn (.bl b) = false := rfl
@[simp] theorem isUn_int : isUn (.int a) = false := rfl
@[simp] theorem isUn_str {x : Str} : isUn (.str x) = false := rfl
@[simp] theorem isUn_vl {x : V} : isUn (.vl x) = false := rfl
@[simp] theorem isUn_tup : isUn (.tup xs) = false := rfl
@[simp] theorem isUn_lst : isUn (.lst o xs) = false := rfl
@[simp] theorem isUn_scr {ns : List Int} : isUn (.scr ns) = false := rfl
@[simp] theorem frz_un : D.frz .un = .un := rfl
@[simp] theorem frz_non : D.frz .non = .non := rfl
@[simp] theorem frz_bl {b : Bool} : D.frz (.bl b) = .bl b := rfl
@[simp] theorem frz_int : D.frz (.int a) = .int a := rfl
@[simp] theorem frz_str {x : Str} : D.frz (.str x) = .str x := rfl
@[simp] theorem frz_vl {x : V} : D.frz (.vl x) = .vl x := rfl
@[simp] theorem frz_tup : D.frz (.tup xs) = .tup (D.frzs xs) := rfl
@[simp] theorem frz_lst : D.frz (.lst o xs) = .lst false (D.frzs xs) := rfl
@[simp] theorem frz_scr {ns : List Int} : D.frz (.scr ns) = .scr ns := rfl
@[simp] theorem frzs_nil : D.frzs [] = [] := rfl
@[simp] theorem frzs_cons : D.frzs (d :: xs) = d.frz :: D.frzs xs := rfl
@[simp] theorem frzs_app : D.frzs (xs ++ ys) = D.frzs xs ++ D.frzs ys := by simp [D.frzs_map]
@[simp] theorem frzs_len : (D.frzs xs).length = xs.length := by simp [D.frzs_map]
theorem frzs_id {α : Type} {l : List α} {f : α → D} (h : ∀ x, (f x).frz = f x) : D.frzs (l.map f) = l.map f := by
  rw [D.frzs_map, List.map_map]; exact List.map_congr_left fun x _ => h x
@[simp] theorem frzs_ints {l : List Int} : D.frzs (l.map D.int) = l.map D.int := frzs_id fun _ => rfl
@[simp] theorem frzs_prs {l : List (Int × Int)} : D.frzs (l.map prD) = l.map prD := frzs_id fun _ => rfl
@[simp] theorem frz_prD {p : Int × Int} : D.frz (prD p) = prD p := rfl
@[simp] theorem isUn_prD {p : Int × Int} : isUn (prD p) = false := rfl
@[simp] theorem imm_int : D.imm (.int a) = true := rfl
@[simp] theorem imm_bl {b : Bool} : D.imm (.bl b) = true := rfl
@[simp] theorem imm_non : D.imm .non = true := rfl
@[simp] theorem imm_str {x : Str} : D.imm (.str x) = true := rfl
@[simp] theorem imm_tup : D.imm (.tup xs) = D.imms xs := rfl
@[simp] theorem imms_nil : D.imms [] = true := rfl
@[simp] theorem imms_cons : D.imms (d :: xs) = (d.imm && D.imms xs) := rfl
@[simp] theorem imm_lst : D.imm (.lst o xs) = false := rfl
@[simp] theorem op2_two {op : D → D → Option D} {x y : D} : op2 op [x, y] = op x y := rfl
@[simp] theorem intD_int {C : Int → Int → Bool} {g : Int → Int → D} : intD C g (.int a) (.int b) = if C a b = true then some (g a b) else none := rfl
@[simp] theorem addD_int : addD (.int a) (.int b) = some (.int (a + b)) := rfl
@[simp] theorem addD_lst {o' : Bool} : addD (.lst o xs) (.lst o' ys) = if xs.length + ys.length ≤ 1000000 then some (.lst true (xs ++ ys)) else none := rfl
@[simp] theorem addD_tup : addD (.tup xs) (.tup ys) = if xs.length + ys.length ≤ 1000000 then some (.tup (xs ++ ys)) else none := rfl
@[simp] theorem mulD2_int : mulD2 (.int a) (.int b) = if a.natAbs < 2 ^ 64 ∨ b.natAbs < 2 ^ 64 then some (.int (a * b)) else none := by simp [mulD2, mulD]
@[simp] theorem negD_int : negD (.int a) = some (.int (-a)) := rfl
@[simp] theorem ltD_int : ltD (.int a) (.int b) = some (.bl (decide (a < b))) := rfl
@[simp] theorem lenD_lst : lenD [.lst o xs] = some (.int xs.length) := rfl
@[simp] theorem lenD_tup : lenD [.tup xs] = some (.int xs.length) := rfl
@[simp] theorem lenD_scr {ns : List Int} : lenD [.scr ns] = some (.int ns.length) := rfl
@[simp] theorem absD_int : absD [.int a] = some (.int (if a < 0 then -a else a)) := rfl
@[simp] theorem intD1_int : intD1 [.int a] = some (.int a) := rfl
@[simp] theorem intD1_bl {b : Bool} : intD1 [.bl b] = some (.int (if b = true then 1 else 0)) := rfl
@[simp] theorem maxD2_int : maxD2 [.int a, .int b] = some (.int (if b > a then b else a)) := rfl
@[simp] theorem minD2_int : minD2 [.int a, .int b] = some (.int (if b < a then b else a)) := rfl
@[simp] theorem divmodD_int : divmodD [.int a, .int b] = if 0 < b ∧ b < 2 ^ 64 then some (.tup [.int (a / b), .int (a % b)]) else none := rfl
@[simp] theorem tupleD_lst : tupleD [.lst o xs] = some (.tup xs) := rfl
@[simp] theorem tupleD_tup : tupleD [.tup xs] = some (.tup xs) := rfl
@[simp] theorem listD_lst : listD [.lst o xs] = some (.lst true xs) := rfl
@[simp] theorem listD_tup : listD [.tup xs] = some (.lst true xs) := rfl
@[simp] theorem itemsD_lst : itemsD (.lst o xs) = some (D.frzs xs) := rfl
@[simp] theorem itemsD_tup : itemsD (.tup xs) = some (D.frzs xs) := rfl
@[simp] theorem intsD_map' {l : List Int} : intsD (l.map D.int) = some l := by
  induction l with
  | nil => rfl
  | cons a l ih => simp [intsD, ih]
@[simp] theorem intsD_cons : intsD (.int a :: xs) = (intsD xs).map (a :: ·) := rfl
@[simp] theorem intsD_nil : intsD [] = some [] := rfl
@[simp] theorem boolsD_map' {l : List Bool} : boolsD (l.map D.bl) = some l := by
  induction l with
  | nil => rfl
  | cons a l ih => simp [boolsD, ih]
@[simp] theorem sumD_lst : sumD [.lst o xs] = (intsD xs).map fun ns => .int ns.sum := rfl
@[simp] theorem allD_lst : allD [.lst o xs] = (boolsD xs).map fun ns => .bl (ns.all id) := rfl
@[simp] theorem anyD_lst : anyD [.lst o xs] = (boolsD xs).map fun ns => .bl (ns.any id) := rfl
@[simp] theorem ixD_lst : ixD (.lst o xs) (.int a) = atI (D.frzs xs) a := rfl
@[simp] theorem ixD_tup : ixD (.tup xs) (.int a) = atI (D.frzs xs) a := rfl
@[simp] theorem ixO_tup : ixO (.tup xs) (.int a) = (atI (D.frzs xs) a).map fun x => (x, .tup (D.frzs xs)) := rfl
@[simp] theorem ixO_lf : ixO (.lst false xs) (.int a) = (atI xs a).map fun x => (x, .lst false xs) := rfl
@[simp] theorem ixO_lo : ixO (.lst true xs) (.int a) = (atI xs a).bind fun x => if x.imm = true then some (x, .lst true xs) else (atI (D.frzs xs) a).map fun y => (y, .lst false (D.frzs xs)) := by
  have e : ixO (.lst true xs) (.int a) = match atI xs a with
    | some x => if x.imm = true then some (x, .lst true xs) else (atI (D.frzs xs) a).map fun y => (y, .lst false (D.frzs xs))
    | none => none := rfl
  rw [e]
  cases atI xs a <;> rfl
@[simp] theorem ixO_scr {ns : List Int} : ixO (.scr ns) (.int a) = (atI ns a).map fun x => (.int x, .scr ns) := rfl
theorem atI_nat {α : Type} {xs : List α} {k : Nat} : atI xs (k : Int) = xs[k]? := by
  unfold atI ixN
  by_cases h : k < xs.length
  · simp [h]
  · simp [h]
@[simp] theorem atI_0 {α : Type} {x : α} {xs : List α} : atI (x :: xs) 0 = some x := by
  have := atI_nat (xs := x :: xs) (k := 0); simpa using this
@[simp] theorem atI_1 {α : Type} {x y : α} {xs : List α} : atI (x :: y :: xs) 1 = some y := by
  have := atI_nat (xs := x :: y :: xs) (k := 1); simpa using this
@[simp] theorem atI_2 {α : Type} {x y z : α} {xs : List α} : atI (x :: y :: z :: xs) 2 = some z := by
  have := atI_nat (xs := x :: y :: z :: xs) (k := 2); simpa using this
@[simp] theorem ixN_32 : ixN 3 2 = some 2 := rfl
@[simp] theorem ixN_31 : ixN 3 1 = some 1 := rfl
@[simp] theorem ixN_30 : ixN 3 0 = some 0 := rfl
@[simp] theorem ixN_0 {n : Nat} : ixN (n + 1) 0 = some 0 := by simp [ixN]
@[simp] theorem seqVs_nil : seqVs [] = some ([], []) := rfl
@[simp] theorem seqVs_cons : seqVs (d :: ds) = (seqV d).bind fun p => (seqVs ds).map fun q => (p.1 :: q.1, p.2 :: q.2) := by
  rw [seqVs]
  cases seqV d <;> cases seqVs ds <;> rfl
@[simp] theorem seqV_tup : seqV (.tup xs) = some (D.frzs xs, .tup (D.frzs xs)) := rfl
@[simp] theorem seqV_lst : seqV (.lst o xs) = some (D.frzs xs, .lst o (D.frzs xs)) := rfl
@[simp] theorem lentA_nil : lentA [] ds = [] := by cases ds <;> rfl
@[simp] theorem lentA_v : lentA (.inl d :: r) (n :: ds) = lentA r ds := rfl
@[simp] theorem lentA_s : lentA (.inr i :: r) (d :: ds) = (i, d) :: lentA r ds := rfl
@[simp] theorem comb1_one : comb1 [xs] = some xs := rfl
@[simp] theorem zip2D_two {s : Bool} : zip2D s [xs, ys] = if (s && xs.length != ys.length) = false then some (List.zipWith (fun x y => .tup [x, y]) xs ys) else none := by
  unfold zip2D
  cases h : (s && xs.length != ys.length) <;> simp_all
@[simp] theorem wipeS_nil : wipeS S [] = S := rfl
@[simp] theorem wipeS_cons {v : Nat} {vs : List Nat} : wipeS S (v :: vs) = (wipeS S vs).set v .un := rfl
@[simp] theorem backS_nil {A : S0} : backS A S [] = S := rfl
@[simp] theorem backS_cons {A : S0} {v : Nat} {vs : List Nat} : backS A S (v :: vs) = backS A (S.set v (A.getD v .un)) vs := rfl
@[simp] theorem restS_nil : restS [] S = S := rfl
@[simp] theorem restS_cons {l : List (Nat × D)} {x : Nat × D} : restS (x :: l) S = restS l (S.set x.1 x.2) := rfl
@[simp] theorem maskM_nil : maskM [] S = [] := by cases S <;> rfl
@[simp] theorem maskM_cons {b : Bool} {bs : List Bool} : maskM (b :: bs) (d :: S) = (if b = true then d else .un) :: maskM bs S := rfl
@[simp] theorem sliceD_lst {lo hi : Option Int} : sliceD (.lst o xs) lo hi = some (.lst true (cutD xs lo hi)) := rfl
@[simp] theorem sliceD_tup {lo hi : Option Int} : sliceD (.tup xs) lo hi = some (.tup (cutD xs lo hi)) := rfl
@[simp] theorem sliceD_scr {ns : List Int} {lo hi : Option Int} : sliceD (.scr ns) lo hi = some (.lst true (cutD (ns.map .int) lo hi)) := rfl
@[simp] theorem pick_nil' {α : Type} {x : α} {zs : List α} : pick x [] zs = [] := rfl
@[simp] theorem pick_cons' {α : Type} {x : α} {zs : List α} {k : Nat} {ks : List Nat} : pick x (k :: ks) zs = zs.getD k x :: pick x ks zs := rfl
end
end WF
namespace WF
open PySem L2
@[simp] theorem gx0 {α : Type} {x : α} {xs : List α} : (x :: xs)[0]? = some x := rfl
@[simp] theorem gx1 {α : Type} {x : α} {xs : List α} {n : Nat} : (x :: xs)[n + 1]? = xs[n]? := rfl
theorem rd_ex {α : Type} {o : Option α} {P : α → Prop} : rd o P ↔ ∃ d, o = some d ∧ P d := by unfold rd; exact Iff.rfl
theorem wG.mono {g : GM} {d : D} {S : S0} {Q Q' : S0 → Prop} (h : wG g d S Q) (q : ∀ S, Q S → Q' S) : wG g d S Q' := by
  unfold wG at h ⊢
  have h : WF0.oG (g d S) Q := h
  show WF0.oG (g d S) Q'
  cases e : g d S with
  | none => rw [e] at h; exact h
  | some S' => rw [e] at h; exact q S' h
theorem loop_ind {g : GM} {body : SM} {Q : Fl → S0 → Prop} (I : List D → S0 → Prop)
    (step : ∀ d ds S, I (d :: ds) S → wG g d S fun S => wS body S fun fl S => match fl with
      | .nx => I ds S
      | .ct => I ds S
      | .bk => Q .nx S
      | fl => Q fl S) (fin : ∀ S, I [] S → Q .nx S) : ∀ {ds : List D} {S : S0}, I ds S → wS (loopM g body ds) S Q
  | [], S, h => wS_loop0.mpr (fin S h)
  | d :: ds, S, h => by
    rw [wS_loop1]
    refine wG.mono (step d ds S h) fun S q => wS.mono q fun fl S q => ?_
    cases fl with
    | nx => exact loop_ind I step fin q
    | ct => exact loop_ind I step fin q
    | bk => exact q
    | rt d => exact q
    | ex x => exact q
theorem comp_ind0 {own : List Nat} {g : GM} {fe : EM} {Q : List D → S0 → Prop} (I : List D → List D → S0 → Prop)
    (step : ∀ d ds acc S, I (d :: ds) acc S → wG g d S fun S => wE fe S fun y S => acc.length < 1000000 ∧ I ds (acc ++ [y]) (wipeS S own)) (fin : ∀ acc S, I [] acc S → Q acc S) : ∀ {ds acc : List D} {S : S0}, I ds acc S → wC own g none fe ds S acc Q
  | [], acc, S, h => wC_nil.mpr (fin acc S h)
  | d :: ds, acc, S, h => by
    rw [wC_cons0]
    exact wG.mono (step d ds acc S h) fun S q => wE.mono q fun y S ⟨q1, q2⟩ => ⟨q1, comp_ind0 I step fin q2⟩
theorem comp_ind1 {own : List Nat} {g : GM} {f fe : EM} {Q : List D → S0 → Prop} (I : List D → List D → S0 → Prop)
    (step : ∀ d ds acc S, I (d :: ds) acc S → wG g d S fun S => wE f S fun b S => rd (asB b) fun t => if t = true then (wE fe S fun y S => acc.length < 1000000 ∧ I ds (acc ++ [y]) (wipeS S own)) else I ds acc (wipeS S own)) (fin : ∀ acc S, I [] acc S → Q acc S) : ∀ {ds acc : List D} {S : S0}, I ds acc S → wC own g (some f) fe ds S acc Q
  | [], acc, S, h => wC_nil.mpr (fin acc S h)
  | d :: ds, acc, S, h => by
    rw [wC_cons1]
    refine wG.mono (step d ds acc S h) fun S q => wE.mono q fun b S q => ?_
    obtain ⟨t, e, q⟩ := rd_ex.mp q
    refine rd_ex.mpr ⟨t, e, ?_⟩
    cases t with
    | true => exact wE.mono q fun y S ⟨q1, q2⟩ => ⟨q1, comp_ind1 I step fin q2⟩
    | false => exact comp_ind1 I step fin q
end WF
namespace WF
open PySem PySem.Spec PyProof.Rows L2
section
variable {prog : Program} {w : World} {A : Around} {E : Value → Shared → Prop} {s : Shared} {i : Nat} {z TI TO : Addr} {qs : List Sr} {old : Array Value} {strict f1 : Bool} {f0 : Value}
end
end WF
namespace WF
open PySem PySem.Spec PyProof.Rows L2
section
variable {prog : Program} {w : World} {A : Around} {E : Value → Shared → Prop} {s : Shared} {i : Nat} {e z TI TO : Addr} {qs : List Sr} {ol : Array Value} {strict f1 : Bool} {f0 old : Value}
end
end WF
namespace WF
open PySem PySem.Spec PyProof.Rows L2
section
variable {prog : Program} {w : World} {A : Around} {E : Value → Shared → Prop} {s : Shared}
end
end WF
namespace WF
open PySem PySem.Spec PyProof.Rows L2
section
variable {X : Cx} {pins : List (Addr × Obj)} {σ : L2.St} {H : Hp} {s : Shared}
variable {e : Expr} {es : List Expr} {p pos p2 pos2 tpos kpos cpos : Pos} {elts : List Expr} {kk j : Nat} {ta : TA}
end
end WF
namespace WF
open PySem PySem.Spec PyProof.Rows L2
def numD (R : List D) : List D := R.zipIdx.map fun p => .tup [.int (p.2 : Nat), p.1]
def enumZD (xss : List (List D)) : Option (List D) := (zip2D true xss).map numD
section
variable {K : PySem.W.Frag} {H : Hp} {ds : List D} {xss : List (List D)} {vs : List V} {Rr : List D}
end
section
variable {c : Cfg} {X : Cx} {p pos p2 pos2 tpos kpos cpos : Pos} {elts : List Expr} {kk j : Nat} {e1 e2 : Expr} {y1 y2 : Ar}
end
end WF
namespace WF
open PySem PySem.Spec PyProof.Rows L2
def frzM (fe : EM) : EM := bindM fe fun d => retM d.frz
theorem w_frz {c : Cfg} {X : Cx} {e : Expr} {fe : EM} (h : PE X e (T c fe)) : PE X e (T c (frzM fe)) := by
  refine pe_mono h fun σ H Q h => ?_
  obtain ⟨S, tm, j, p⟩ := h
  refine (post_bind j p).mono fun v H1 ⟨d, S1, j1, p1⟩ => ?_
  exact p1 v H1 (j1.put j1.take.freeze.drop)
@[simp] theorem wE_frz {fe : EM} {S : S0} {Q : D → S0 → Prop} : wE (frzM fe) S Q ↔ wE fe S fun d S => Q d.frz S := by
  rw [frzM, wE_bind]
  exact ⟨fun h => h.mono fun d S q => wE_ret.mp q, fun h => h.mono fun d S q => wE_ret.mpr q⟩
end WF
namespace WF
open PySem PySem.Spec PyProof.Rows L2
section
variable {K : PySem.W.Frag} {H H' : Hp} {L L' R : List Pr} {p : Addr} {ds ds' : List D} {vs vs' : List V}
theorem JX.close0 (hl : vs'.length = ds'.length) (hp : H p = some (.lst vs')) (j : JX K H p (vs'.zip ds' ++ R)) : Joint K H ((.ref p, .lst true ds') :: R) := by
  obtain ⟨G, fp, g, r, n, z, gp, np⟩ := j
  obtain ⟨f1, f2, rfl, r1, r2⟩ := r.unappend
  exact ⟨G, p :: (f1 ++ f2), g, .lo hp (zip_fst hl) (zip_snd hl) r1 r2, List.nodup_cons.mpr ⟨np, n⟩, fun a m => by
    rcases List.mem_cons.mp m with rfl | m
    · exact gp
    · exact z a m⟩
theorem JX.app2 {v0 v : V} {d : D} {ys : List D} (j : JX K H p ((v0, .lst true ys) :: (v, d) :: R)) : ∃ u us, v0 = .ref u ∧ H u = some (.lst us) ∧ us.length = ys.length ∧ u ≠ p ∧ JX K (L2.upd H u (.lst (us ++ [v]))) p ((.ref u, .lst true (ys ++ [d])) :: R) := by
  obtain ⟨G, fp, g, r, n, z, gp, np⟩ := j
  cases r with
  | @lo u C us ys f L fp2 a b e r1 r2 =>
    subst b e
    obtain ⟨f3, f4, rfl, r3, r4⟩ := r2.uncons
    obtain ⟨n1, n2⟩ := List.nodup_cons.mp n
    have gu : G u = none := z u List.mem_cons_self
    have hne : u ≠ p := fun q => np (by rw [← q]; exact List.mem_cons_self)
    have g' : GSub G (L2.upd H u (.lst (C.map Prod.fst ++ [v]))) := fun a o e => by
      rw [upd_ne (ne_of_none e gu)]
      exact g a o e
    have mv : ∀ {L : List Pr} {f : List Addr}, Reps K G H L f → u ∉ f → Reps K G (L2.upd H u (.lst (C.map Prod.fst ++ [v]))) L f := fun r h => r.mono .refl fun a o m e => by
      rw [upd_ne (fun q => h (by rw [← q]; exact m))]
      exact e
    have m1 : u ∉ f := fun q => n1 (List.mem_append_left _ q)
    have m3 : u ∉ f3 := fun q => n1 (List.mem_append_right _ (List.mem_append_left _ q))
    have m4 : u ∉ f4 := fun q => n1 (List.mem_append_right _ (List.mem_append_right _ q))
    have r13 : Reps K G (L2.upd H u (.lst (C.map Prod.fst ++ [v]))) (C ++ [(v, d)]) (f ++ f3) := (mv r1 m1).append (mv r3 m3)
    refine ⟨u, _, rfl, a, by simp, hne, G, u :: ((f ++ f3) ++ f4), g', .lo upd_same (by simp) (by simp) r13 (mv r4 m4), ?_, ?_, gp, ?_⟩
    · rw [List.append_assoc]; exact n
    · rw [List.append_assoc]; exact z
    · rw [List.append_assoc]; exact np
theorem zip_at : ∀ {vs : List V} {ds : List D} {m : Nat} {v : V} {d : D}, vs[m]? = some v → ds[m]? = some d → vs.length = ds.length → ∃ Z, (vs.zip ds).Perm ((v, d) :: Z) ∧ ∀ d', (vs.zip (ds.set m d')).Perm ((v, d') :: Z)
  | u :: vs, x :: ds, 0, v, d, h1, h2, _ => by
    cases h1; cases h2
    exact ⟨vs.zip ds, .refl _, fun _ => .refl _⟩
  | u :: vs, x :: ds, m + 1, v, d, h1, h2, h => by
    obtain ⟨Z, p1, p2⟩ := zip_at (vs := vs) (ds := ds) (m := m) (by simpa using h1) (by simpa using h2) (by simpa using h)
    exact ⟨(u, x) :: Z, (List.Perm.cons _ p1).trans (List.Perm.swap _ _ _), fun d' => (List.Perm.cons _ (p2 d')).trans (List.Perm.swap _ _ _)⟩
  | [], _, _, _, _, h, _, _ => by simp at h
  | _ :: _, [], _, _, _, _, h, _ => by simp at h
end
def prM (f : S0 → Option (D × S0)) : EM := fun S => (f S).map fun p => (.ok p.1, p.2)
@[simp] theorem wE_pr {f : S0 → Option (D × S0)} {S : S0} {Q : D → S0 → Prop} : wE (prM f) S Q ↔ rd (f S) fun p => Q p.1 p.2 := by
  unfold wE rd
  show WF0.oE (prM f S) Q ↔ _
  unfold prM
  cases h : f S with
  | none => simp [WF0.oE, WF0.rd]
  | some p => simp [WF0.oE, WF0.rd]
theorem post_pr {c : Cfg} {f : S0 → Option (D × S0)} {S : S0} {tm : List Pr} {σ : L2.St} {Q : VK} (p : post c (prM f S) tm σ Q) : ∃ r, f S = some r ∧ ∀ v H, SJ c r.2 ((v, r.1) :: tm) σ H → Q v H := by
  unfold prM at p
  cases h : f S with
  | none => rw [h] at p; exact p.elim
  | some r => rw [h] at p; exact ⟨r, rfl, p⟩
def app2K (i j : Nat) (kd : D) : EM := prM fun S => (asI kd).bind fun k => (S[i]?.bind asO).bind fun xs => S[j]?.bind fun d => (ixN xs.length k).bind fun m => (xs[m]?.bind asO).bind fun ys =>
  if i ≠ j ∧ isUn d = false ∧ ys.length < 1000000 then some (.non, (S.set j d.frz).set i (.lst true (xs.set m (.lst true (ys ++ [d.frz]))))) else none
def app2M (i : Nat) (fb : EM) (j : Nat) : EM := lstS i (bindM fb (app2K i j))
section
variable {c : Cfg} {X : Cx} {S : S0} {tm tm0 : List Pr} {σ : L2.St} {H : Hp} {i j : Nat} {a b e o : Expr} {fa fb fe : EM} {pos apos : Pos}
theorem t_app2 (hK : c.K = X.K) {Q : VK} (h : T c (app2M i fb j) σ H Q) : tBM X.K "list" rAppend (tOp (rIx X.K) (tVar i) (T c fb)) (tCons (tVar j) tNil) σ H Q := by
  obtain ⟨S, tm, jj, p⟩ := h
  obtain ⟨q, vs0, ev, hp0, p⟩ := lst_get jj p
  refine ⟨_, ev, (post_bind jj p).mono fun kv H1 ⟨kd, S1, j1, p1⟩ => ?_⟩
  obtain ⟨r, hr, p1⟩ := post_pr p1
  simp only [Option.bind_eq_some_iff] at hr
  obtain ⟨k, hk, xs, ⟨x, hdi, hx⟩, d, hdj, m, hm, ys, ⟨y, hys, hy⟩, hr⟩ := hr
  rw [WF0.asI_is] at hk
  rw [WF0.asO_is] at hx hy
  subst hk hx hy
  split at hr
  case isFalse => cases hr
  rename_i hc
  cases hr
  obtain ⟨hij, hud, hlt⟩ := hc
  have ek := j1.take.is_int
  obtain ⟨w, ew, Z0, k0, put0⟩ := (j1.drop).get hdj hud
  have j2 : SJ c (S1.set j d.frz) ((w, d.frz) :: tm) σ H1 := put0 d.frz [(w, d.frz)] H1 k0.freeze
  have hdi2 : (S1.set j d.frz)[i]? = some (.lst true xs) := by rw [List.getElem?_set_ne (fun e => hij e.symm)]; exact hdi
  obtain ⟨v', ev', Z, k2, put⟩ := j2.get2 hdi2 rfl
  have e0 : v' = .ref q := by rw [ev] at ev'; exact (Option.some.inj (Option.some.inj ev')).symm
  subst e0
  obtain ⟨vs, hq, hl, kx⟩ := k2.sw.openL
  have hml : m < xs.length := (List.getElem?_eq_some_iff.mp hys).1
  have hvm : vs[m]? = some vs[m] := List.getElem?_eq_getElem (by omega)
  obtain ⟨Z', z1, z2⟩ := zip_at hvm hys hl
  have kx1 := kx.perm (List.Perm.append_right _ z1)
  have kx2 : JX c.K H1 q ((vs[m], .lst true ys) :: (w, d.frz) :: (Z' ++ Z)) := kx1.perm (List.Perm.cons _ perm_take)
  obtain ⟨u, us, eu, hu, hul, hne, kx3⟩ := kx2.app2
  have hat : atI vs k = some (.ref u) := by
    unfold atI
    rw [hl, hm]
    show vs[m]? = _
    rw [hvm, eu]
  refine .inl ⟨q, vs, k, .ref u, rfl, ek, .inl (.inl hq), hat, .inl ⟨rfl, us, .inl (.inl hu)⟩, w, ew, u, us, w, rfl, rfl, hu, Nat.lt_trans (by omega : us.length < 1000000) (by decide), p1 .non _ ?_⟩
  have hq' : (upd H1 u (.lst (us ++ [w]))) q = some (.lst vs) := by rw [upd_ne (fun e => hne e.symm)]; exact hq
  have zz := (z2 (.lst true (ys ++ [d.frz])))
  rw [eu] at zz
  have k4 : Joint c.K (upd H1 u (.lst (us ++ [w]))) ((.ref q, .lst true (xs.set m (.lst true (ys ++ [d.frz])))) :: Z) :=
    JX.close0 (by simp [hl]) hq' (kx3.perm (List.Perm.append_right Z zz.symm))
  exact put _ [(.non, .non)] _ (ju_non k4).sw
@[simp] theorem wE_app2 {Q : D → S0 → Prop} : wE (app2M i fb j) S Q ↔ rd (S[i]?.bind asL) fun _ => wE fb S fun kd S => wE (app2K i j kd) S Q := by
  have e : wE (app2M i fb j) S Q ↔ rd (S[i]?.bind asL) fun _ => wE (bindM fb (app2K i j)) S Q := by
    unfold wE rd
    show WF0.oE (app2M i fb j S) Q ↔ WF0.rd _ (fun _ => WF0.oE (bindM fb (app2K i j) S) Q)
    unfold app2M lstS
    cases h : S[i]? with
    | none => simp [WF0.oE, WF0.rd]
    | some d => cases d <;> simp [WF0.oE, WF0.rd, asL, WF0.asL]
  rw [e]
  refine ⟨fun h => ?_, fun h => ?_⟩
  · obtain ⟨x, h1, h2⟩ := rd_ex.mp h
    exact rd_ex.mpr ⟨x, h1, wE_bind.mp h2⟩
  · obtain ⟨x, h1, h2⟩ := rd_ex.mp h
    exact rd_ex.mpr ⟨x, h1, wE_bind.mpr h2⟩
@[simp] theorem app2K_def {kd : D} {Q : D → S0 → Prop} : wE (app2K i j kd) S Q ↔ rd ((asI kd).bind fun k => (S[i]?.bind asO).bind fun xs => S[j]?.bind fun d => (ixN xs.length k).bind fun m => (xs[m]?.bind asO).bind fun ys =>
  if i ≠ j ∧ isUn d = false ∧ ys.length < 1000000 then some (.non, (S.set j d.frz).set i (.lst true (xs.set m (.lst true (ys ++ [d.frz]))))) else none) fun p => Q p.1 p.2 := wE_pr
theorem w_app2 (hK : c.K = X.K) (h : PE X e (tBM X.K "list" rAppend (tOp (rIx X.K) (tVar i) (T c fb)) (tCons (tVar j) tNil))) : PE X e (T c (app2M i fb j)) := pe_mono h fun _ _ _ h => t_app2 hK h
end
end WF
namespace WF
open PySem PySem.Spec PyProof.Rows L2 RT
section
variable {K : PySem.W.Frag} {H : Hp} {R L : List Pr} {p : Addr} {vs : List V} {ds : List D}
end
section
variable {c : Cfg} {X : Cx} {S : S0} {tm tm0 : List Pr} {σ : L2.St} {H : Hp} {fe : EM} {e tg : Expr} {p pos : Pos}
def revI (fe : EM) : IM := bindI fe fun d => optI ((itemsD d).map List.reverse)
@[simp] theorem wI_rev {QI : List D → List (Nat × D) → S0 → Prop} : wI (revI fe) S QI ↔ wE fe S fun d S => rd (itemsD d) fun ds => QI ds.reverse [] S := by
  unfold wI wE rd
  show WF0.oI (revI fe S) QI ↔ WF0.oE (fe S) (fun d S => WF0.rd (itemsD d) fun ds => QI ds.reverse [] S)
  unfold revI bindI
  match fe S with
  | none => simp [WF0.oI, WF0.oE]
  | some (.ex _, _) => simp [WF0.oI, WF0.oE]
  | some (.ok d, S1) =>
    simp only [WF0.oE, optI]
    cases h : itemsD d with
    | none => simp [WF0.oI, WF0.rd]
    | some ds => simp [WF0.oI, WF0.rd]
@[simp] theorem enumZD_two {xs ys : List D} : enumZD [xs, ys] = if xs.length = ys.length then some (numD (List.zipWith (fun x y => .tup [x, y]) xs ys)) else none := by
  unfold enumZD
  by_cases h : xs.length = ys.length <;> simp [h]
end
@[simp] theorem wS_aug {i : Nat} {op : D → D → Option D} {fe : EM} {S : S0} {QS : Fl → S0 → Prop} : wS (augM i op fe) S QS ↔ rd (S[i]?.bind asI) fun n => wE fe S fun d S1 => rd (op (.int n) d) fun r => i < S1.length ∧ QS .nx (S1.set i r) := by
  unfold wS wE rd
  show WF0.oS (augM i op fe S) QS ↔ WF0.rd (S[i]?.bind asI) (fun n => WF0.oE (fe S) fun d S1 => WF0.rd (op (.int n) d) fun r => i < S1.length ∧ QS .nx (S1.set i r))
  unfold augM
  cases h : S[i]? with
  | none => simp [WF0.oS, WF0.rd]
  | some d =>
    cases d with
    | int n =>
      simp only [WF0.rd, Option.bind_some, asI, WF0.asI_int, Option.some.injEq, exists_eq_left']
      unfold bindS
      match fe S with
      | none => simp [WF0.oS, WF0.oE]
      | some (.ex _, _) => simp [WF0.oS, WF0.oE]
      | some (.ok d, S1) =>
        simp only [WF0.oE]
        cases h2 : op (.int n) d with
        | none => simp [WF0.oS]
        | some r =>
          by_cases h3 : i < S1.length
          · simp [h3, WF0.oS]
          · simp [h3, WF0.oS]
    | _ => simp [WF0.oS, WF0.rd, asI, WF0.asI]
def isBD (neg : Bool) (a b : D) : Option D := match a, b with
  | .bl a, .bl b => some (.bl (neg != decide (a = b)))
  | _, _ => none
@[simp] theorem isBD_bl {n a b : Bool} : isBD n (.bl a) (.bl b) = some (.bl (n != decide (a = b))) := rfl
end WF
namespace WF
open PySem PySem.Spec PyProof.Rows L2
open Classical in
section
variable {c : Cfg} {X : Cx} {S : S0} {σ : L2.St} {H : Hp} {fc : EM} {f : SM} {sts : List Stmt} {ce : Expr} {pos : Pos}
end
end WF
namespace WF
open PySem PySem.Spec PyProof.Rows L2 RT
section
variable {P : Program} {w : World} {A : Around} {E : Value → Shared → Prop} {s : Shared}
end
section
variable {X : Cx}
end
section
variable {c : Cfg} {X : Cx} {e : Expr} {fe : EM} {p p2 q pos : Pos}
theorem zip_rev {α β : Type} {us : List α} {xs : List β} (h : us.length = xs.length) : (us.zip xs).reverse = us.reverse.zip xs.reverse := List.reverse_zipWith h
def revlD : D → Option D
  | .lst _ xs => some (.lst true xs.reverse)
  | _ => none
def revlM (fe : EM) : EM := bindM fe fun d => optM (revlD d)
theorem w_revl {k : Nat} {p1 p2 p3 pos : Pos} (hK : c.K = X.K) (he : PE X e (T c fe)) : PE X (.Subscript e (.Slice none none (some (.UnaryOp .USub (.Constant (.int 1) k p1) p2)) p3) pos) (T c (revlM fe)) :=
  pe_mono (pe_revL he) fun σ H Q h => by
    obtain ⟨S, tm, j, p⟩ := h
    refine (post_bind (fa := fe) j p).mono fun v H1 ⟨d, S1, j1, p1⟩ => ?_
    obtain ⟨d2, e, qq⟩ := post_opt p1
    match d, e with
    | .lst o xs, e =>
      cases e
      have j2 : Joint c.K H1 ((v, .lst o xs) :: (slotL σ S1 ++ (tm ++ c.rs))) := j1.take
      obtain ⟨l, rfl⟩ := j2.is_lst
      obtain ⟨us, hu, hl, k⟩ := j2.unlst
      refine ⟨l, us, rfl, hK ▸ .inl (.inl hu), fun p3 hp => qq _ _ (j1.put (Joint.lst (by simpa using hl) (k.perm (List.Perm.append_right _ ?_)) hp))⟩
      have := List.reverse_perm (us.zip xs)
      rw [zip_rev hl] at this
      exact this.symm
end
@[simp] theorem wE_revl {fe : EM} {S : S0} {Q : D → S0 → Prop} : wE (revlM fe) S Q ↔ wE fe S fun d S => wE (optM (revlD d)) S Q := by
  rw [revlM, wE_bind]
@[simp] theorem revlD_lst {o : Bool} {xs : List D} : revlD (.lst o xs) = some (.lst true xs.reverse) := rfl
end WF
namespace WF
open PySem PySem.Spec PyProof.Rows L2 RT
def callVM (i : Nat) (tbl : List (Addr × Fn)) (as : List Ar) : EM := fun S => match S[i]? with
  | some (.vl (.ref a)) => (match tbl.lookup a with
    | some m => callM m as S
    | none => none)
  | _ => none
section
variable {c : Cfg} {X : Cx} {n i : Nat} {tbl : List (Addr × Fn)} {x : Str} {p pos : Pos} {e : Expr} {es : List Expr} {as : List Ar}
structure DefAt (X : Cx) (c : Cfg) (n : Nat) (a : Addr) (m : Fn) : Prop where
  ex : ∃ (k : Nat) (fd : FuncData) (ps : List Str), FnOk X.prog X.w X.K X.mg X.base (L2.CX X.prog X.w) k a fd ps (spOf c.K n m) ∧ Room k X.A ∧ PySem.W.keepIn X.K (.ref a) = true ∧ Binds X.K fd ps []
end
@[simp] theorem wE_callV {i : Nat} {tbl : List (Addr × Fn)} {as : List Ar} {S : S0} {Q : D → S0 → Prop} : wE (callVM i tbl as) S Q ↔ (match S[i]? with
    | some (.vl (.ref a)) => (match tbl.lookup a with
      | some m => wE (callM m as) S Q
      | none => False)
    | _ => False) := by
  unfold wE
  show WF0.oE (callVM i tbl as S) Q ↔ _
  unfold callVM
  split
  · split
    · exact Iff.rfl
    · exact Iff.rfl
  · exact Iff.rfl
end WF
namespace WF
open PySem PySem.Spec PyProof.Rows L2
def ltL : List Int → List Int → Bool
  | [], [] => false
  | [], _ :: _ => true
  | _ :: _, [] => false
  | a :: as, b :: bs => if a = b then ltL as bs else decide (a < b)
theorem ltL_asym : ∀ x y : List Int, ltL x y = true → ltL y x = false
  | [], [], h => by simp [ltL] at h
  | [], _ :: _, _ => rfl
  | _ :: _, [], h => by simp [ltL] at h
  | a :: as, b :: bs, h => by
    unfold ltL at h ⊢
    by_cases e : a = b
    · rw [if_pos e] at h; rw [if_pos e.symm]; exact ltL_asym as bs h
    · rw [if_neg e] at h; rw [if_neg (Ne.symm e)]; simp at h ⊢; omega
theorem ltL_tr : ∀ x y z : List Int, ltL y x = false → ltL z y = false → ltL z x = false
  | [], [], z, _, h => h
  | [], _ :: _, [], _, h => by simp [ltL] at h
  | [], _ :: _, _ :: _, _, _ => rfl
  | _ :: _, [], _, h, _ => by simp [ltL] at h
  | _ :: _, _ :: _, [], _, h => by simp [ltL] at h
  | a :: as, b :: bs, c :: cs, h, h' => by
    unfold ltL at h h' ⊢
    by_cases e1 : b = a
    · subst e1
      rw [if_pos rfl] at h
      by_cases e2 : c = b
      · rw [if_pos e2] at h' ⊢; exact ltL_tr as bs cs h h'
      · rw [if_neg e2] at h' ⊢; exact h'
    · rw [if_neg e1] at h
      by_cases e2 : c = b
      · subst e2
        rw [if_neg e1]; exact h
      · rw [if_neg e2] at h'
        simp at h h'
        rw [if_neg (by omega)]
        simp; omega
theorem ltL_anti : ∀ x y : List Int, ltL x y = false → ltL y x = false → x = y
  | [], [], _, _ => rfl
  | [], _ :: _, h, _ => by simp [ltL] at h
  | _ :: _, [], _, h => by simp [ltL] at h
  | a :: as, b :: bs, h, h' => by
    unfold ltL at h h'
    by_cases e : a = b
    · rw [if_pos e] at h; rw [if_pos e.symm] at h'; rw [e, ltL_anti as bs h h']
    · rw [if_neg e] at h; rw [if_neg (Ne.symm e)] at h'; simp at h h'; omega
section
variable {prog : Program} {w : World} {A : Around} {E : Value → Shared → Prop} {s : Shared} {Q : Bool → Shared → Prop}
end
def tpsD : List D → Option (List (List Int))
  | [] => some []
  | .tup xs :: r => match intsD xs, tpsD r with
    | some (n :: ns), some l => some ((n :: ns) :: l)
    | _, _ => none
  | _ => none
def leL (a b : List Int) : Bool := !ltL b a
def sortT (ps : List (List Int)) : List (List Int) := ps.mergeSort leL
def sortTD : List D → Option D
  | [.lst _ xs] => (tpsD xs).map fun ps => .lst true ((sortT ps).map fun ns => .tup (ns.map .int))
  | _ => none
theorem leL_tot (a b : List Int) : (leL a b || leL b a) = true := by
  unfold leL
  cases h : ltL b a with
  | false => rfl
  | true => rw [ltL_asym _ _ h]; rfl
theorem sortT_is {ns ms : List (List Int)} (p : ms.Perm ns) (h : ms.Pairwise (fun a b => leL a b = true)) : ms = sortT ns := by
  have h2 : (sortT ns).Pairwise (fun a b => leL a b = true) := List.pairwise_mergeSort (fun a b c h h' => by
    simp only [leL, Bool.not_eq_true'] at *
    exact ltL_tr _ _ _ h h') leL_tot ns
  exact List.Perm.eq_of_pairwise (fun a b _ _ h h' => by
    simp only [leL, Bool.not_eq_true'] at h h'
    exact ltL_anti _ _ h' h) h h2 (p.trans (List.mergeSort_perm ns _).symm)
def tpD (ns : List Int) : D := .tup (ns.map .int)
section
variable {K : PySem.W.Frag} {H : Hp} {R : List Pr}
end
theorem ext0 {i : Nat} {fe : EM} {S : S0} {Q : D → S0 → Prop} : WF0.wE (extM i fe) S Q ↔ WF0.rd (S[i]?.bind asL) fun _ => WF0.wE fe S fun d S => WF0.rd (asL d) fun ys => WF0.rd (S[i]?.bind asO) fun xs => xs.length + ys.length < 1000000 ∧ Q .non (S.set i (.lst true (xs ++ ys))) := by
  simp only [WF0.wE, extM, lstS]
  cases h : S[i]? with
  | none => simp [WF0.oE, WF0.rd]
  | some d =>
    cases d with
    | lst o xs =>
      simp [WF0.asL, bindM]
      cases hf : fe S with
      | none => simp [WF0.oE]
      | some r =>
        obtain ⟨r, S'⟩ := r
        cases r with
        | ex x => simp [WF0.oE]
        | ok d =>
          simp only [WF0.oE, modS]
          cases h2 : S'[i]? with
          | none => cases d <;> simp [WF0.rd]
          | some y =>
            cases y with
            | lst o2 zs =>
              cases o2
              · cases d <;> simp [WF0.rd, WF0.asO]
              · cases d with
                | lst o3 ys =>
                  by_cases hl : zs.length + ys.length < 1000000
                  · simp [WF0.rd, WF0.asO, WF0.asL, hl]
                  · simp [WF0.rd, WF0.asO, WF0.asL, hl]
                | _ => simp [WF0.rd, WF0.asL]
            | _ => cases d <;> simp [WF0.rd, WF0.asO]
    | _ => simp [WF0.oE, WF0.rd, WF0.asL]
@[simp] theorem wE_ext {i : Nat} {fe : EM} {S : S0} {Q : D → S0 → Prop} : wE (extM i fe) S Q ↔ rd (S[i]?.bind asL) fun _ => wE fe S fun d S => rd (asL d) fun ys => rd (S[i]?.bind asO) fun xs => xs.length + ys.length < 1000000 ∧ Q .non (S.set i (.lst true (xs ++ ys))) := by
  (try unfold wE); (try unfold rd)
  exact ext0
end WF
namespace WF
open PySem PySem.Spec PyProof.Rows L2
section
variable {prog : Program} {w : World} {A : Around} {E : Value → Shared → Prop} {s : Shared} {l : Addr} {its : List Value} {ns : List Int} {Q : Value → Shared → Prop}
end
def sumTD : List D → Option D
  | [.tup xs] => (intsD xs).map fun ns => .int ns.sum
  | _ => none
@[simp] theorem sumTD_tup {xs : List D} : sumTD [.tup xs] = (intsD xs).map fun ns => .int ns.sum := rfl
end WF
namespace WF
open PySem PySem.Spec PyProof.Rows L2
def keyK : D → Option Key
  | .int i => some (.inl i)
  | .str x => some (.inr x)
  | _ => none
def keysD : List D → Option (List Key)
  | [] => some []
  | d :: ds => (keyK d).bind fun k => (keysD ds).map (k :: ·)
def keyT : D → Option (List Key)
  | .tup ds => keysD ds
  | _ => none
section
variable {K : PySem.W.Frag} {H H' : Hp} {R : List Pr} {p : Addr}
theorem Joint.keyK {v : V} {d : D} {k : Key} (j : Joint K H ((v, d) :: R)) (h : keyK d = some k) : v = kV k := by
  cases d with
  | int i => simp [WF.keyK] at h; subst h; exact j.is_int
  | str i => simp [WF.keyK] at h; subst h; exact j.is_str
  | _ => simp [WF.keyK] at h
theorem Joint.keysD : ∀ {vs : List V} {ds : List D} {ks : List Key}, vs.length = ds.length → Joint K H (vs.zip ds ++ R) → keysD ds = some ks → vs = ks.map kV
  | [], [], ks, _, _, h => by simp [WF.keysD] at h; subst h; rfl
  | v :: vs, d :: ds, ks, hl, j, h => by
    simp [WF.keysD, Option.bind_eq_some_iff] at h
    obtain ⟨k, h1, ks', h2, rfl⟩ := h
    have j0 : Joint K H ((v, d) :: (vs.zip ds ++ R)) := j
    rw [j0.keyK h1, Joint.keysD (by simpa using hl) j0.drop h2]
    rfl
  | [], _ :: _, _, h, _, _ => by simp at h
  | _ :: _, [], _, h, _, _ => by simp at h
theorem Joint.keyT {v : V} {d : D} {ks : List Key} (j : Joint K H ((v, d) :: R)) (h : keyT d = some ks) : ∃ b, v = .ref b ∧ H b = some (.tup (ks.map kV)) := by
  cases d with
  | tup ds =>
    obtain ⟨b, rfl⟩ := j.is_tup
    obtain ⟨vs, e, hl, k⟩ := j.untup
    refine ⟨b, rfl, ?_⟩
    rw [e, Joint.keysD hl k h]
  | _ => simp [WF.keyT] at h
end
section
variable {κ α β : Type} [DecidableEq κ]
def lk : List κ → List α → κ → Option α
  | k :: ks, x :: xs, q => if k = q then some x else lk ks xs q
  | _, _, _ => none
def rp : List κ → List α → κ → α → List α
  | k :: ks, x :: xs, q, v => (if k = q then v else x) :: rp ks xs q v
  | _, xs, _, _ => xs
def pkK (ks : List κ) (q : κ) : List κ := if q ∈ ks then ks else ks ++ [q]
def pkV (ks : List κ) (xs : List α) (q : κ) (v : α) : List α := if q ∈ ks then rp ks xs q v else xs ++ [v]
def drK (ks : List κ) (q : κ) : List κ := ks.filter fun k => decide (k ≠ q)
def drV : List κ → List α → κ → List α
  | k :: ks, x :: xs, q => if k = q then drV ks xs q else x :: drV ks xs q
  | _, _, _ => []
end
section
variable {K : PySem.W.Frag} {H H' : Hp} {R : List Pr} {p : Addr} {ds ds' : List D} {vs vs' : List V}
theorem Reps.some {G : Hp} {C C' : List Pr} (r : Reps K G H C []) (h : ∀ x ∈ C', x ∈ C) : Reps K G H C' [] := by
  induction C' with
  | nil => exact .nil
  | cons x C' ih =>
    obtain ⟨n, hn, e⟩ := List.getElem_of_mem (h x List.mem_cons_self)
    have q := reps_get r (List.getElem?_eq_some_iff.mpr ⟨hn, e⟩)
    exact Reps.append (L := [x]) (fp := []) q (ih fun y hy => h y (List.mem_cons_of_mem _ hy))
theorem JX.pick {C C' : List Pr} (j : JX K H p (C ++ R)) (hf : ∀ x ∈ C, x.2.frz = x.2) (hs : ∀ x ∈ C', x ∈ C) : JX K H p (C' ++ R) := by
  obtain ⟨G, fp, g, r, n, z, gp, np⟩ := j
  obtain ⟨f1, f2, rfl, r1, r2⟩ := r.unappend
  have e := r1.pure hf
  subst e
  exact ⟨G, f2, g, Reps.append (fp := []) (r1.some hs) r2, n, z, gp, np⟩
end
end WF
namespace WF
open PySem PySem.Spec PyProof.Rows L2
def dGetD : D → D → Option (Option D)
  | .dtk _ ks xs, k => if D.imms xs = true then (keyT k).map fun q => lk ks xs q else none
  | .dic _ ks xs, k => if D.imms xs = true then (keyK k).map fun q => lk ks xs q else none
  | _, _ => none
def dPutD : D → D → D → Option D
  | .dtk true ks xs, k, v => if D.imms xs = true ∧ v.imm = true ∧ ks.length < 1000000 then (keyT k).map fun q => .dtk true (pkK ks q) (pkV ks xs q v) else none
  | .dic true ks xs, k, v => if D.imms xs = true ∧ v.imm = true ∧ ks.length < 1000000 then (keyK k).map fun q => .dic true (pkK ks q) (pkV ks xs q v) else none
  | _, _, _ => none
def isDic : D → Bool
  | .dtk _ _ _ => true
  | .dic _ _ _ => true
  | _ => false
section
variable {K : PySem.W.Frag} {H H' : Hp} {R : List Pr} {v kv : V} {d k : D}
theorem Joint.is_dtk {o : Bool} {ks : List (List Key)} {xs : List D} (j : Joint K H ((v, .dtk o ks xs) :: R)) : ∃ a kvs, v = .ref a ∧ H a = some (.dT kvs) := by
  obtain ⟨G, fp, g, r, n, z⟩ := j
  cases r with
  | tf a e b c r1 r2 => exact ⟨_, _, rfl, g _ _ a⟩
  | to a e b c r1 r2 => exact ⟨_, _, rfl, a⟩
theorem Joint.is_dic {o : Bool} {ks : List Key} {xs : List D} (j : Joint K H ((v, .dic o ks xs) :: R)) : ∃ a kvs, v = .ref a ∧ H a = some (.dK kvs) := by
  obtain ⟨G, fp, g, r, n, z⟩ := j
  cases r with
  | kf a e b c r1 r2 => exact ⟨_, _, rfl, g _ _ a⟩
  | ko a e b c r1 r2 => exact ⟨_, _, rfl, a⟩
theorem Joint.isD (j : Joint K H ((v, d) :: R)) (h : isDic d = true) : ∃ a, v = .ref a ∧ IsD H a := by
  cases d with
  | dtk o ks xs =>
    obtain ⟨a, kvs, e, h⟩ := j.is_dtk
    exact ⟨a, e, .inr ⟨kvs, .inl h⟩⟩
  | dic o ks xs =>
    obtain ⟨a, kvs, e, h⟩ := j.is_dic
    exact ⟨a, e, .inl ⟨kvs, .inl h⟩⟩
  | _ => cases h
end
def dicS (i : Nat) (f : EM) : EM := fun S => match S[i]? with
  | some d => if isDic d = true then f S else none
  | none => none
def dicSS (i : Nat) (f : SM) : SM := fun S => match S[i]? with
  | some d => if isDic d = true then f S else none
  | none => none
def prS (f : S0 → Option S0) : SM := fun S => (f S).map fun S' => (.nx, S')
def dgetK (i : Nat) (k : D) : EM := prM fun S => S[i]?.bind fun d => (dGetD d k).bind fun o => o.map fun x => (x, S)
def dgetM (i : Nat) (fk : EM) : EM := dicS i (bindM fk (dgetK i))
def dinK (neg : Bool) (i : Nat) (k : D) : EM := prM fun S => S[i]?.bind fun d => (dGetD d k).map fun o => (.bl (if neg = true then !o.isSome else o.isSome), S)
def dinM (neg : Bool) (i : Nat) (fk : EM) : EM := bindM fk fun k => dicS i (dinK neg i k)
def dget2K (i : Nat) (k x : D) : EM := prM fun S => S[i]?.bind fun d => (dGetD d k).map fun o => (o.getD x, S)
def dget2M (i : Nat) (fk fx : EM) : EM := dicS i (bindM fk fun k => bindM fx fun x => dget2K i k x)
def dputK (i : Nat) (v k : D) : SM := prS fun S => (S[i]?.bind fun d => dPutD d k v).map fun d' => S.set i d'
def dputM (i : Nat) (fk fv : EM) : SM := bindS fv fun v => dicSS i (bindS fk (dputK i v))
def daugM (i : Nat) (fk : EM) (op : D → D → Option D) (fv : EM) : SM := dicSS i (bindS fk fun k => bindS (dgetK i k) fun x => bindS fv fun y => bindS (optM (op x y)) fun z => dputK i z k)
section
variable {c : Cfg} {X : Cx} {S : S0} {tm tm0 : List Pr} {σ : L2.St} {H : Hp} {a b e g : Expr} {fa fb fe fk fx fv : EM} {pos pos' apos cpos : Pos} {i : Nat} {E : Ends}
end
end WF
namespace WF
open PySem PySem.Spec PyProof.Rows L2
def asDic (d : D) : Option D := if isDic d = true then some d else none
section
variable {S : S0} {Q : D → S0 → Prop} {QS : Fl → S0 → Prop} {f fk fx fv : EM} {i : Nat} {k x d v : D} {o : Bool} {xs : List D}
@[simp] theorem asDic_dtk {ks : List (List Key)} : asDic (.dtk o ks xs) = some (.dtk o ks xs) := rfl
@[simp] theorem asDic_dic {ks : List Key} : asDic (.dic o ks xs) = some (.dic o ks xs) := rfl
@[simp] theorem isUn_dtk {ks : List (List Key)} : isUn (.dtk o ks xs) = false := rfl
@[simp] theorem isUn_dic {ks : List Key} : isUn (.dic o ks xs) = false := rfl
@[simp] theorem frz_dtk {ks : List (List Key)} : D.frz (.dtk o ks xs) = .dtk false ks (D.frzs xs) := rfl
@[simp] theorem frz_dic {ks : List Key} : D.frz (.dic o ks xs) = .dic false ks (D.frzs xs) := rfl
@[simp] theorem wE_dicS : wE (dicS i f) S Q ↔ rd (S[i]?.bind asDic) fun _ => wE f S Q := by
  unfold wE rd
  show WF0.oE (dicS i f S) Q ↔ _
  unfold dicS asDic
  cases h : S[i]? with
  | none => simp [WF0.oE, WF0.rd]
  | some d => cases hd : isDic d <;> simp [hd, WF0.oE, WF0.rd, WF0.wE]
@[simp] theorem wS_dicSS {f : SM} : wS (dicSS i f) S QS ↔ rd (S[i]?.bind asDic) fun _ => wS f S QS := by
  unfold wS rd
  show WF0.oS (dicSS i f S) QS ↔ _
  unfold dicSS asDic
  cases h : S[i]? with
  | none => simp [WF0.oS, WF0.rd]
  | some d => cases hd : isDic d <;> simp [hd, WF0.oS, WF0.rd, WF0.wS]
@[simp] theorem wS_prS {f : S0 → Option S0} : wS (prS f) S QS ↔ rd (f S) fun S => QS .nx S := by
  unfold wS rd
  show WF0.oS (prS f S) QS ↔ _
  unfold prS
  cases h : f S with
  | none => simp [WF0.oS, WF0.rd]
  | some d => simp [WF0.oS, WF0.rd]
@[simp] theorem wE_dgetK : wE (dgetK i k) S Q ↔ rd (S[i]?.bind fun d => (dGetD d k).bind fun o => o.map fun x => (x, S)) fun p => Q p.1 p.2 := wE_pr
@[simp] theorem wE_dget : wE (dgetM i fk) S Q ↔ wE (dicS i (bindM fk (dgetK i))) S Q := Iff.rfl
@[simp] theorem wE_dinK {neg : Bool} : wE (dinK neg i k) S Q ↔ rd (S[i]?.bind fun d => (dGetD d k).map fun o => (D.bl (if neg = true then !o.isSome else o.isSome), S)) fun p => Q p.1 p.2 := wE_pr
@[simp] theorem wE_din {neg : Bool} : wE (dinM neg i fk) S Q ↔ wE (bindM fk fun k => dicS i (dinK neg i k)) S Q := Iff.rfl
@[simp] theorem wE_dget2K : wE (dget2K i k x) S Q ↔ rd (S[i]?.bind fun d => (dGetD d k).map fun o => (o.getD x, S)) fun p => Q p.1 p.2 := wE_pr
@[simp] theorem wE_dget2 : wE (dget2M i fk fx) S Q ↔ wE (dicS i (bindM fk fun k => bindM fx fun x => dget2K i k x)) S Q := Iff.rfl
@[simp] theorem wS_dputK : wS (dputK i v k) S QS ↔ rd ((S[i]?.bind fun d => dPutD d k v).map fun d' => S.set i d') fun S => QS .nx S := wS_prS
@[simp] theorem wS_dput : wS (dputM i fk fv) S QS ↔ wS (bindS fv fun v => dicSS i (bindS fk (dputK i v))) S QS := Iff.rfl
@[simp] theorem wS_daug {op : D → D → Option D} : wS (daugM i fk op fv) S QS ↔ wS (dicSS i (bindS fk fun k => bindS (dgetK i k) fun x => bindS fv fun y => bindS (optM (op x y)) fun z => dputK i z k)) S QS := Iff.rfl
@[simp] theorem dGetD_dtk {ks : List (List Key)} : dGetD (.dtk o ks xs) k = if D.imms xs = true then (keyT k).map fun q => lk ks xs q else none := rfl
@[simp] theorem dGetD_dic {ks : List Key} : dGetD (.dic o ks xs) k = if D.imms xs = true then (keyK k).map fun q => lk ks xs q else none := rfl
@[simp] theorem dPutD_dtk {ks : List (List Key)} : dPutD (.dtk true ks xs) k v = if D.imms xs = true ∧ v.imm = true ∧ ks.length < 1000000 then (keyT k).map fun q => .dtk true (pkK ks q) (pkV ks xs q v) else none := rfl
@[simp] theorem dPutD_dic {ks : List Key} : dPutD (.dic true ks xs) k v = if D.imms xs = true ∧ v.imm = true ∧ ks.length < 1000000 then (keyK k).map fun q => .dic true (pkK ks q) (pkV ks xs q v) else none := rfl
@[simp] theorem keyK_int {a : Int} : keyK (.int a) = some (.inl a) := rfl
@[simp] theorem keyT_tup : keyT (.tup xs) = keysD xs := rfl
@[simp] theorem keysD_nil : keysD [] = some [] := rfl
@[simp] theorem keysD_cons : keysD (x :: xs) = (keyK x).bind fun k => (keysD xs).map (k :: ·) := rfl
end
section
variable {c : Cfg} {X : Cx} {pos : Pos} {a b : Expr} {fa fb : EM}
def dispM (k v : EM) : EM := bindM k fun x => bindM v fun y => optM ((keyK x).bind fun q => if y.imm = true then some (.dic true [q] [y]) else none)
@[simp] theorem wE_disp {S : S0} {Q : D → S0 → Prop} : wE (dispM fa fb) S Q ↔ wE (bindM fa fun x => bindM fb fun y => optM ((keyK x).bind fun q => if y.imm = true then some (.dic true [q] [y]) else none)) S Q := Iff.rfl
end
end WF
namespace WF
open PySem PySem.Spec PyProof.Rows L2
def lgetK (i : Nat) (k : D) : EM := prM fun S => (asI k).bind fun n => (S[i]?.bind asO).bind fun xs => if 0 ≤ n then (atI xs n).bind fun x => if x.imm = true then some (x, S) else none else none
def lputK (i : Nat) (k z : D) : SM := prS fun S => (asI k).bind fun n => (S[i]?.bind asO).bind fun xs => (ixN xs.length n).map fun m => S.set i (.lst true (xs.set m z))
def lstSS (i : Nat) (f : SM) : SM := fun S => match S[i]? with
  | some (.lst true _) => f S
  | _ => none
def laugM (i : Nat) (fk : EM) (op : D → D → Option D) (fv : EM) : SM := lstSS i (bindS fk fun k => bindS (lgetK i k) fun x => bindS fv fun y => bindS (optM (op x y)) fun z => lputK i k z)
section
variable {c : Cfg} {X : Cx} {S : S0} {tm tm0 : List Pr} {σ : L2.St} {H : Hp} {a b e g : Expr} {fa fb fe fk fx fv : EM} {pos pos' : Pos} {i : Nat} {E : Ends}
@[simp] theorem wS_lstSS {f : SM} {QS : Fl → S0 → Prop} : wS (lstSS i f) S QS ↔ rd (S[i]?.bind asO) fun _ => wS f S QS := by
  unfold wS rd
  show WF0.oS (lstSS i f S) QS ↔ _
  unfold lstSS
  cases h : S[i]? with
  | none => simp [WF0.oS, WF0.rd]
  | some d =>
    cases d with
    | lst o xs => cases o <;> simp [WF0.oS, WF0.rd, WF0.wS, asO, WF0.asO]
    | _ => simp [WF0.oS, WF0.rd, WF0.wS, asO, WF0.asO]
@[simp] theorem wE_lgetK {k : D} {Q : D → S0 → Prop} : wE (lgetK i k) S Q ↔ rd ((asI k).bind fun n => (S[i]?.bind asO).bind fun xs => if 0 ≤ n then (atI xs n).bind fun x => if x.imm = true then some (x, S) else none else none) fun p => Q p.1 p.2 := wE_pr
@[simp] theorem wS_lputK {k z : D} {QS : Fl → S0 → Prop} : wS (lputK i k z) S QS ↔ rd ((asI k).bind fun n => (S[i]?.bind asO).bind fun xs => (ixN xs.length n).map fun m => S.set i (.lst true (xs.set m z))) fun S => QS .nx S := wS_prS
@[simp] theorem wS_laug {op : D → D → Option D} {QS : Fl → S0 → Prop} : wS (laugM i fk op fv) S QS ↔ wS (lstSS i (bindS fk fun k => bindS (lgetK i k) fun x => bindS fv fun y => bindS (optM (op x y)) fun z => lputK i k z)) S QS := Iff.rfl
end
def lenDD : List D → Option D
  | [.dtk _ ks _] => some (.int ks.length)
  | [.dic _ ks _] => some (.int ks.length)
  | _ => none
section
variable {K : PySem.W.Frag} {H : Hp} {R : List Pr} {p : Addr} {ds : List D} {o : Bool}
end
@[simp] theorem lenDD_dtk {o : Bool} {ks : List (List Key)} {xs : List D} : lenDD [.dtk o ks xs] = some (.int ks.length) := rfl
@[simp] theorem lenDD_dic {o : Bool} {ks : List Key} {xs : List D} : lenDD [.dic o ks xs] = some (.int ks.length) := rfl
def intKeys : List Key → Option (List Int)
  | [] => some []
  | .inl i :: ks => (intKeys ks).map (i :: ·)
  | _ => none
def sortKD : List D → Option D
  | [.dic _ ks _] => (intKeys ks).bind fun ns => if ns.length < 64 then some (.lst true ((sortI ns).map .int)) else none
  | _ => none
@[simp] theorem intKeys_of {ns : List Int} : intKeys (ns.map Sum.inl) = some ns := by
  induction ns with
  | nil => rfl
  | cons n ns ih => rw [List.map_cons, intKeys, ih]; rfl
@[simp] theorem sortKD_dic {o : Bool} {ks : List Key} {xs : List D} : sortKD [.dic o ks xs] = (intKeys ks).bind fun ns => if ns.length < 64 then some (.lst true ((sortI ns).map .int)) else none := rfl
end WF
namespace WF
open PySem PySem.Spec PyProof.Rows L2
theorem hu1 {k : Nat} {A : Around} (r : Room k A) : A.units + 1 < cLine := by have := r.un; omega
section
variable {K : PySem.W.Frag} {G H H' : Hp} {L R : List Pr} {p b : Addr} {ds : List D}
theorem Reps.own {fp : List Addr} (r : Reps K G H L fp) : ∀ a ∈ fp, ∀ xs, H a ≠ Option.some (HO.tup xs) := by
  induction r with
  | nil => intro a m; cases m
  | un _ ih => exact ih
  | non _ ih => exact ih
  | bl _ ih => exact ih
  | int _ ih => exact ih
  | str _ ih => exact ih
  | vl _ ih => exact ih
  | hld q h _ ih => intro a m xs e; rcases List.mem_cons.mp m with rfl | m; (rw [h] at e; exact q.1 xs (Option.some.inj e)); exact ih a m xs e
  | con _ _ _ ih => exact ih
  | tab h _ ih => intro a m xs e; rcases List.mem_cons.mp m with rfl | m; (obtain ⟨ps, h, _⟩ := h; rw [h] at e; cases e); exact ih a m xs e
  | of _ _ _ _ _ _ _ ih1 ih2 => exact ih2
  | oo h h2 _ _ _ _ _ ih1 ih2 => intro a m xs e; rcases List.mem_cons.mp m with rfl | m; (rw [h] at e; cases e); rcases List.mem_cons.mp m with rfl | m; (rw [h2] at e; cases e); rcases List.mem_append.mp m with m | m; exact ih1 a m xs e; exact ih2 a m xs e
  | scr _ _ ih => exact ih
  | tup _ _ _ _ _ ih1 ih2 => intro a m; rcases List.mem_append.mp m with m | m; exact ih1 a m; exact ih2 a m
  | exn _ _ _ _ _ _ _ ih1 ih2 => exact ih2
  | lf _ _ _ _ _ ih1 ih2 => exact ih2
  | lo h _ _ _ _ ih1 ih2 => intro a m xs e; rcases List.mem_cons.mp m with rfl | m; (rw [h] at e; cases e); rcases List.mem_append.mp m with m | m; exact ih1 a m xs e; exact ih2 a m xs e
  | kf _ _ _ _ _ _ ih1 ih2 => exact ih2
  | ko h _ _ _ _ _ ih1 ih2 => intro a m xs e; rcases List.mem_cons.mp m with rfl | m; (rw [h] at e; cases e); rcases List.mem_append.mp m with m | m; exact ih1 a m xs e; exact ih2 a m xs e
  | tf _ _ _ _ _ _ ih1 ih2 => exact ih2
  | to h _ _ _ _ _ ih1 ih2 => intro a m xs e; rcases List.mem_cons.mp m with rfl | m; (rw [h] at e; cases e); rcases List.mem_append.mp m with m | m; exact ih1 a m xs e; exact ih2 a m xs e
theorem reps_ints {ns : List Int} : Reps K G H ((ns.map V.int).zip (ns.map D.int)) [] := by
  induction ns with
  | nil => exact .nil
  | cons n ns ih => exact .int ih
end
section
variable {X : Cx} {c : Cfg} {a b : Expr} {pos : Pos} {tk tv : TE} {fa fb : EM}
def dispT (k v : EM) : EM := bindM k fun x => bindM v fun y => optM ((keyT x).bind fun q => if y.imm = true then some (.dtk true [q] [y]) else none)
@[simp] theorem wE_dispT {S : S0} {Q : D → S0 → Prop} : wE (dispT fa fb) S Q ↔ wE (bindM fa fun x => bindM fb fun y => optM ((keyT x).bind fun q => if y.imm = true then some (.dtk true [q] [y]) else none)) S Q := Iff.rfl
end
end WF
namespace WF
open PySem PySem.Spec PyProof.Rows L2
section
variable {X : Cx} {c : Cfg} {e : Expr} {td : TE} {apos cpos : Pos} {i : Nat}
end
end WF
namespace WF
open PySem PySem.Spec PyProof.Rows L2
def ksI : List (List Key) → Option (List (List Int))
  | [] => some []
  | k :: r => (intKeys k).bind fun ks => (ksI r).map (ks :: ·)
def kvR (p : List Int × Int) : List Key × V := (p.1.map Sum.inl, .int p.2)
def itD (p : List Int × Int) : D := .tup [.tup (p.1.map .int), .int p.2]
@[simp] theorem ksI_of : ∀ {l : List (List Int)}, ksI (l.map fun k => k.map Sum.inl) = some l
  | [] => rfl
  | p :: l => by
    show ((intKeys (p.map Sum.inl)).bind fun ks => (ksI (l.map fun k => k.map Sum.inl)).map (ks :: ·)) = _
    rw [intKeys_of, ksI_of]
    rfl
def itI (i : Nat) : IM := fun S => match S[i]? with
  | some (.dtk true ks xs) => (ksI ks).bind fun kss => (intsD xs).bind fun ns => if kss.length = ns.length then some (.ok ((kss.zip ns).map itD) [(i, .dtk true ks xs)], S.set i .un) else none
  | _ => none
section
variable {K : PySem.W.Frag} {H H' : Hp} {R : List Pr} {p : Addr} {ns : List Int} {u : HO}
theorem JX.ints (j : JX K H p R) : JX K H p ((ns.map V.int).zip (ns.map D.int) ++ R) := by
  obtain ⟨G, fp, g, r, n, z, gp, np⟩ := j
  exact ⟨G, fp, g, Reps.append (fp := []) reps_ints r, n, z, gp, np⟩
end
section
variable {c : Cfg} {X : Cx} {S : S0} {tm : List Pr} {σ : L2.St} {H : Hp} {e : Expr} {apos cpos : Pos} {i : Nat}
end
def asDT : D → Option (List (List Key) × List D)
  | .dtk true ks xs => some (ks, xs)
  | _ => none
@[simp] theorem asDT_dtk {ks : List (List Key)} {xs : List D} : asDT (.dtk true ks xs) = some (ks, xs) := rfl
@[simp] theorem wI_itI {i : Nat} {S : S0} {Q : List D → List (Nat × D) → S0 → Prop} : wI (itI i) S Q ↔ rd ((S[i]?.bind asDT).bind fun p => (ksI p.1).bind fun kss => (intsD p.2).bind fun ns => if kss.length = ns.length then some ((kss.zip ns).map itD, p) else none) fun r => Q r.1 [(i, .dtk true r.2.1 r.2.2)] (S.set i .un) := by
  unfold wI rd
  show WF0.oI (itI i S) Q ↔ _
  unfold itI
  cases h : S[i]? with
  | none => simp [WF0.oI, WF0.rd]
  | some d =>
    cases d with
    | dtk o ks xs =>
      cases o with
      | false => simp [WF0.oI, WF0.rd, asDT]
      | true =>
        simp only [Option.bind_some, asDT_dtk]
        cases hk : ksI ks with
        | none => simp [WF0.oI, WF0.rd]
        | some kss =>
          simp only [Option.bind_some]
          cases hn : intsD xs with
          | none => simp [WF0.oI, WF0.rd]
          | some ns =>
            simp only [Option.bind_some]
            by_cases hl : kss.length = ns.length
            · simp [hl, WF0.oI, WF0.rd]
            · simp [hl, WF0.oI, WF0.rd]
    | _ => simp [WF0.oI, WF0.rd, asDT]
end WF
namespace WF
open PySem PySem.Spec PyProof.Rows L2
def inTD (neg : Bool) : D → D → Option D
  | .int a, .tup xs => (intsD xs).map fun ns => .bl (if neg = true then !decide (a ∈ ns) else decide (a ∈ ns))
  | _, _ => none
section
variable {K : PySem.W.Frag}
@[simp] theorem inTD_tup {neg : Bool} {a : Int} {xs : List D} : inTD neg (.int a) (.tup xs) = (intsD xs).map fun ns => .bl (if neg = true then !decide (a ∈ ns) else decide (a ∈ ns)) := rfl
end
end WF
namespace WF
open PySem PySem.Spec PyProof.Rows L2
def kyD (p : List Int × Int) : D := .tup (p.1.map .int)
def kyI (i : Nat) : IM := fun S => match S[i]? with
  | some (.dtk true ks xs) => (ksI ks).bind fun kss => (intsD xs).bind fun ns => if kss.length = ns.length then some (.ok ((kss.zip ns).map kyD) [(i, .dtk true ks xs)], S.set i .un) else none
  | _ => none
section
variable {K : PySem.W.Frag} {H H' : Hp} {R : List Pr} {p : Addr} {ns : List Int} {u : HO}
end
section
variable {c : Cfg} {X : Cx} {S : S0} {tm : List Pr} {σ : L2.St} {H : Hp} {e : Expr} {apos cpos : Pos} {i : Nat}
end
@[simp] theorem wI_kyI {i : Nat} {S : S0} {Q : List D → List (Nat × D) → S0 → Prop} : wI (kyI i) S Q ↔ rd ((S[i]?.bind asDT).bind fun p => (ksI p.1).bind fun kss => (intsD p.2).bind fun ns => if kss.length = ns.length then some ((kss.zip ns).map kyD, p) else none) fun r => Q r.1 [(i, .dtk true r.2.1 r.2.2)] (S.set i .un) := by
  unfold wI rd
  show WF0.oI (kyI i S) Q ↔ _
  unfold kyI
  cases h : S[i]? with
  | none => simp [WF0.oI, WF0.rd]
  | some d =>
    cases d with
    | dtk o ks xs =>
      cases o with
      | false => simp [WF0.oI, WF0.rd, asDT]
      | true =>
        simp only [Option.bind_some, asDT_dtk]
        cases hk : ksI ks with
        | none => simp [WF0.oI, WF0.rd]
        | some kss =>
          simp only [Option.bind_some]
          cases hn : intsD xs with
          | none => simp [WF0.oI, WF0.rd]
          | some ns =>
            simp only [Option.bind_some]
            by_cases hl : kss.length = ns.length
            · simp [hl, WF0.oI, WF0.rd]
            · simp [hl, WF0.oI, WF0.rd]
    | _ => simp [WF0.oI, WF0.rd, asDT]
end WF
namespace WF
open PySem PySem.Spec PyProof.Rows L2
section
variable {c : Cfg} {X : Cx}
end
end WF
namespace WF
open PySem PySem.Spec PyProof.Rows L2
def dcM (fi : IM) (v : Int) : EM := fun S => match fi S with
  | some (.ok ds [], S1) => (intsD ds).bind fun ns => if ns.Nodup ∧ ns.length < 1000000 then some (.ok (.dic true (ns.map Sum.inl) (ns.map fun _ => .int v)), S1) else none
  | _ => none
section
variable {c : Cfg} {X : Cx} {σ : L2.St} {H : Hp} {i : Nat} {fi : IM} {v : Int}
end
end WF
namespace WF
open PySem PySem.Spec PyProof.Rows L2 NdefX
def outOk (K : PySem.W.Frag) (o : Option (Out × List D)) (n : Nat) (vs : List V) (rs : List Pr) (Q : VK) (E : XK) : Prop := match o with
  | some (.ok r, ds') => ds'.length = n ∧ ∀ v H', Joint K H' ((v, r) :: (vs.zip ds' ++ rs)) → Q v H'
  | some (.ex x, ds') => ds'.length = n ∧ ∀ cls dd H', XF K x (vs.zip ds' ++ rs) cls dd H' → E cls dd H'
  | none => False
section
variable {K : PySem.W.Frag} {H : Hp} {vs : List V} {ds : List D} {rs rs' : List Pr} {Q : VK} {E : XK} {mask : List Bool} {fb : SM} {kN : Nat}
theorem outOk.perm {o : Option (Out × List D)} {n : Nat} (p : rs.Perm rs') (h : outOk K o n vs rs Q E) : outOk K o n vs rs' Q E := by
  unfold outOk at h ⊢
  split at h
  · exact ⟨h.1, fun v H' k => h.2 v H' (k.perm (List.Perm.cons _ (List.Perm.append_left _ p.symm)))⟩
  · exact ⟨h.1, fun cls dd H' ⟨fv, x1, x2, x3, k⟩ => h.2 cls dd H' ⟨fv, x1, x2, x3, k.perm (List.Perm.append_left _ (List.Perm.append_left _ p.symm))⟩⟩
  · exact h.elim
theorem outOk.more {o : Option (Out × List D)} {n : Nat} {L : List Pr} (h : outOk K o n vs rs Q E) : outOk K o n vs (L ++ rs) Q E := by
  unfold outOk at h ⊢
  split at h
  · refine ⟨h.1, fun v H' k => h.2 v H' ?_⟩
    have k2 : Joint K H' (L ++ ((v, _) :: (vs.zip _ ++ rs))) := k.perm ((List.Perm.cons _ perm_sw).trans perm_take.symm)
    exact k2.dropL
  · refine ⟨h.1, fun cls dd H' ⟨fv, x1, x2, x3, k⟩ => h.2 cls dd H' ⟨fv, x1, x2, x3, ?_⟩⟩
    have k2 : Joint K H' (L ++ (fv ++ (vs.zip _ ++ rs))) := k.perm ((List.Perm.append_left _ perm_sw).trans perm_sw)
    exact k2.dropL
  · exact h.elim
end
def spOfR (K : PySem.W.Frag) (R : List Pr) (n : Nat) (m : Fn) : Sp := fun vs H Q E => vs.length = n ∧ ∃ ds rs, (∃ Z, rs.Perm (R ++ Z)) ∧ ds.length = n ∧ Joint K H (vs.zip ds ++ rs) ∧ outOk K (m ds) n vs rs Q E
theorem spOfR.sub {K : PySem.W.Frag} {R Z : List Pr} {n : Nat} {m : Fn} {vs : List V} {H : Hp} {Q : VK} {E : XK} (h : spOfR K (R ++ Z) n m vs H Q E) : spOfR K R n m vs H Q E := by
  obtain ⟨h1, ds, rs, ⟨Z', p⟩, h2⟩ := h
  exact ⟨h1, ds, rs, ⟨Z ++ Z', by rw [List.append_assoc] at p; exact p⟩, h2⟩
theorem spOfR.sp {K : PySem.W.Frag} {R : List Pr} {n : Nat} {m : Fn} {vs : List V} {H : Hp} {Q : VK} {E : XK} (h : spOfR K R n m vs H Q E) : spOf K n m vs H Q E := by
  obtain ⟨h1, ds, rs, _, h2, h3, h4⟩ := h
  exact ⟨h1, ds, rs, h2, h3, h4⟩
section
variable {P : Program} {w : World} {K : PySem.W.Frag} {mg : Str → Option Value} {base : Heap}
end
section
variable {c : Cfg} {X : Cx} {k : Nat} {f : Addr} {fd : FuncData} {ps : List Str} {n : Nat} {m : Fn} {x : Str} {p pos : Pos} {e : Expr} {es : List Expr} {as : List Ar} {R : List Pr}
end
end WF
namespace WF
open PySem PySem.Spec PyProof.Rows L2 NdefX
section
variable {K : PySem.W.Frag} {G H : Hp} {L R : List Pr} {fp : List Addr}
structure Tbs (K : PySem.W.Frag) (G H : Hp) (L : List Pr) (fp : List Addr) (l : List NTab) : Prop where
  sub : (l.map Prod.fst).Sublist fp
  tab : ∀ p ∈ l, TabG G H p.1 p.2
  mem : ∀ P nm, (V.ref P, D.tab nm) ∈ L → (P, nm) ∈ l
  own : ∀ a ∈ fp, ∃ o, H a = some o ∧ (∀ φ, o ≠ .ext φ) ∧ ((∀ ps, o ≠ .tbl ps) ∨ a ∈ l.map Prod.fst)
  re : ∀ G' H', GSub G G' → (∀ a o, a ∈ fp → H a = some o → (∀ ps, o ≠ .tbl ps) → H' a = some o) → (∀ p ∈ l, TabG G' H' p.1 p.2) → Reps K G' H' L fp
theorem Tbs.step {x : Pr} {l : List NTab} (t : Tbs K G H L fp l) (hx : ∀ P nm, x ≠ (V.ref P, D.tab nm)) (hr : ∀ G' H', GSub G G' → Reps K G' H' L fp → Reps K G' H' (x :: L) fp) : Tbs K G H (x :: L) fp l :=
  ⟨t.sub, t.tab, fun P nm h => by
    rcases List.mem_cons.mp h with e | e
    · exact (hx P nm e.symm).elim
    · exact t.mem P nm e, t.own, fun G' H' g h t' => hr G' H' g (t.re G' H' g h t')⟩
theorem Tbs.two {x : Pr} {C : List Pr} {f : List Addr} {l1 l2 : List NTab} {os : List Addr} (t1 : Tbs K G H C f l1) (t2 : Tbs K G H L fp l2) (hx : ∀ P nm, x ≠ (V.ref P, D.tab nm)) (ho : ∀ a ∈ os, ∃ o, H a = some o ∧ (∀ φ, o ≠ .ext φ) ∧ ∀ ps, o ≠ .tbl ps)
    (hr : ∀ G' H', GSub G G' → (∀ a o, a ∈ os → H a = some o → H' a = some o) → Reps K G' H' C f → Reps K G' H' L fp → Reps K G' H' (x :: L) (os ++ (f ++ fp))) : Tbs K G H (x :: L) (os ++ (f ++ fp)) (l1 ++ l2) :=
  ⟨by rw [List.map_append]; exact (t1.sub.append t2.sub).trans (List.sublist_append_right _ _), fun p hp => (List.mem_append.mp hp).elim (t1.tab p) (t2.tab p), fun P nm h => by
    rcases List.mem_cons.mp h with e | e
    · exact (hx P nm e.symm).elim
    · exact List.mem_append_right _ (t2.mem P nm e), fun a h => by
    rcases List.mem_append.mp h with h | h
    · obtain ⟨o, h1, h2, h3⟩ := ho a h
      exact ⟨o, h1, h2, .inl h3⟩
    · rcases List.mem_append.mp h with h | h
      · obtain ⟨o, h1, h2, h3⟩ := t1.own a h
        exact ⟨o, h1, h2, h3.imp id fun z => by rw [List.map_append]; exact List.mem_append_left _ z⟩
      · obtain ⟨o, h1, h2, h3⟩ := t2.own a h
        exact ⟨o, h1, h2, h3.imp id fun z => by rw [List.map_append]; exact List.mem_append_right _ z⟩, fun G' H' g h t' =>
    hr G' H' g (fun a o m e => by
      obtain ⟨o', h1, _, h3⟩ := ho a m
      rw [e] at h1
      cases h1
      exact h a o (List.mem_append_left _ m) e h3) (t1.re G' H' g (fun a o m => h a o (List.mem_append_right _ (List.mem_append_left _ m))) fun p hp => t' p (List.mem_append_left _ hp))
      (t2.re G' H' g (fun a o m => h a o (List.mem_append_right _ (List.mem_append_right _ m))) fun p hp => t' p (List.mem_append_right _ hp))⟩
theorem Reps.tabs (r : Reps K G H L fp) : ∃ l, Tbs K G H L fp l := by
  induction r with
  | nil => exact ⟨[], List.Sublist.slnil, (fun _ h => nomatch h), (fun _ _ h => nomatch h), (fun _ h => nomatch h), fun _ _ _ _ _ => Reps.nil⟩
  | un _ ih => obtain ⟨l, t⟩ := ih; exact ⟨l, t.step (fun _ _ e => by cases e) fun _ _ _ r => .un r⟩
  | non _ ih => obtain ⟨l, t⟩ := ih; exact ⟨l, t.step (fun _ _ e => by cases e) fun _ _ _ r => .non r⟩
  | bl _ ih => obtain ⟨l, t⟩ := ih; exact ⟨l, t.step (fun _ _ e => by cases e) fun _ _ _ r => .bl r⟩
  | int _ ih => obtain ⟨l, t⟩ := ih; exact ⟨l, t.step (fun _ _ e => by cases e) fun _ _ _ r => .int r⟩
  | str _ ih => obtain ⟨l, t⟩ := ih; exact ⟨l, t.step (fun _ _ e => by cases e) fun _ _ _ r => .str r⟩
  | vl _ ih => obtain ⟨l, t⟩ := ih; exact ⟨l, t.step (fun _ _ e => by cases e) fun _ _ _ r => .vl r⟩
  | con q a _ ih => obtain ⟨l, t⟩ := ih; exact ⟨l, t.step (fun _ _ e => by cases e) fun _ _ g r => .con q (g _ _ a) r⟩
  | scr a _ ih => obtain ⟨l, t⟩ := ih; exact ⟨l, t.step (fun _ _ e => by cases e) fun _ _ g r => .scr (sqL_mono g a) r⟩
  | @hld p u L fp q a _ ih =>
    obtain ⟨l, t⟩ := ih
    refine ⟨l, t.sub.cons _, t.tab, fun P nm h => ?_, fun b h => ?_, fun G' H' g h t' => .hld q (h _ _ List.mem_cons_self a q.2.1) (t.re G' H' g (fun b o m => h b o (List.mem_cons_of_mem _ m)) t')⟩
    · rcases List.mem_cons.mp h with e | e
      · cases e
      · exact t.mem P nm e
    · rcases List.mem_cons.mp h with rfl | h
      · exact ⟨_, a, q.2.2.1, .inl q.2.1⟩
      · exact t.own b h
  | @tab p nm L fp a _ ih =>
    obtain ⟨l, t⟩ := ih
    refine ⟨(p, nm) :: l, t.sub.cons₂ _, fun q hq => ?_, fun P nm' h => ?_, fun b h => ?_, fun G' H' g h t' => .tab (t' _ List.mem_cons_self) (t.re G' H' g (fun b o m => h b o (List.mem_cons_of_mem _ m)) fun q hq => t' q (List.mem_cons_of_mem _ hq))⟩
    · rcases List.mem_cons.mp hq with rfl | hq
      · exact a
      · exact t.tab q hq
    · rcases List.mem_cons.mp h with e | e
      · cases e; exact List.mem_cons_self
      · exact List.mem_cons_of_mem _ (t.mem P nm' e)
    · rcases List.mem_cons.mp h with rfl | h
      · obtain ⟨ps, a, _⟩ := a
        exact ⟨_, a, (fun _ z => by cases z), .inr List.mem_cons_self⟩
      · obtain ⟨o, h1, h2, h3⟩ := t.own b h
        exact ⟨o, h1, h2, h3.imp id fun z => List.mem_cons_of_mem _ z⟩
  | tup a b c _ _ ih1 ih2 =>
    obtain ⟨l1, t1⟩ := ih1; obtain ⟨l2, t2⟩ := ih2
    exact ⟨_, t1.two (os := []) t2 (fun _ _ e => by cases e) (fun _ h => nomatch h) fun _ _ g _ r1 r2 => by have q := Reps.tup (g _ _ a) b c r1 r2; exact q⟩
  | exn a a2 e b c _ _ ih1 ih2 =>
    obtain ⟨l1, t1⟩ := ih1; obtain ⟨l2, t2⟩ := ih2
    exact ⟨_, t1.two (os := []) t2 (fun _ _ e => by cases e) (fun _ h => nomatch h) fun _ _ g _ r1 r2 => by have q := Reps.exn (g _ _ a) (a2.imp id fun ⟨dx, e1, e2⟩ => ⟨dx, e1, g _ _ e2⟩) e b c r1 r2; exact q⟩
  | lf a b c _ _ ih1 ih2 =>
    obtain ⟨l1, t1⟩ := ih1; obtain ⟨l2, t2⟩ := ih2
    exact ⟨_, t1.two (os := []) t2 (fun _ _ e => by cases e) (fun _ h => nomatch h) fun _ _ g _ r1 r2 => by have q := Reps.lf (g _ _ a) b c r1 r2; exact q⟩
  | kf a e b c _ _ ih1 ih2 =>
    obtain ⟨l1, t1⟩ := ih1; obtain ⟨l2, t2⟩ := ih2
    exact ⟨_, t1.two (os := []) t2 (fun _ _ e => by cases e) (fun _ h => nomatch h) fun _ _ g _ r1 r2 => by have q := Reps.kf (g _ _ a) e b c r1 r2; exact q⟩
  | tf a e b c _ _ ih1 ih2 =>
    obtain ⟨l1, t1⟩ := ih1; obtain ⟨l2, t2⟩ := ih2
    exact ⟨_, t1.two (os := []) t2 (fun _ _ e => by cases e) (fun _ h => nomatch h) fun _ _ g _ r1 r2 => by have q := Reps.tf (g _ _ a) e b c r1 r2; exact q⟩
  | of a a2 e b c _ _ ih1 ih2 =>
    obtain ⟨l1, t1⟩ := ih1; obtain ⟨l2, t2⟩ := ih2
    exact ⟨_, t1.two (os := []) t2 (fun _ _ e => by cases e) (fun _ h => nomatch h) fun _ _ g _ r1 r2 => by have q := Reps.of (g _ _ a) (g _ _ a2) e b c r1 r2; exact q⟩
  | lo a b c _ _ ih1 ih2 =>
    obtain ⟨l1, t1⟩ := ih1; obtain ⟨l2, t2⟩ := ih2
    exact ⟨_, t1.two (os := [_]) t2 (fun _ _ e => by cases e) (fun x h => by obtain rfl := List.mem_singleton.mp h; exact ⟨_, a, (fun _ z => by cases z), fun _ z => by cases z⟩) fun _ _ g k r1 r2 => by have q := Reps.lo (k _ _ List.mem_cons_self a) b c r1 r2; exact q⟩
  | ko a e b c _ _ ih1 ih2 =>
    obtain ⟨l1, t1⟩ := ih1; obtain ⟨l2, t2⟩ := ih2
    exact ⟨_, t1.two (os := [_]) t2 (fun _ _ e => by cases e) (fun x h => by obtain rfl := List.mem_singleton.mp h; exact ⟨_, a, (fun _ z => by cases z), fun _ z => by cases z⟩) fun _ _ g k r1 r2 => by have q := Reps.ko (k _ _ List.mem_cons_self a) e b c r1 r2; exact q⟩
  | to a e b c _ _ ih1 ih2 =>
    obtain ⟨l1, t1⟩ := ih1; obtain ⟨l2, t2⟩ := ih2
    exact ⟨_, t1.two (os := [_]) t2 (fun _ _ e => by cases e) (fun x h => by obtain rfl := List.mem_singleton.mp h; exact ⟨_, a, (fun _ z => by cases z), fun _ z => by cases z⟩) fun _ _ g k r1 r2 => by have q := Reps.to (k _ _ List.mem_cons_self a) e b c r1 r2; exact q⟩
  | oo a a2 e b c _ _ ih1 ih2 =>
    obtain ⟨l1, t1⟩ := ih1; obtain ⟨l2, t2⟩ := ih2
    exact ⟨_, t1.two (os := [_, _]) t2 (fun _ _ e => by cases e) (fun x h => by
      rcases List.mem_cons.mp h with rfl | h
      · exact ⟨_, a, (fun _ z => by cases z), fun _ z => by cases z⟩
      · obtain rfl := List.mem_singleton.mp h; exact ⟨_, a2, (fun _ z => by cases z), fun _ z => by cases z⟩) fun _ _ g k r1 r2 => by have q := Reps.oo (k _ _ List.mem_cons_self a) (k _ _ (List.mem_cons_of_mem _ List.mem_cons_self) a2) e b c r1 r2; exact q⟩
theorem Joint.con {p : Addr} {φ : Heap → Prop} (j : Joint K H L) (h : H p = some (.ext φ)) : Joint K H ((.ref p, .con (.ext φ)) :: L) := by
  obtain ⟨G, fp, g, r, n, z⟩ := j
  obtain ⟨l, t⟩ := r.tabs
  have hp : p ∉ fp := fun m => by
    obtain ⟨o, h1, h2, _⟩ := t.own p m
    rw [h] at h1
    exact h2 φ (Option.some.inj h1).symm
  have gg : GSub G (upd G p (.ext φ)) := fun a o e => by
    by_cases ha : a = p
    · subst ha
      rw [upd_same, ← h]
      exact g a o e
    · rw [upd_ne ha]; exact e
  refine ⟨upd G p (.ext φ), fp, fun a o e => ?_, .con (fun _ q => by cases q) upd_same (r.mono gg fun _ _ _ e => e), n, fun a m => ?_⟩
  · by_cases ha : a = p
    · subst ha
      rw [upd_same] at e
      rw [← e]; exact h
    · rw [upd_ne ha] at e; exact g a o e
  · rw [upd_ne (fun q => hp (by rw [← q]; exact m))]
    exact z a m
end
def spN (K : PySem.W.Frag) (n : Nat) (m : Fn) (ws : List (Option V)) : Sp := fun vs H Q E => vs.length = n ∧ ∃ wv ds dw rs, ws = wv.map some ∧ ds.length = n ∧ dw.length = wv.length ∧ Joint K H ((vs ++ wv).zip (ds ++ dw) ++ rs) ∧ outOk K (m (ds ++ dw)) (n + wv.length) (vs ++ wv) rs Q E
section
variable {P : Program} {w : World} {K : PySem.W.Frag} {mg : Str → Option Value} {base : Heap} {N nps fr : List Str} {F : NF} {f : Addr} {k : Nat} {mask : List Bool} {fb : SM}
end
end WF
namespace WF
open PySem PySem.Spec PyProof.Rows L2 NdefX
def gmF (g : Fn) (dw : List D) : Fn := fun ds => match g (ds ++ dw) with
  | some (o, ds') => if ds'.length = ds.length + dw.length then some (o, ds'.take ds.length) else none
  | none => none
structure Clo (X : Cx) (c : Cfg) (y : Str) (n : Nat) (gm : Fn) : Prop where
  pe : ∀ {p pos : Pos} {e : Expr} {es : List Expr} {as : List Ar}, PA X (e :: es) (tArgsA c as) → as.length = n → starEach (e :: es) X.env = (false, eval e X.env) :: starEach es X.env → (backTo pos (starEach es X.env)).any (·.1) = false →
    PE X (.Call (.Name y p) (e :: es) [] pos) (T c (callM gm as))
section
variable {X : Cx} {c : Cfg} {y : Str} {n : Nat} {gm : Fn}
end
structure GetsOk (P : Program) (w : World) (K : PySem.W.Frag) (mg : Str → Option Value) (base : Heap) (k : Nat) (fsl : Addr) (fd : FuncData) (ps : List Str) (n i : Nat) (m : Fn → Fn) : Prop where
  run : ∀ {A : Around} {outer : List Env} {s : Shared} {H : Hp} {args : Args} {us : List Value} {vs : List V} {Q : VK} {E : XK} {F : NF} {f : Addr} {nps fr : List Str} {wv : List V} {ds dw : List D} {rs : List Pr} {g : Fn} {k1 : Nat},
    Room (k + 1) A → Env0 P w K mg base A outer s H → BindsTo s fd args (ps.zip us) → Vals vs us → vs.length = ps.length → NOk P w K mg base (L2.CX P w) k1 f F nps fr (spN K n g) → k1 ≤ k → CellsAt F.cl fr (wv.map some) s.heap H →
    (∀ y c, F.cl.lookup y = some c → c ∉ frs outer) → vs[i]? = some (.ref f) → H f = some (FnO f F) → H F.c = some (LamX.CodeO F.c F.qual) → ds.length = ps.length → D.frzs dw = dw → dw.length = wv.length → Joint K H (vs.zip ds ++ (wv.zip dw ++ rs)) →
    outOk K (m (gmF g dw) ds) ps.length vs (wv.zip dw ++ rs) Q E → codeAny (model P w) A (.call (.ref fsl) args) (CR (L2.CX P w) outer P w H s Q E) s
section
variable {P : Program} {w : World} {K : PySem.W.Frag} {mg : Str → Option Value} {base : Heap}
end
def capD (S : S0) : List Nat → Option (List D)
  | [] => some []
  | i :: r => match S[i]? with
    | some d => if isUn d then none else (capD S r).map (d.frz :: ·)
    | none => none
def frzAt (S : S0) : List Nat → S0
  | [] => S
  | i :: r => (frzAt S r).set i ((S.getD i .un).frz)
def cloM (m : Fn → Fn) (g : Fn) (cap : List Nat) (fe : EM) : EM := bindM fe fun d S => match capD S cap with
  | some dw => (match m (gmF g dw) [d, .un] with
    | some (o, ds') => if ds'.length = 2 then some (o, frzAt S cap) else none
    | none => none)
  | none => none
def cloS (i : Nat) (m : Fn → Fn) (g : Fn) (cap : List Nat) (fe : EM) : SM := fun S => retS (cloM m g cap fe) (S.set i .un)
section
variable {c : Cfg} {S : S0} {tm : List Pr} {σ : L2.St} {H : Hp}
end
section
variable {X : Cx} {c : Cfg} {i k n : Nat} {x y : Str} {fsl cc Pt : Addr} {fd : FuncData} {ps nps fr : List Str} {m : Fn → Fn} {g : Fn} {cap : List Nat} {nst : Stmt} {fe : EM} {e : Expr} {npos p q pos pos2 : Pos} {nmf : Nat → Nat → Str} {k1 : Nat}
end
end WF
namespace WF
open PySem PySem.Spec PyProof.Rows L2 NdefX
section
variable {P : Program} {w : World} {K : PySem.W.Frag} {mg : Str → Option Value} {base : Heap}
end
section
variable {K : PySem.W.Frag} {H : Hp}
end
section
variable {c : Cfg} {X : Cx} {k : Nat} {f : Addr} {fd : FuncData} {ps : List Str} {n : Nat} {m : Fn} {x : Str} {p pos : Pos} {e : Expr} {es : List Expr} {as bs : List Ar} {ks : List Str} {kws : List Keyword} {R : List Pr}
variable {ix inv : List Nat} {dvs : List V} {dd : List D} {its : List Value}
end
theorem wE_cl {m : Fn → Fn} {g : Fn} {cap : List Nat} {d : D} {S : S0} {Q : D → S0 → Prop} : wE (fun S => match capD S cap with
    | some dw => (match m (gmF g dw) [d, .un] with
      | some (o, ds') => if ds'.length = 2 then some (o, frzAt S cap) else none
      | none => none)
    | none => none) S Q ↔ ∃ dw, capD S cap = some dw ∧ wF (m (gmF g dw)) [d, .un] fun r ds => ds.length = 2 ∧ Q r (frzAt S cap) := by
  unfold wE wF
  show WF0.oE _ Q ↔ ∃ dw, _ ∧ WF0.oE _ _
  cases h : capD S cap with
  | none => simp [WF0.oE, h]
  | some dw =>
    cases h2 : m (gmF g dw) [d, .un] with
    | none => simp [WF0.oE, h, h2]
    | some o =>
      obtain ⟨o, ds'⟩ := o
      by_cases hl : ds'.length = 2
      · cases o <;> simp [WF0.oE, h, h2, hl]
      · cases o <;> simp [WF0.oE, h, h2, hl]
@[simp] theorem wS_clo {i : Nat} {m : Fn → Fn} {g : Fn} {cap : List Nat} {fe : EM} {S : S0} {Q : Fl → S0 → Prop} : wS (cloS i m g cap fe) S Q ↔ wE fe (S.set i .un) fun d S => ∃ dw, capD S cap = some dw ∧ wF (m (gmF g dw)) [d, .un] fun r ds => ds.length = 2 ∧ Q (.rt r) (frzAt S cap) := by
  have e : wS (cloS i m g cap fe) S Q ↔ wS (retS (cloM m g cap fe)) (S.set i .un) Q := by
    unfold wS
    exact Iff.rfl
  rw [e, wS_ret, cloM, wE_bind]
  have e2 : (fun d S => wE ((fun d S => match capD S cap with
    | some dw => (match m (gmF g dw) [d, .un] with
      | some (o, ds') => if ds'.length = 2 then some (o, frzAt S cap) else none
      | none => none)
    | none => none) d) S fun d S => Q (.rt d) S) = fun d S => ∃ dw, capD S cap = some dw ∧ wF (m (gmF g dw)) [d, .un] fun r ds => ds.length = 2 ∧ Q (.rt r) (frzAt S cap) := by
    funext d S
    exact propext wE_cl
  exact Iff.of_eq (congrArg (fun q => wE fe (S.set i .un) q) e2)
end WF
namespace WC
open WF PySem
noncomputable def b__law_draw (m : Fn) : SM := (seqM (ifS (roM (op2 gtD) [.v (hasM 0 (ixS 0 (retM (.int 0)))), .v (retM (.int 0))]) (seqM (asgM (cbM divmodD [(hasM 0 (ixS 0 (retM (.int 0)))), (varM 1)]) (gTupM 2 (gConsM (gSubM 0 (retM (.int 0))) (gConsM (gSetM 2) gNilM))))
    (retS (takeM 2))) skipM)
    (seqM (ifS (roM (op2 gtD) [.s 1, .v (binM powD (retM (.int 10)) (retM (.int 7)))]) (retS (binM modD (binM addD (callM m [.s 0, .v (frzM (binM powD (retM (.int 10)) (retM (.int 7))))]) (binM mulD2 (binM powD (retM (.int 10)) (retM (.int 7))) (callM m [.s 0, .v (frzM (binM addD (binM fdivD (binM subD (varM 1) (retM (.int 1))) (binM powD (retM (.int 10)) (retM (.int 7)))) (retM (.int 1))))]))) (varM 1))) skipM)
    (seqM (asgM (binM addD (hasM 0 (ixS 0 (retM (.int 2)))) (retM (.int 1))) (gSubM 0 (retM (.int 2))))
    (seqM (asgM (binM addD (retM (.int 69621)) (binM mulD2 (hasM 0 (ixS 0 (retM (.int 2)))) (hasM 0 (ixS 0 (retM (.int 2)))))) (gSetM 3))
    (seqM (asgM (binM modD (binM mulD2 (binM addD (hasM 0 (ixS 0 (retM (.int 1)))) (binM mulD2 (retM (.int 39373)) (hasM 0 (ixS 0 (retM (.int 2)))))) (varM 3)) (retM (.int 2147483587))) (gSetM 4))
    (seqM (asgM (binM modD (binM addD (binM mulD2 (varM 4) (binM addD (binM modD (varM 4) (retM (.int 30011))) (retM (.int 5)))) (hasM 0 (ixS 0 (retM (.int 2))))) (retM (.int 2147483563))) (gSetM 5))
    (retS (binM modD (binM fdivD (binM modD (binM mulD2 (varM 5) (binM addD (binM modD (varM 5) (retM (.int 1013))) (retM (.int 3)))) (retM (.int 998244353))) (retM (.int 16))) (varM 1)))))))))
noncomputable def m__law_draw : Nat → Fn
  | 0 => fun _ => none
  | n + 1 => defM [true, true] 6 (b__law_draw (m__law_draw n))
noncomputable def b__law_pick : SM := (retS (hasM 1 (ixS 1 (callM (m__law_draw 12) [.s 0, .v (frzM (roM lenD [.s 1]))]))))
noncomputable def m__law_pick : Fn := defM [true, true] 2 b__law_pick
noncomputable def b__law_random_state : SM := (retS (cbM tupleD [(compM [2, 3] (seqI (hasM 1 (ixS 1 (retM (.int 1))))) (gTupM 2 (gConsM (gSetM 2) (gConsM (gSetM 3) gNilM))) none (callM m__law_pick [.s 0, .v (frzM (lstM [(retM (.int 0)), (varM 3), (callM (m__law_draw 12) [.s 0, .v (frzM (binM addD (varM 3) (retM (.int 1))))])]))]))]))
noncomputable def m__law_random_state : Fn := defM [true, true] 4 b__law_random_state
noncomputable def b__law_as_lists (m : Fn) : SM := (retS (ifM (roM isiD [.s 0, .v (tupM [(retM (.vl (.ty "list"))), (retM (.vl (.ty "tuple")))])]) (compM [1] (walkM comb1 [.s 0]) (gSetM 1) none (callM m [.v (varM 1)])) (varM 0)))
noncomputable def m__law_as_lists : Nat → Fn
  | 0 => fun _ => none
  | n + 1 => defM [true] 2 (b__law_as_lists (m__law_as_lists n))
noncomputable def b_segment_starts : SM := (seqM (asgM (lstM []) (gSetM 1))
    (seqM (forM (walkM enumD [.v (hasM 0 (ixS 0 (retM (.int 1))))]) (gTupM 2 (gConsM (gSetM 2) (gConsM (gTupM 2 (gConsM (gSetM 3) (gConsM (gSetM 4) gNilM))) gNilM)))
    (seqM (asgM (andM (roM (op2 gtD) [.s 2, .v (retM (.int 0))]) (roM (op2 leD) [.v (binM subD (varM 3) (binM ixD (binM ixD (hasM 0 (ixS 0 (retM (.int 1)))) (binM subD (varM 2) (retM (.int 1)))) (retM (.int 0)))), .v (hasM 0 (ixS 0 (retM (.int 0))))])) (gSetM 5))
    (exprS (appM 1 (ifM (varM 5) (hasM 1 (ixS 1 (unM negD (retM (.int 1))))) (varM 2))))))
    (retS (takeM 1))))
noncomputable def m_segment_starts : Fn := defM [true] 6 b_segment_starts
noncomputable def b_segments : SM := (seqM (asgM (lstM []) (gSetM 1))
    (seqM (forM (walkM enumD [.v (callM m_segment_starts [.v (varM 0)])]) (gTupM 2 (gConsM (gSetM 2) (gConsM (gSetM 3) gNilM)))
    (seqM (ifS (roM (op2 (eqD false)) [.s 2, .s 3]) (exprS (appM 1 (lstM []))) skipM)
    (exprS (app2M 1 (unM negD (retM (.int 1))) 2))))
    (retS (takeM 1))))
noncomputable def m_segments : Fn := defM [true] 4 b_segments
noncomputable def b_is_grounded : SM := (retS (roM (op2 leD) [.v (binM ixD (binM ixD (hasM 0 (ixS 0 (retM (.int 1)))) (retM (.int 0))) (retM (.int 0))), .v (hasM 0 (ixS 0 (retM (.int 0))))]))
noncomputable def m_is_grounded : Fn := defM [true] 1 b_is_grounded
noncomputable def b_suffix_counts : SM := (seqM (asgM (callM m_segment_starts [.v (varM 0)]) (gSetM 2))
    (retS (cbM tupleD [(compM [3, 4] (walkM enumD [.v (varM 2)]) (gTupM 2 (gConsM (gSetM 3) (gConsM (gSetM 4) gNilM))) none (roM sumD [.v (compM [5, 6] (walkM enumD [.s 1]) (gTupM 2 (gConsM (gSetM 5) (gConsM (gSetM 6) gNilM))) (some (andM (roM (op2 geD) [.s 5, .s 3]) (roM (op2 (eqD false)) [.v (hasM 2 (ixS 2 (varM 5))), .s 4]))) (varM 6))]))])))
noncomputable def m_suffix_counts : Fn := defM [true, true] 7 b_suffix_counts
noncomputable def b_state_from_counts : SM := (seqM (par2M 2 3 [(callM m_segment_starts [.v (varM 0)]), (lstM [])])
    (seqM (forM (walkM enumD [.v (varM 2)]) (gTupM 2 (gConsM (gSetM 4) (gConsM (gSetM 5) gNilM)))
    (seqM (asgM (orM (roM (op2 (eqD false)) [.v (binM addD (varM 4) (retM (.int 1))), .v (roM lenD [.s 2])]) (roM (op2 (eqD true)) [.v (hasM 2 (ixS 2 (binM addD (varM 4) (retM (.int 1))))), .s 5])) (gSetM 6))
    (exprS (appM 3 (binM subD (hasM 1 (ixS 1 (varM 4))) (ifM (varM 6) (retM (.int 0)) (hasM 1 (ixS 1 (binM addD (varM 4) (retM (.int 1)))))))))))
    (retS (cbM tupleD [(varM 3)]))))
noncomputable def m_state_from_counts : Fn := defM [true, true] 7 b_state_from_counts
noncomputable def b__law_random_well : SM := (seqM (par3M 3 4 5 [(callM m__law_pick [.s 0, .v (frzM (lstM [(retM (.int 2)), (retM (.int 4)), (retM (.int 9)), (binM powD (retM (.int 10)) (retM (.int 10)))]))]), (lstM []), (retM (.int 0))])
    (seqM (forM (rng1M (binM addD (retM (.int 1)) (callM (m__law_draw 12) [.s 0, .v (varM 1)]))) (gSetM 6)
    (seqM (asgM (binM addD (binM addD (varM 5) (retM (.int 1))) (callM (m__law_draw 12) [.s 0, .v (varM 3)])) (gSetM 5))
    (exprS (appM 4 (tupM [(varM 5), (callM m__law_pick [.s 0, .v (frzM (lstM [(retM (.int 1)), (retM (.int 1)), (binM addD (retM (.int 1)) (callM (m__law_draw 12) [.s 0, .v (varM 2)]))]))])])))))
    (seqM (asgM (compM [9, 10] (walkM (zip2D false) [.s 4, .v (binM addD (lstM [(retM (.int 0))]) (compM [9] (walkM comb1 [.s 4]) (gSetM 9) none (hasM 9 (ixS 9 (retM (.int 0))))))]) (gTupM 2 (gConsM (gSetM 9) (gConsM (gSetM 10) gNilM))) none (binM subD (hasM 9 (ixS 9 (retM (.int 0)))) (varM 10))) (gSetM 7))
    (seqM (asgM (lstM [(roM maxD1 [.s 7]), (roM maxD1 [.s 7]), (callM m__law_pick [.s 0, .v (varM 7)]), (binM addD (retM (.int 1)) (callM (m__law_draw 12) [.s 0, .v (varM 5)])), (binM mulD2 (retM (.int 2)) (roM maxD1 [.s 7])), (varM 5)]) (gSetM 8))
    (retS (tupM [(callM m__law_pick [.s 0, .v (varM 8)]), (cbM tupleD [(varM 4)])]))))))
noncomputable def m__law_random_well : Fn := defM [true, true, true] 11 b__law_random_well
noncomputable def b__law_same (m : Fn) : SM := (seqM (ifS (roM isiD [.s 1, .v (tupM [(retM (.vl (.ty "list"))), (retM (.vl (.ty "tuple")))])]) (seqM (ifS (orM (roM (op2 (eqD true)) [.v (roM isiD [.s 0, .v (retM (.vl (.ty "list")))]), .v (roM isiD [.s 1, .v (retM (.vl (.ty "list")))])]) (roM (op2 (eqD true)) [.v (roM isiD [.s 0, .v (retM (.vl (.ty "tuple")))]), .v (roM isiD [.s 1, .v (retM (.vl (.ty "tuple")))])])) (retS (retM (.bl false))) skipM)
    (retS (andM (roM (op2 (eqD false)) [.v (roM lenD [.s 0]), .v (roM lenD [.s 1])]) (roM allD [.v (compM [2, 3] (walkM (zip2D false) [.s 0, .s 1]) (gTupM 2 (gConsM (gSetM 2) (gConsM (gSetM 3) gNilM))) none (callM m [.v (varM 2), .v (varM 3)]))])))) skipM)
    (seqM (ifS (orM (roM (op2 (isD false)) [.s 1, .v (retM .non)]) (roM isiD [.s 1, .v (retM (.vl (.ty "str")))])) (retS (andM (roM (op2 (eqD false)) [.s 0, .s 1]) (roM (op2 (eqD false)) [.v (roM isiD [.s 0, .v (retM (.vl (.ty "str")))]), .v (roM isiD [.s 1, .v (retM (.vl (.ty "str")))])]))) skipM)
    (retS (andM (roM isiD [.s 0, .v (retM (.vl (.ty "int")))]) (andM (roM (op2 (eqD false)) [.v (roM isiD [.s 0, .v (retM (.vl (.ty "bool")))]), .v (roM isiD [.s 1, .v (retM (.vl (.ty "bool")))])]) (roM (op2 (eqD false)) [.s 0, .s 1]))))))
noncomputable def m__law_same : Nat → Fn
  | 0 => fun _ => none
  | n + 1 => defM [true, true] 4 (b__law_same (m__law_same n))
noncomputable def b__law_fold : SM := (seqM (asgM (cbM listD [(sliceM (varM 0) none (some (varM 1)))]) (gSetM 2))
    (seqM (forM (walkM enumD [.v (sliceM (varM 0) (some (varM 1)) (some (retM (.int 63))))]) (gTupM 2 (gConsM (gSetM 3) (gConsM (gSetM 4) gNilM)))
    (asgM (binM addD (hasM 2 (ixS 2 (binM modD (varM 3) (varM 1)))) (binM mulD2 (varM 4) (binM addD (varM 3) (retM (.int 2))))) (gSubM 2 (binM modD (varM 3) (varM 1)))))
    (retS (takeM 2))))
noncomputable def m__law_fold : Fn := defM [true, true] 5 b__law_fold
noncomputable def b__law_stream : SM := (seqM (asgM (ifM (roM (op2 ltD) [.s 1, .v (roM lenD [.s 0])]) (hasM 0 (ixS 0 (varM 1))) (retM (.int 0))) (gSetM 2))
    (retS (lstM [(binM mulD2 (roM absD [.s 2]) (roM intD1 [.v (roM (op2 geD) [.v (roM absD [.s 2]), .v (binM powD (retM (.int 10)) (retM (.int 18)))])])), (binM modD (binM mulD2 (binM addD (binM addD (binM modD (varM 2) (retM (.int 2147483629))) (binM mulD2 (retM (.int 32452843)) (varM 1))) (retM (.int 61))) (retM (.int 48271))) (retM (.int 2147483647))), (retM (.int 0))])))
noncomputable def m__law_stream : Fn := defM [true, true] 3 b__law_stream
end WC
namespace WF
open PySem PySem.Spec PyProof.Rows L2
end WF
namespace WF
open PySem PySem.Spec PyProof.Rows L2
section
variable {X : Cx}
end
end WF
namespace WF
open PySem PySem.Spec PyProof.Rows L2
def dctL (own : List Nat) (g : GM) (fk fv : EM) : List D → S0 → D → Option (D × S0)
  | [], S, acc => some (acc, S)
  | d :: ds, S, acc => match g d S with
    | none => none
    | some S1 => match fk S1 with
      | some (.ok k, S2) => match fv S2 with
        | some (.ok v, S3) => match dPutD acc k v with
          | some acc' => dctL own g fk fv ds (wipeS S3 own) acc'
          | none => none
        | _ => none
      | _ => none
def dctM (own : List Nat) (fi : IM) (g : GM) (fk fv : EM) : EM := fun S => match fi S with
  | some (.ok ds lent, S1) => if own.all (fun k => decide (k < S1.length)) then match dctL own g fk fv ds (wipeS S1 own) (.dtk true [] []) with
      | some (acc, S2) => some (.ok acc, restS lent (backS S1 S2 own))
      | none => none
    else none
  | some (.ex x, S1) => some (.ex x, S1)
  | none => none
section
variable {c : Cfg} {X : Cx} {σ : L2.St} {H : Hp} {own : List Nat}
end
end WF
namespace WF
open PySem PySem.Spec PyProof.Rows L2
def sortTK : List D → Option D
  | [.dtk _ ks xs] => if D.imms xs = true then (ksI ks).bind fun kss => if kss.all (fun k => !k.isEmpty) = true then some (.lst true ((sortT kss).map tpD)) else none else none
  | _ => none
@[simp] theorem sortTK_dtk {o : Bool} {ks : List (List Key)} {xs : List D} : sortTK [.dtk o ks xs] = if D.imms xs = true then (ksI ks).bind fun kss => if kss.all (fun k => !k.isEmpty) = true then some (.lst true ((sortT kss).map tpD)) else none else none := rfl
end WF
namespace WF
open PySem PySem.Spec PyProof.Rows L2
section
variable {KK : Type} [DecidableEq KK] {prog : Program} {w : World} {knd : HeapKind prog w KK}
end
def dpopK (i : Nat) (k : D) : EM := prM fun S => S[i]?.bind fun d => match d with
  | .dtk true ks xs => if D.imms xs = true then (keyT k).bind fun q => (lk ks xs q).map fun x => (x, S.set i (.dtk true (drK ks q) (drV ks xs q))) else none
  | _ => none
def dtkS (i : Nat) (f : EM) : EM := fun S => match S[i]? with
  | some (.dtk true _ _) => f S
  | _ => none
def dpopM (i : Nat) (fk : EM) : EM := dtkS i (bindM fk (dpopK i))
section
variable {c : Cfg} {X : Cx} {S : S0} {tm tm0 : List Pr} {σ : L2.St} {H : Hp} {i : Nat} {e : Expr} {fk : EM}
end
end WF
namespace WF
open PySem PySem.Spec PyProof.Rows L2
section
variable {c : Cfg} {X : Cx} {σ : L2.St} {H : Hp} {r : List V → Hp → VK → Prop} {op : List D → Option D} {as : List Ar} {e : Expr} {es : List Expr} {x : Str} {id : String} {p pos : Pos}
end
end WF
namespace WF
open PySem PySem.Spec PyProof.Rows L2
def wD (own : List Nat) (g : GM) (fk fv : EM) (ds : List D) (S : S0) (acc : D) (Q : D → S0 → Prop) : Prop := match dctL own g fk fv ds S acc with
  | some (a, S') => Q a S'
  | none => False
section
variable {own : List Nat} {fi : IM} {g : GM} {fk fv : EM} {S : S0} {i : Nat} {Q : D → S0 → Prop}
@[simp] theorem wE_dct : wE (dctM own fi g fk fv) S Q ↔ wI fi S fun ds l S1 => own.all (fun k => decide (k < S1.length)) = true ∧ wD own g fk fv ds (wipeS S1 own) (.dtk true [] []) fun acc S2 => Q acc (restS l (backS S1 S2 own)) := by
  unfold wE wI
  simp only [WF0.wE, dctM, WF0.wI, wD]
  match fi S with
  | none => exact Iff.rfl
  | some (.ex _, _) => exact Iff.rfl
  | some (.ok ds l, S1) =>
    simp only [WF0.oI]
    by_cases h : own.all (fun k => decide (k < S1.length)) = true
    · simp only [h, if_true, true_and]
      match dctL own g fk fv ds (wipeS S1 own) (.dtk true [] []) with
      | none => exact Iff.rfl
      | some (acc, S2) => exact Iff.rfl
    · simp [h, WF0.oE]
@[simp] theorem wE_dtkS {f : EM} {ks : List (List Key)} {xs : List D} (h : S[i]? = some (.dtk true ks xs)) : wE (dtkS i f) S Q ↔ wE f S Q := by
  unfold wE
  simp only [WF0.wE, dtkS, h]
end
end WF
namespace WF
open PySem PySem.Spec PyProof.Rows L2
structure IterV (K : PySem.W.Frag) (J : It) (hold : Nat → List Pr) (ds : List D) : Prop where
  go : ∀ i H L, i < ds.length → Joint K H (hold i ++ L) → J.go i H
  yld : ∀ i H L d x H', ds[i]? = some d → Joint K H (hold i ++ L) → J.yld i H x H' → Joint K H' ((x, d) :: (hold (i + 1) ++ L))
  stop : ∀ H L, Joint K H (hold ds.length ++ L) → J.stop ds.length H
section
variable {c : Cfg} {X : Cx} {S : S0} {tm tm0 : List Pr} {σ σ2 : L2.St} {H : Hp} {own : List Nat}
end
section
variable {K : PySem.W.Frag} {G H H' : Hp} {R L : List Pr} {p q : Addr} {ds xs : List D} {vs : List V} {v : V} {d : D} {m : Nat}
theorem at_perm {α : Type} : ∀ {l : List α} {a : Nat} {x : α}, l[a]? = some x → ∃ Z, l.Perm (x :: Z) ∧ ∀ y, (l.set a y).Perm (y :: Z)
  | x :: l, 0, y, h => by cases h; exact ⟨l, .refl _, fun _ => .refl _⟩
  | x :: l, a + 1, y, h => by
    obtain ⟨Z, p1, p2⟩ := at_perm (l := l) (a := a) (x := y) (by simpa using h)
    exact ⟨x :: Z, (List.Perm.cons _ p1).trans (List.Perm.swap _ _ _), fun z => (List.Perm.cons _ (p2 z)).trans (List.Perm.swap _ _ _)⟩
  | [], _, _, h => by simp at h
theorem zip_set2 : ∀ {vs : List V} {ds : List D} {a : Nat} {u : V} {d : D}, vs[a]? = some u → vs.zip (ds.set a d) = (vs.zip ds).set a (u, d)
  | v :: vs, x :: ds, 0, u, d, h => by cases h; rfl
  | v :: vs, x :: ds, a + 1, u, d, h => by
    rw [List.set_cons_succ, List.zip_cons_cons, zip_set2 (by simpa using h), List.zip_cons_cons, List.set_cons_succ]
  | [], _, _, _, _, h => by simp at h
  | _ :: _, [], _, _, _, _ => by simp
def rowI : D → Option (List Int)
  | .lst true xs => intsD xs
  | _ => none
def rowsI : List D → Option (List (List Int))
  | [] => some []
  | d :: ds => (rowI d).bind fun r => (rowsI ds).map (r :: ·)
def nestI : D → Option (List (List Int))
  | .lst true ds => rowsI ds
  | _ => none
def rwD (r : List Int) : D := .lst true (r.map .int)
theorem rowsI_map : ∀ {rs : List (List Int)}, rowsI (rs.map rwD) = some rs
  | [] => rfl
  | r :: rs => by
    have e : rowI (rwD r) = some r := by
      show intsD (r.map .int) = some r
      induction r with
      | nil => rfl
      | cons a r ih => rw [List.map_cons, intsD, ih]; rfl
    rw [List.map_cons, rowsI, e, rowsI_map]; rfl
theorem Joint.rows {rs : List (List Int)} (j : Joint K H ((v, .lst true (rs.map rwD)) :: R)) : ∃ p vs, v = .ref p ∧ H p = some (.lst vs) ∧ vs.length = rs.length ∧ ∀ (k : Nat) u r, vs[k]? = some u → rs[k]? = some r → ∃ q, u = .ref q ∧ H q = some (.lst (r.map V.int)) := by
  obtain ⟨p, rfl⟩ := j.is_lst
  obtain ⟨vs, hp, hl, k⟩ := j.unlst
  refine ⟨p, vs, rfl, hp, by simpa using hl, fun i u r hu hr => ?_⟩
  have hz : (vs.zip (rs.map rwD))[i]? = some (u, rwD r) := by
    rw [List.getElem?_zip_eq_some, List.getElem?_map, hr]; exact ⟨hu, rfl⟩
  obtain ⟨Z, p1, _⟩ := at_perm hz
  have k2 : Joint K H ((u, rwD r) :: (Z ++ R)) := k.perm (List.Perm.append_right R p1)
  obtain ⟨q, rfl⟩ := k2.is_lst
  obtain ⟨ws, hq, lw, k3⟩ := k2.unlst
  refine ⟨q, rfl, ?_⟩
  rw [hq]
  congr 2
  have key : ∀ {ws : List V} {r : List Int} {Z : List Pr}, ws.length = (r.map D.int).length → Joint K H (ws.zip (r.map D.int) ++ Z) → ws = r.map V.int := fun {ws} {r} {Z} hl k => by
    induction ws generalizing r with
    | nil => cases r with | nil => rfl | cons _ _ => simp at hl
    | cons w ws ih => cases r with
      | nil => simp at hl
      | cons a r =>
        have k : Joint K H ((w, D.int a) :: (ws.zip (r.map D.int) ++ Z)) := k
        rw [k.is_int, ih (by simpa using hl) k.drop]; rfl
  exact key lw k3
theorem Joint.ne {ys : List D} (j : Joint K H ((.ref q, .lst true xs) :: (.ref p, .lst true ys) :: R)) : q ≠ p := by
  obtain ⟨G, fp, g, r, n, z⟩ := j
  cases r with
  | @lo q C vs ds f L fp2 a b e r1 r2 =>
    cases r2 with
    | @lo p C2 vs2 ds2 f2 L2 fp3 a2 b2 e2 r3 r4 =>
      intro e
      subst e
      exact (List.nodup_cons.mp n).1 (List.mem_append_right _ List.mem_cons_self)
end
end WF
namespace WF
open PySem PySem.Spec PyProof.Rows L2
def mvI (i : Nat) : IM := fun S => match S[i]? with
  | some (.lst true ds) => some (.ok ds [], S.set i .un)
  | _ => none
def nixM (i : Nat) (a b : Int) : EM := fun S => match S[i]? with
  | some d => match (nestI d).bind fun rs => (atI rs a).bind fun r => atI r b with
    | some n => some (.ok (.int n), S)
    | none => none
  | none => none
def gSub2M (i a b : Nat) : GM := fun d S => match S[i]? with
  | some (.lst true ds) => match ds[a]? with
    | some (.lst true xs) => if b < xs.length then some (S.set i (.lst true (ds.set a (.lst true (xs.set b d))))) else none
    | _ => none
  | _ => none
def ixAll (k : Int) : List (List Int) → Option (List Int)
  | [] => some []
  | r :: rs => (atI r k).bind fun n => (ixAll k rs).map (n :: ·)
def mapIxM (i : Nat) (k : Int) : EM := fun S => match S[i]? with
  | some d => match (nestI d).bind fun rs => if rs.length < 1000000 then ixAll k rs else none with
    | some ns => some (.ok (.lst true (ns.map .int)), S)
    | none => none
  | none => none
section
variable {c : Cfg} {X : Cx} {S : S0} {tm tm0 : List Pr} {σ : L2.St} {H : Hp} {i : Nat} {e tg : Expr} {pos : Pos}
end
end WF
namespace WF
open PySem PySem.Spec PyProof.Rows L2
def asLo : D → Option (List D)
  | .lst true ds => some ds
  | _ => none
def set2 (a b : Nat) (d : D) : D → Option D
  | .lst true ds => match ds[a]? with
    | some (.lst true xs) => if b < xs.length then some (.lst true (ds.set a (.lst true (xs.set b d)))) else none
    | _ => none
  | _ => none
def mapIx (k : Int) (d : D) : Option (List Int) := (nestI d).bind fun rs => if rs.length < 1000000 then ixAll k rs else none
section
variable {S : S0} {Q : D → S0 → Prop} {i a b : Nat}
@[simp] theorem nestI_rw {rs : List (List Int)} : nestI (.lst true (rs.map rwD)) = some rs := rowsI_map
@[simp] theorem asLo_lst {ds : List D} : asLo (.lst true ds) = some ds := rfl
@[simp] theorem wI_mv {QI : List D → List (Nat × D) → S0 → Prop} : wI (mvI i) S QI ↔ rd (S[i]?.bind asLo) fun ds => QI ds [] (S.set i .un) := by
  unfold wI rd
  show WF0.oI (mvI i S) QI ↔ _
  unfold mvI
  cases h : S[i]? with
  | none => simp [WF0.oI, WF0.rd]
  | some d => cases d with
    | lst o ds => cases o <;> simp [asLo, WF0.oI, WF0.rd]
    | _ => simp [asLo, WF0.oI, WF0.rd]
@[simp] theorem wE_nix {a b : Int} : wE (nixM i a b) S Q ↔ rd (S[i]?.bind fun d => (nestI d).bind fun rs => (atI rs a).bind fun r => atI r b) fun n => Q (.int n) S := by
  unfold wE rd
  show WF0.oE (nixM i a b S) Q ↔ _
  unfold nixM
  cases h : S[i]? with
  | none => simp [WF0.oE, WF0.rd]
  | some d =>
    simp only [Option.bind_some]
    cases h2 : ((nestI d).bind fun rs => (atI rs a).bind fun r => atI r b) <;> simp [WF0.oE, WF0.rd]
@[simp] theorem wE_mapIx {k : Int} : wE (mapIxM i k) S Q ↔ rd (S[i]?.bind (mapIx k)) fun ns => Q (.lst true (ns.map .int)) S := by
  unfold wE rd
  show WF0.oE (mapIxM i k S) Q ↔ _
  unfold mapIxM
  cases h : S[i]? with
  | none => simp [WF0.oE, WF0.rd]
  | some d =>
    simp only [Option.bind_some]
    show WF0.oE (match mapIx k d with
      | some ns => some (.ok (.lst true (ns.map .int)), S)
      | none => none) Q ↔ _
    cases h2 : mapIx k d <;> simp [WF0.oE, WF0.rd]
@[simp] theorem wG_sub2 {d : D} {QG : S0 → Prop} : wG (gSub2M i a b) d S QG ↔ rd (S[i]?.bind (set2 a b d)) fun x => QG (S.set i x) := by
  unfold wG rd
  show WF0.oG (gSub2M i a b d S) QG ↔ _
  unfold gSub2M set2
  cases h : S[i]? with
  | none => simp [WF0.oG, WF0.rd]
  | some x => cases x with
    | lst o ds =>
      cases o with
      | false => simp [WF0.oG, WF0.rd]
      | true =>
        simp only [Option.bind_some]
        cases h2 : ds[a]? with
        | none => simp [WF0.oG, WF0.rd]
        | some y => cases y with
          | lst o xs => cases o with
            | false => simp [WF0.oG, WF0.rd]
            | true => by_cases hb : b < xs.length <;> simp [hb, WF0.oG, WF0.rd]
          | _ => simp [WF0.oG, WF0.rd]
    | _ => simp [WF0.oG, WF0.rd]
end
end WF
namespace WF
open PySem PySem.Spec PyProof.Rows L2
def cntD : D → D → Option D
  | .lst _ xs, .int k => (intsD xs).map fun ns => .int (ns.count k : Nat)
  | _, _ => none
def cntM (i : Nat) (fk : EM) : EM := lstS i (bindM fk fun k S => match S[i]? with
  | some d => match cntD d k with
    | some r => some (.ok r, S)
    | none => none
  | none => none)
def insM (i : Nat) (fk fy : EM) : EM := lstS i (bindM fk fun k => bindM fy fun y => modS i fun xs => match k with
  | .int k => if xs.length < 1000000 ∧ 0 ≤ k ∧ k < 2 ^ 62 then some (.non, xs.take k.toNat ++ [y] ++ xs.drop k.toNat) else none
  | _ => none)
section
variable {c : Cfg} {X : Cx} {S : S0} {tm tm0 : List Pr} {σ : L2.St} {H : Hp} {i : Nat} {e : Expr} {fk fy : EM}
end
section
variable {S : S0} {Q : D → S0 → Prop} {i : Nat} {fk fy : EM}
def isL : D → Option Unit
  | .lst _ _ => some ()
  | _ => none
def insD (k y : D) : D → Option D
  | .lst true xs => match k with
    | .int k => if xs.length < 1000000 ∧ 0 ≤ k ∧ k < 2 ^ 62 then some (.lst true (xs.take k.toNat ++ [y] ++ xs.drop k.toNat)) else none
    | _ => none
  | _ => none
@[simp] theorem isL_lst {o : Bool} {xs : List D} : isL (.lst o xs) = some () := rfl
theorem lstS_rd {f : EM} : wE (lstS i f) S Q ↔ rd (S[i]?.bind isL) fun _ => wE f S Q := by
  unfold wE rd
  simp only [WF0.wE, lstS]
  cases h : S[i]? with
  | none => simp [WF0.rd, WF0.oE]
  | some d => cases d <;> simp [isL, WF0.rd, WF0.oE]
@[simp] theorem wE_cnt : wE (cntM i fk) S Q ↔ rd (S[i]?.bind isL) fun _ => wE fk S fun k S => rd (S[i]?.bind fun d => cntD d k) fun r => Q r S := by
  unfold cntM
  rw [lstS_rd]
  have e : ∀ (k : D) (S : S0), wE (fun S => match S[i]? with
    | some d => match cntD d k with
      | some r => some (.ok r, S)
      | none => none
    | none => none) S Q ↔ rd (S[i]?.bind fun d => cntD d k) fun r => Q r S := fun k S => by
    unfold wE rd
    simp only [WF0.wE]
    cases h : S[i]? with
    | none => simp [WF0.rd, WF0.oE]
    | some d =>
      simp only [Option.bind_some]
      cases h2 : cntD d k <;> simp [WF0.rd, WF0.oE]
  exact iff_of_eq (congrArg (fun F => rd (S[i]?.bind isL) fun _ => F) (propext (wE_bind.trans (iff_of_eq (congrArg (fun F => wE fk S F) (funext fun k => funext fun S => propext (e k S)))))))
@[simp] theorem wE_ins : wE (insM i fk fy) S Q ↔ rd (S[i]?.bind isL) fun _ => wE fk S fun k S => wE fy S fun y S => rd (S[i]?.bind (insD k y)) fun d => Q .non (S.set i d) := by
  unfold insM
  rw [lstS_rd]
  have e : ∀ (k y : D) (S : S0), wE (modS i fun xs => match k with
    | .int k => if xs.length < 1000000 ∧ 0 ≤ k ∧ k < 2 ^ 62 then some (.non, xs.take k.toNat ++ [y] ++ xs.drop k.toNat) else none
    | _ => none) S Q ↔ rd (S[i]?.bind (insD k y)) fun d => Q .non (S.set i d) := fun k y S => by
    unfold wE rd
    simp only [WF0.wE, modS]
    cases h : S[i]? with
    | none => simp [WF0.rd, WF0.oE]
    | some d => cases d with
      | lst o xs => cases o with
        | false => simp [insD, WF0.rd, WF0.oE]
        | true => cases k with
          | int k =>
            simp only [insD, Option.bind_some]
            by_cases c : xs.length < 1000000 ∧ 0 ≤ k ∧ k < 2 ^ 62
            · rw [if_pos c, if_pos c]; simp [WF0.rd, WF0.oE]
            · rw [if_neg c, if_neg c]; simp [WF0.rd, WF0.oE]
          | _ => simp [insD, WF0.rd, WF0.oE]
      | _ => simp [insD, WF0.rd, WF0.oE]
  exact iff_of_eq (congrArg (fun F => rd (S[i]?.bind isL) fun _ => F) (propext (wE_bind.trans (iff_of_eq (congrArg (fun F => wE fk S F) (funext fun k => funext fun S => propext (wE_bind.trans (iff_of_eq (congrArg (fun F => wE fy S F) (funext fun y => funext fun S => propext (e k y S)))))))))))
@[simp] theorem cntD_ints {o : Bool} {ns : List Int} {k : Int} : cntD (.lst o (ns.map .int)) (.int k) = some (.int (ns.count k : Nat)) := by
  show (intsD (ns.map .int)).map _ = _
  have : intsD (ns.map .int) = some ns := by
    induction ns with
    | nil => rfl
    | cons a r ih => rw [List.map_cons, intsD, ih]; rfl
  rw [this]; rfl
end
end WF
namespace WF
open PySem PySem.Spec PyProof.Rows L2
structure FnOkG (P : Program) (w : World) (K : PySem.W.Frag) (mg : Str → Option Value) (base : Heap) (CX : CXT) (k : Nat) (f : Addr) (fd : FuncData) (ps : List Str) (sp : Sp) : Prop where
  len : ∀ ws Hp0 QQ EE, sp ws Hp0 QQ EE → ws.length = ps.length
  runG : ∀ (A : Around) (ou : List Env) (s : Shared) (H : Hp) (ar : Args) (us : List Value) (ws : List V) (QQ : VK) (EE : XK), A.guards = some [] → Room k A → Env0 P w K mg base A ou s H → BindsTo s fd ar (ps.zip us) → Vals ws us → sp ws H QQ EE →
    codeAny (model P w) A (.call (.ref f) ar) (CR CX ou P w H s QQ EE) s
section
variable {P : Program} {w : World} {K : PySem.W.Frag} {mg : Str → Option Value} {base : Heap} {CX : CXT}
end
section
variable {P : Program} {w : World} {K : PySem.W.Frag} {mg : Str → Option Value} {base : Heap}
end
section
variable {X : Cx} {c : Cfg} {k n : Nat} {f : Addr} {fd : FuncData} {ps : List Str} {m : Fn} {as : List Ar} {x : Str} {p pos : Pos} {e : Expr} {es : List Expr} {sp : Sp} {E : XK} {t : TA}
end
def txtD (d : D) : Option D := match d.py with
  | some y => if y.showable = true ∧ y.hasDict = false ∧ y.depth ≤ 40 ∧ y.shown.length ≤ sizeLine then some (.str y.shown) else none
  | none => none
def reprD : List D → Option D
  | [.tup xs] => txtD (.tup xs)
  | [.lst o xs] => txtD (.lst o xs)
  | _ => none
def eqSD (neg : Bool) (a b : D) : Option D := match a, b with
  | .str x, .str y => some (.bl (if neg then !decide (x = y) else decide (x = y)))
  | _, _ => none
end WF
namespace WF
open PySem PySem.Spec PyProof.Rows L2
section
variable {prog : Program} {w : World} {A : Around} {E : Value → Shared → Prop} {s : Shared} {i : Nat} {z TI TO : Addr} {qs : List Sr} {old : Array Value} {f1 : Bool} {f0 : Value}
end
section
variable {X : Cx} {c : Cfg} {e e1 e2 : Expr} {es : List Expr} {p pos npos : Pos} {nx : Str} {ta : TA} {y1 y2 : Ar}
end
end WF
namespace WF
open PySem PySem.Spec PyProof.Rows L2
section
variable {prog : Program} {w : World} {A : Around} {E : Value → Shared → Prop} {s : Shared} {Q : Value → Shared → Prop} {l : Addr} {its : List Value} {ns : List Int}
end
end WF
namespace WF
open PySem PySem.Spec PyProof.Rows L2
def oiV : Option Int → V
  | none => .non
  | some n => .int n
def oiE : Option Int → D
  | none => .non
  | some n => .int n
@[simp] theorem oiE_none : oiE none = .non := rfl
@[simp] theorem oiE_some {n : Int} : oiE (some n) = .int n := rfl
def xsO : List D → Option (List (Option Int))
  | [] => some []
  | .int n :: r => (xsO r).map (some n :: ·)
  | .non :: r => (xsO r).map (none :: ·)
  | _ => none
@[simp] theorem xsO_of : ∀ {l : List (Option Int)}, xsO (l.map oiE) = some l
  | [] => rfl
  | none :: l => by
    show (xsO (l.map oiE)).map (none :: ·) = _
    rw [xsO_of]; rfl
  | some n :: l => by
    show (xsO (l.map oiE)).map (some n :: ·) = _
    rw [xsO_of]; rfl
def itK (f : Int × Option Int → D) (i : Nat) : IM := fun S => match S[i]? with
  | some (.dic true ks xs) => (intKeys ks).bind fun kss => (xsO xs).bind fun ns => if kss.length = ns.length then some (.ok ((kss.zip ns).map f) [(i, .dic true ks xs)], S.set i .un) else none
  | _ => none
section
variable {K : PySem.W.Frag} {H H' : Hp} {R : List Pr} {p : Addr} {ns : List (Option Int)} {u : HO}
theorem Joint.oi {v : V} {x : Option Int} (j : Joint K H ((v, oiE x) :: R)) : v = oiV x := by
  cases x with
  | none =>
    have := j.dp (y := .none) rfl
    cases this; rfl
  | some n =>
    have := j.dp (y := .int n) rfl
    cases this; rfl
end
section
variable {c : Cfg} {X : Cx} {S : S0} {tm : List Pr} {σ : L2.St} {H : Hp} {e tg : Expr} {apos cpos : Pos} {i : Nat}
end
def asDK : D → Option (List Key × List D)
  | .dic true ks xs => some (ks, xs)
  | _ => none
@[simp] theorem asDK_dic {ks : List Key} {xs : List D} : asDK (.dic true ks xs) = some (ks, xs) := rfl
@[simp] theorem wI_itK {f : Int × Option Int → D} {i : Nat} {S : S0} {Q : List D → List (Nat × D) → S0 → Prop} : wI (itK f i) S Q ↔ rd ((S[i]?.bind asDK).bind fun p => (intKeys p.1).bind fun kss => (xsO p.2).bind fun ns => if kss.length = ns.length then some ((kss.zip ns).map f, p) else none) fun r => Q r.1 [(i, .dic true r.2.1 r.2.2)] (S.set i .un) := by
  unfold wI rd
  show WF0.oI (itK f i S) Q ↔ _
  unfold itK
  cases h : S[i]? with
  | none => simp [WF0.oI, WF0.rd]
  | some d =>
    cases d with
    | dic o ks xs =>
      cases o with
      | false => simp [WF0.oI, WF0.rd, asDK]
      | true =>
        simp only [Option.bind_some, asDK_dic]
        cases hk : intKeys ks with
        | none => simp [WF0.oI, WF0.rd]
        | some kss =>
          simp only [Option.bind_some]
          cases hn : xsO xs with
          | none => simp [WF0.oI, WF0.rd]
          | some ns =>
            simp only [Option.bind_some]
            by_cases hl : kss.length = ns.length
            · simp [hl, WF0.oI, WF0.rd]
            · simp [hl, WF0.oI, WF0.rd]
    | _ => simp [WF0.oI, WF0.rd, asDK]
end WF
namespace WF
open PySem PySem.Spec PyProof.Rows L2
section
variable {c : Cfg} {X : Cx}
end
end WF
namespace WF
open PySem PySem.Spec PyProof.Rows L2
def compKM (own : List Nat) (i : Nat) (g : GM) (fe : List (List Int × Int) → EM) : EM := fun S => match S[i]? with
  | some (.dtk true ks xs) => match ksI ks, intsD xs with
    | some kss, some ns => compM own (kyI i) g none (fe (kss.zip ns)) S
    | _, _ => none
  | _ => none
def Cfg.hl (c : Cfg) (d : Addr) (o : Obj) (l : List (List Int × Int)) : Cfg := { c with rs := (.ref d, .hld (.frz o (.dT (l.map kvR)))) :: c.rs }
section
variable {c : Cfg} {X : Cx} {S : S0} {tm tm0 tm' : List Pr} {σ σ2 : L2.St} {H : Hp} {own : List Nat} {d : Addr} {o : Obj} {l : List (List Int × Int)}
def hfind (l : List (List Int × Int)) (ks : List Key) : Option D := match valV (l.map kvR) ks with
  | some (.int n) => some (.int n)
  | _ => none
def hgetM (l : List (List Int × Int)) (fk : EM) : EM := bindM fk fun k => optM ((keyT k).bind fun ks => hfind l ks)
end
@[simp] theorem wE_compKM {own : List Nat} {i : Nat} {g : GM} {fe : List (List Int × Int) → EM} {S : S0} {Q : D → S0 → Prop} : wE (compKM own i g fe) S Q ↔ rd ((S[i]?.bind asDT).bind fun p => (ksI p.1).bind fun kss => (intsD p.2).bind fun ns => some (kss.zip ns)) fun l => wE (compM own (kyI i) g none (fe l)) S Q := by
  unfold wE rd
  show WF0.oE (compKM own i g fe S) Q ↔ _
  unfold compKM
  cases h : S[i]? with
  | none => simp [WF0.oE, WF0.rd]
  | some d =>
    cases d with
    | dtk o ks xs =>
      cases o with
      | false => simp [WF0.oE, WF0.rd, asDT]
      | true =>
        simp only [Option.bind_some, asDT_dtk]
        cases hk : ksI ks with
        | none => simp [WF0.oE, WF0.rd]
        | some kss =>
          cases hn : intsD xs with
          | none => simp [WF0.oE, WF0.rd]
          | some ns => simp [WF0.rd, WF0.wE]
    | _ => simp [WF0.oE, WF0.rd, asDT]
@[simp] theorem wE_hget {l : List (List Int × Int)} {fk : EM} {S : S0} {Q : D → S0 → Prop} : wE (hgetM l fk) S Q ↔ wE (bindM fk fun k => optM ((keyT k).bind fun ks => hfind l ks)) S Q := Iff.rfl
end WF
namespace WF
open PySem PySem.Spec PyProof.Rows L2
section
variable {X : Cx} {pins : List (Addr × Obj)} {σ : L2.St} {A : Around} {z TI TO : Addr} {ts : List Addr} {xs : List (Addr × Bool)}
end
section
variable {X : Cx} {c : Cfg} {pins : List (Addr × Obj)} {σ : L2.St} {A1 : Around} {z TI TO q : Addr} {ts : List Addr} {xs : List (Addr × Bool)} {S1 : S0} {tm hold : List Pr} {rows : List D} {Rs : Result → Shared → Prop}
end
def listZM (comb : List (List D) → Option (List D)) (as : List Ar) : EM := fun S => match walkM comb as S with
  | some (.ok rows [], S1) => if rows.length ≤ 1000000 then some (.ok (.lst true rows), S1) else none
  | _ => none
section
variable {X : Cx} {c : Cfg} {e e1 e2 e3 : Expr} {es : List Expr} {p pos p2 pos2 : Pos} {as : List Ar} {y1 y2 y3 : Ar} {comb : List (List D) → Option (List D)}
end
@[simp] theorem wE_listZM {comb : List (List D) → Option (List D)} {as : List Ar} {S : S0} {Q : D → S0 → Prop} : wE (listZM comb as) S Q ↔ wI (walkM comb as) S fun rows lent S1 => lent = [] ∧ rows.length ≤ 1000000 ∧ Q (.lst true rows) S1 := by
  unfold wE wI
  show WF0.oE (listZM comb as S) Q ↔ WF0.oI (walkM comb as S) _
  unfold listZM
  cases h : walkM comb as S with
  | none => simp [WF0.oE, WF0.oI]
  | some o =>
    obtain ⟨o, S1⟩ := o
    cases o with
    | ex x => simp [WF0.oE, WF0.oI]
    | ok rows lent =>
      cases lent with
      | nil =>
        by_cases hl : rows.length ≤ 1000000
        · simp [hl, WF0.oE, WF0.oI]
        · simp [hl, WF0.oE, WF0.oI]
      | cons _ _ => simp [WF0.oE, WF0.oI]
end WF
namespace WF
open PySem PySem.Spec PyProof.Rows L2
section
variable {c : Cfg} {X : Cx} {e : Expr} {fe : EM} {p p2 q pos : Pos}
end
end WF
namespace WF
open PySem PySem.Spec PyProof.Rows L2
abbrev TbN := Addr × (Nat → Nat → Str)
structure Pins (K : PySem.W.Frag) (G H : Hp) (L : List Pr) (fp U F : List Addr) (T : List TbN) : Prop where
  pm : fp.Perm (F ++ T.map Prod.fst)
  u : ∀ a ∈ U, ∃ u, G a = some u ∧ ∀ ps, u ≠ .tbl ps
  o : ∀ a ∈ F, ∃ u, H a = some u ∧ HldOk u
  t : ∀ x ∈ T, TabG G H x.1 x.2
  back : ∀ G2 H2 : Hp, (∀ a ∈ U, G2 a = G a) → (∀ a ∈ F, H2 a = H a) → (∀ x ∈ T, TabG G2 H2 x.1 x.2) → Reps K G2 H2 L fp
  fz : ∀ G2 H2 : Hp, (∀ a ∈ U, G2 a = G a) → (∀ a ∈ F, G2 a = H a) → Reps K G2 H2 (L.map fun x => (x.1, x.2.frz)) []
section
variable {K : PySem.W.Frag} {G H : Hp} {C L L' : List Pr} {f fp U1 F1 U2 F2 : List Addr} {T1 T2 : List TbN}
theorem Pins.none : Pins K G H [] [] [] [] [] where
  pm := .refl _
  u := fun _ m => nomatch m
  o := fun _ m => nomatch m
  t := fun _ m => nomatch m
  back := fun _ _ _ _ _ => .nil
  fz := fun _ _ _ _ => .nil
theorem Pins.mk2 (P1 : Pins K G H C f U1 F1 T1) (P2 : Pins K G H L fp U2 F2 T2) (E W : List Addr) (hE : ∀ a ∈ E, ∃ u, G a = some u ∧ ∀ ps, u ≠ .tbl ps) (hW : ∀ a ∈ W, ∃ u, H a = some u ∧ HldOk u)
    (back : ∀ G2 H2 : Hp, (∀ a ∈ E, G2 a = G a) → (∀ a ∈ W, H2 a = H a) → Reps K G2 H2 C f → Reps K G2 H2 L fp → Reps K G2 H2 L' (W ++ (f ++ fp)))
    (fz : ∀ G2 H2 : Hp, (∀ a ∈ E, G2 a = G a) → (∀ a ∈ W, G2 a = H a) → Reps K G2 H2 (C.map fun x => (x.1, x.2.frz)) [] → Reps K G2 H2 (L.map fun x => (x.1, x.2.frz)) [] → Reps K G2 H2 (L'.map fun x => (x.1, x.2.frz)) []) :
    ∃ U F T, Pins K G H L' (W ++ (f ++ fp)) U F T := by
  refine ⟨E ++ (U1 ++ U2), W ++ (F1 ++ F2), T1 ++ T2, ?_, fun a m => ?_, fun a m => ?_, fun x m => ?_, fun G2 H2 h1 h2 h3 => ?_, fun G2 H2 h1 h2 => ?_⟩
  · rw [List.append_assoc]
    refine List.Perm.append_left _ ((P1.pm.append P2.pm).trans ?_)
    rw [List.map_append]
    exact List.perm_iff_count.mpr fun a => by simp only [List.count_append]; omega
  · rcases List.mem_append.mp m with m | m
    · exact hE a m
    · rcases List.mem_append.mp m with m | m
      · exact P1.u a m
      · exact P2.u a m
  · rcases List.mem_append.mp m with m | m
    · exact hW a m
    · rcases List.mem_append.mp m with m | m
      · exact P1.o a m
      · exact P2.o a m
  · rcases List.mem_append.mp m with m | m
    · exact P1.t x m
    · exact P2.t x m
  · refine back G2 H2 (fun a m => h1 a (List.mem_append_left _ m)) (fun a m => h2 a (List.mem_append_left _ m)) (P1.back G2 H2 (fun a m => h1 a ?_) (fun a m => h2 a ?_) fun x m => h3 x (List.mem_append_left _ m)) (P2.back G2 H2 (fun a m => h1 a ?_) (fun a m => h2 a ?_) fun x m => h3 x (List.mem_append_right _ m)) <;> simp [m]
  · refine fz G2 H2 (fun a m => h1 a (List.mem_append_left _ m)) (fun a m => h2 a (List.mem_append_left _ m)) (P1.fz G2 H2 (fun a m => h1 a ?_) fun a m => h2 a ?_) (P2.fz G2 H2 (fun a m => h1 a ?_) fun a m => h2 a ?_) <;> simp [m]
theorem hk_lst {xs : List V} : HldOk (.lst xs) := ⟨(fun _ e => by cases e), (fun _ e => by cases e), (fun _ e => by cases e), (fun _ e => by cases e)⟩
theorem hk_dK {xs : List (Key × V)} : HldOk (.dK xs) := ⟨(fun _ e => by cases e), (fun _ e => by cases e), (fun _ e => by cases e), (fun _ e => by cases e)⟩
theorem hk_dT {xs : List (List Key × V)} : HldOk (.dT xs) := ⟨(fun _ e => by cases e), (fun _ e => by cases e), (fun _ e => by cases e), (fun _ e => by cases e)⟩
theorem hk_ins {a : Addr} {dx : Addr} {kvs : List (Str × V)} : HldOk (.ins a dx kvs) := ⟨(fun _ e => by cases e), (fun _ e => by cases e), (fun _ e => by cases e), (fun _ e => by cases e)⟩
theorem hk_own {a : Addr} : HldOk (.own a) := ⟨(fun _ e => by cases e), (fun _ e => by cases e), (fun _ e => by cases e), (fun _ e => by cases e)⟩
theorem e1_of {p : Addr} {u : HO} (h : G p = some u) (n : ∀ ps, u ≠ .tbl ps) : ∀ a ∈ [p], ∃ u, G a = some u ∧ ∀ ps, u ≠ .tbl ps := fun a m => by
  rw [List.mem_singleton.mp m]; exact ⟨u, h, n⟩
theorem w1_of {p : Addr} {u : HO} (h : H p = some u) (n : HldOk u) : ∀ a ∈ [p], ∃ u, H a = some u ∧ HldOk u := fun a m => by
  rw [List.mem_singleton.mp m]; exact ⟨u, h, n⟩
theorem nl_of {P : Addr → Prop} : ∀ a ∈ ([] : List Addr), P a := fun _ m => nomatch m
theorem m1 {C : List Pr} {vs : List V} (e : C.map Prod.fst = vs) : (C.map fun x : Pr => (x.1, x.2.frz)).map Prod.fst = vs := by
  rw [← e, List.map_map]; rfl
theorem m2 {C : List Pr} {ds : List D} (e : C.map Prod.snd = ds) : (C.map fun x : Pr => (x.1, x.2.frz)).map Prod.snd = D.frzs ds := by
  rw [← e, List.map_map, D.frzs_map, List.map_map]; rfl
theorem Reps.pins (r : Reps K G H L fp) : ∃ U F T, Pins K G H L fp U F T := by
  induction r with
  | nil => exact ⟨_, _, _, .none⟩
  | un _ ih => obtain ⟨U, F, T, P⟩ := ih; exact Pins.none.mk2 P [] [] nl_of nl_of (fun _ _ _ _ _ r => .un r) fun _ _ _ _ _ r => .un r
  | non _ ih => obtain ⟨U, F, T, P⟩ := ih; exact Pins.none.mk2 P [] [] nl_of nl_of (fun _ _ _ _ _ r => .non r) fun _ _ _ _ _ r => .non r
  | bl _ ih => obtain ⟨U, F, T, P⟩ := ih; exact Pins.none.mk2 P [] [] nl_of nl_of (fun _ _ _ _ _ r => .bl r) fun _ _ _ _ _ r => .bl r
  | int _ ih => obtain ⟨U, F, T, P⟩ := ih; exact Pins.none.mk2 P [] [] nl_of nl_of (fun _ _ _ _ _ r => .int r) fun _ _ _ _ _ r => .int r
  | str _ ih => obtain ⟨U, F, T, P⟩ := ih; exact Pins.none.mk2 P [] [] nl_of nl_of (fun _ _ _ _ _ r => .str r) fun _ _ _ _ _ r => .str r
  | vl _ ih => obtain ⟨U, F, T, P⟩ := ih; exact Pins.none.mk2 P [] [] nl_of nl_of (fun _ _ _ _ _ r => .vl r) fun _ _ _ _ _ r => .vl r
  | @hld p u L fp q a _ ih =>
    obtain ⟨U, F, T, P⟩ := ih
    exact Pins.none.mk2 P [] [p] nl_of (w1_of a q) (fun _ H2 _ h _ r => .hld q (by rw [h p List.mem_cons_self]; exact a) r) fun _ _ _ _ _ r => .un r
  | @con p u L fp q a _ ih =>
    obtain ⟨U, F, T, P⟩ := ih
    exact Pins.none.mk2 P [p] [] (e1_of a q) nl_of (fun G2 _ h _ _ r => .con q (by rw [h p List.mem_cons_self]; exact a) r) fun G2 _ h _ _ r => .con q (by rw [h p List.mem_cons_self]; exact a) r
  | @tab p nm L fp a _ ih =>
    obtain ⟨U, F, T, P⟩ := ih
    refine ⟨U, F, (p, nm) :: T, ?_, P.u, P.o, fun x m => ?_, fun G2 H2 h1 h2 h3 => .tab (h3 _ List.mem_cons_self) (P.back G2 H2 h1 h2 fun x m => h3 x (List.mem_cons_of_mem _ m)), fun G2 H2 h1 h2 => .un (P.fz G2 H2 h1 h2)⟩
    · rw [List.map_cons]
      exact (P.pm.cons p).trans List.perm_middle.symm
    · rcases List.mem_cons.mp m with rfl | m
      · exact a
      · exact P.t x m
  | @«of» p dx c fs kvs C ds L fp a a2 e b c' _ _ ih1 ih2 =>
    obtain ⟨U1, F1, T1, P1⟩ := ih1
    obtain ⟨U2, F2, T2, P2⟩ := ih2
    refine P1.mk2 P2 [p, dx] [] (fun x m => ?_) nl_of (fun G2 _ h _ r1 r2 => .of (by rw [h p (by simp)]; exact a) (by rw [h dx (by simp)]; exact a2) e b c' r1 r2) fun G2 _ h _ r1 r2 => .of (by rw [h p (by simp)]; exact a) (by rw [h dx (by simp)]; exact a2) e (m1 b) (m2 c') r1 r2
    simp only [List.mem_cons, List.not_mem_nil, or_false] at m
    rcases m with rfl | rfl
    · exact ⟨_, a, fun _ e => by cases e⟩
    · exact ⟨_, a2, fun _ e => by cases e⟩
  | @oo p dx c fs kvs C ds f L fp a a2 e b c' _ _ ih1 ih2 =>
    obtain ⟨U1, F1, T1, P1⟩ := ih1
    obtain ⟨U2, F2, T2, P2⟩ := ih2
    refine P1.mk2 P2 [] [p, dx] nl_of (fun x m => ?_) (fun _ H2 _ h r1 r2 => Reps.oo (f := f) (fp := fp) (by rw [h p (by simp)]; exact a) (by rw [h dx (by simp)]; exact a2) e b c' r1 r2) fun G2 _ _ h r1 r2 => .of (by rw [h p (by simp)]; exact a) (by rw [h dx (by simp)]; exact a2) e (m1 b) (m2 c') r1 r2
    simp only [List.mem_cons, List.not_mem_nil, or_false] at m
    rcases m with rfl | rfl
    · exact ⟨_, a, hk_ins⟩
    · exact ⟨_, a2, hk_own⟩
  | @scr p ns L fp a _ ih =>
    obtain ⟨U, F, T, P⟩ := ih
    rcases a with (a | ⟨o, a⟩) | a
    · exact Pins.none.mk2 P [p] [] (e1_of a fun _ e => by cases e) nl_of (fun G2 _ h _ _ r => .scr (.inl (.inl (by rw [h p List.mem_cons_self]; exact a))) r) fun G2 _ h _ _ r => .scr (.inl (.inl (by rw [h p List.mem_cons_self]; exact a))) r
    · exact Pins.none.mk2 P [p] [] (e1_of a fun _ e => by cases e) nl_of (fun G2 _ h _ _ r => .scr (.inl (.inr ⟨o, by rw [h p List.mem_cons_self]; exact a⟩)) r) fun G2 _ h _ _ r => .scr (.inl (.inr ⟨o, by rw [h p List.mem_cons_self]; exact a⟩)) r
    · exact Pins.none.mk2 P [] [] nl_of nl_of (fun G2 _ h _ _ r => .scr (.inr a) r) fun G2 _ h _ _ r => .scr (.inr a) r
  | @tup p C vs ds f L fp a b c _ _ ih1 ih2 =>
    obtain ⟨U1, F1, T1, P1⟩ := ih1
    obtain ⟨U2, F2, T2, P2⟩ := ih2
    exact P1.mk2 P2 [p] [] (e1_of a fun _ e => by cases e) nl_of (fun G2 _ h _ r1 r2 => Reps.tup (f := f) (fp := fp) (by rw [h p List.mem_cons_self]; exact a) b c r1 r2) fun G2 _ h _ r1 r2 => Reps.tup (f := []) (by rw [h p List.mem_cons_self]; exact a) (m1 b) (m2 c) r1 r2
  | @exn p dd c fs kvs C ds L fp a a2 e b c' _ _ ih1 ih2 =>
    obtain ⟨U1, F1, T1, P1⟩ := ih1
    obtain ⟨U2, F2, T2, P2⟩ := ih2
    rcases a2 with a2 | ⟨dx, z, a2⟩
    · exact P1.mk2 P2 [p] [] (e1_of a fun _ e => by cases e) nl_of (fun G2 _ h _ r1 r2 => .exn (by rw [h p List.mem_cons_self]; exact a) (.inl a2) e b c' r1 r2) fun G2 _ h _ r1 r2 => .exn (by rw [h p List.mem_cons_self]; exact a) (.inl a2) e (m1 b) (m2 c') r1 r2
    · refine P1.mk2 P2 [p, dx] [] (fun x m => ?_) nl_of (fun G2 _ h _ r1 r2 => .exn (by rw [h p (by simp)]; exact a) (.inr ⟨dx, z, by rw [h dx (by simp)]; exact a2⟩) e b c' r1 r2) fun G2 _ h _ r1 r2 => .exn (by rw [h p (by simp)]; exact a) (.inr ⟨dx, z, by rw [h dx (by simp)]; exact a2⟩) e (m1 b) (m2 c') r1 r2
      simp only [List.mem_cons, List.not_mem_nil, or_false] at m
      rcases m with rfl | rfl
      · exact ⟨_, a, fun _ e => by cases e⟩
      · exact ⟨_, a2, fun _ e => by cases e⟩
  | @lf p C vs ds L fp a b c _ _ ih1 ih2 =>
    obtain ⟨U1, F1, T1, P1⟩ := ih1
    obtain ⟨U2, F2, T2, P2⟩ := ih2
    exact P1.mk2 P2 [p] [] (e1_of a fun _ e => by cases e) nl_of (fun G2 _ h _ r1 r2 => .lf (by rw [h p List.mem_cons_self]; exact a) b c r1 r2) fun G2 _ h _ r1 r2 => .lf (by rw [h p List.mem_cons_self]; exact a) (m1 b) (m2 c) r1 r2
  | @lo p C vs ds f L fp a b c _ _ ih1 ih2 =>
    obtain ⟨U1, F1, T1, P1⟩ := ih1
    obtain ⟨U2, F2, T2, P2⟩ := ih2
    exact P1.mk2 P2 [] [p] nl_of (w1_of a hk_lst) (fun _ H2 _ h r1 r2 => Reps.lo (f := f) (fp := fp) (by rw [h p List.mem_cons_self]; exact a) b c r1 r2) fun G2 _ _ h r1 r2 => .lf (by rw [h p List.mem_cons_self]; exact a) (m1 b) (m2 c) r1 r2
  | @kf p C ks ds kvs L fp a e b c _ _ ih1 ih2 =>
    obtain ⟨U1, F1, T1, P1⟩ := ih1
    obtain ⟨U2, F2, T2, P2⟩ := ih2
    exact P1.mk2 P2 [p] [] (e1_of a fun _ e => by cases e) nl_of (fun G2 _ h _ r1 r2 => .kf (by rw [h p List.mem_cons_self]; exact a) e b c r1 r2) fun G2 _ h _ r1 r2 => .kf (by rw [h p List.mem_cons_self]; exact a) e (m1 b) (m2 c) r1 r2
  | @ko p C ks ds kvs f L fp a e b c _ _ ih1 ih2 =>
    obtain ⟨U1, F1, T1, P1⟩ := ih1
    obtain ⟨U2, F2, T2, P2⟩ := ih2
    exact P1.mk2 P2 [] [p] nl_of (w1_of a hk_dK) (fun _ H2 _ h r1 r2 => Reps.ko (f := f) (fp := fp) (by rw [h p List.mem_cons_self]; exact a) e b c r1 r2) fun G2 _ _ h r1 r2 => .kf (by rw [h p List.mem_cons_self]; exact a) e (m1 b) (m2 c) r1 r2
  | @tf p C ks ds kvs L fp a e b c _ _ ih1 ih2 =>
    obtain ⟨U1, F1, T1, P1⟩ := ih1
    obtain ⟨U2, F2, T2, P2⟩ := ih2
    exact P1.mk2 P2 [p] [] (e1_of a fun _ e => by cases e) nl_of (fun G2 _ h _ r1 r2 => .tf (by rw [h p List.mem_cons_self]; exact a) e b c r1 r2) fun G2 _ h _ r1 r2 => .tf (by rw [h p List.mem_cons_self]; exact a) e (m1 b) (m2 c) r1 r2
  | @to p C ks ds kvs f L fp a e b c _ _ ih1 ih2 =>
    obtain ⟨U1, F1, T1, P1⟩ := ih1
    obtain ⟨U2, F2, T2, P2⟩ := ih2
    exact P1.mk2 P2 [] [p] nl_of (w1_of a hk_dT) (fun _ H2 _ h r1 r2 => Reps.to (f := f) (fp := fp) (by rw [h p List.mem_cons_self]; exact a) e b c r1 r2) fun G2 _ _ h r1 r2 => .tf (by rw [h p List.mem_cons_self]; exact a) e (m1 b) (m2 c) r1 r2
end
def crow (J : Hp) (a : Addr) : Pr := match J a with
  | some u => (.ref a, .con u)
  | none => (.ref a, .un)
def hrow (J : Hp) (a : Addr) : Pr := match J a with
  | some u => (.ref a, .hld u)
  | none => (.ref a, .un)
def trow (x : TbN) : Pr := (.ref x.1, .tab x.2)
section
variable {K : PySem.W.Frag} {G H J : Hp}
theorem reps_tabs : ∀ {T : List TbN}, (∀ x ∈ T, TabG G H x.1 x.2) → Reps K G H (T.map trow) (T.map Prod.fst)
  | [], _ => .nil
  | x :: T, h => .tab (h x List.mem_cons_self) (reps_tabs fun y m => h y (List.mem_cons_of_mem _ m))
theorem reps_hlds : ∀ {F : List Addr}, (∀ a ∈ F, ∃ u, H a = some u ∧ HldOk u) → Reps K G H (F.map (hrow H)) F
  | [], _ => .nil
  | a :: F, h => by
    obtain ⟨u, e, q⟩ := h a List.mem_cons_self
    rw [List.map_cons, show hrow H a = (.ref a, .hld u) by unfold hrow; rw [e]]
    exact .hld q e (reps_hlds fun y m => h y (List.mem_cons_of_mem _ m))
theorem reps_cons : ∀ {U : List Addr}, (∀ a ∈ U, ∃ u, J a = some u ∧ (∀ ps, u ≠ .tbl ps) ∧ G a = some u) → Reps K G H (U.map (crow J)) []
  | [], _ => .nil
  | a :: F, h => by
    obtain ⟨u, e, q, g⟩ := h a List.mem_cons_self
    rw [List.map_cons, show crow J a = (.ref a, .con u) by unfold crow; rw [e]]
    exact .con q g (reps_cons fun y m => h y (List.mem_cons_of_mem _ m))
theorem tabs_inv : ∀ {T : List TbN} {f : List Addr}, Reps K G H (T.map trow) f → f = T.map Prod.fst ∧ ∀ x ∈ T, TabG G H x.1 x.2
  | [], f, r => by cases r; exact ⟨rfl, fun _ m => nomatch m⟩
  | x :: T, f, r => by
    change Reps K G H ((.ref x.1, .tab x.2) :: T.map trow) f at r
    cases r with
    | tab a r =>
      obtain ⟨rfl, h⟩ := tabs_inv r
      refine ⟨rfl, fun y m => ?_⟩
      rcases List.mem_cons.mp m with rfl | m
      · exact a
      · exact h y m
theorem hlds_inv : ∀ {F : List Addr} {f : List Addr}, (∀ a ∈ F, ∃ u, J a = some u ∧ HldOk u) → Reps K G H (F.map (hrow J)) f → f = F ∧ ∀ a ∈ F, H a = J a
  | [], f, _, r => by cases r; exact ⟨rfl, fun _ m => nomatch m⟩
  | a :: F, f, h, r => by
    obtain ⟨u, e, _⟩ := h a List.mem_cons_self
    rw [List.map_cons, show hrow J a = (.ref a, .hld u) by unfold hrow; rw [e]] at r
    cases r with
    | hld q b r =>
      obtain ⟨rfl, h⟩ := hlds_inv (fun y m => h y (List.mem_cons_of_mem _ m)) r
      refine ⟨rfl, fun y m => ?_⟩
      rcases List.mem_cons.mp m with rfl | m
      · rw [b, e]
      · exact h y m
theorem cons_inv : ∀ {F : List Addr} {f : List Addr}, (∀ a ∈ F, ∃ u, J a = some u) → Reps K G H (F.map (crow J)) f → f = [] ∧ ∀ a ∈ F, G a = J a
  | [], f, _, r => by cases r; exact ⟨rfl, fun _ m => nomatch m⟩
  | a :: F, f, h, r => by
    obtain ⟨u, e⟩ := h a List.mem_cons_self
    rw [List.map_cons, show crow J a = (.ref a, .con u) by unfold crow; rw [e]] at r
    cases r with
    | con q b r =>
      obtain ⟨rfl, h⟩ := cons_inv (fun y m => h y (List.mem_cons_of_mem _ m)) r
      refine ⟨rfl, fun y m => ?_⟩
      rcases List.mem_cons.mp m with rfl | m
      · rw [b, e]
      · exact h y m
theorem Joint.borrow {A R : List Pr} (j : Joint K H (A ++ R)) : ∃ rs, Joint K H ((A.map fun x => (x.1, x.2.frz)) ++ rs) ∧ ∀ H', Joint K H' rs → Joint K H' (A ++ R) := by
  obtain ⟨G, fp, g, r, n, z⟩ := j
  obtain ⟨f1, f2, rfl, r1, r2⟩ := r.unappend
  obtain ⟨U1, F1, T1, P1⟩ := r1.pins
  obtain ⟨U2, F2, T2, P2⟩ := r2.pins
  have pp : (f1 ++ f2).Perm (F1 ++ ((T1 ++ T2).map Prod.fst ++ F2)) := (P1.pm.append P2.pm).trans (List.perm_iff_count.mpr fun a => by simp only [List.count_append, List.map_append]; omega)
  have nn := pp.nodup_iff.mp n
  obtain ⟨n1, n2, n3⟩ := List.nodup_append.mp nn
  have zF : ∀ a ∈ F1, G a = none := fun a m => z a (pp.mem_iff.mpr (List.mem_append_left _ m))
  have zR : ∀ a ∈ (T1 ++ T2).map Prod.fst ++ F2, G a = none := fun a m => z a (pp.mem_iff.mpr (List.mem_append_right _ m))
  have nU : ∀ U : List Addr, (∀ a ∈ U, ∃ u, G a = some u ∧ ∀ ps, u ≠ .tbl ps) → ∀ a ∈ U, a ∉ F1 := fun U h a m q => by
    obtain ⟨u, e, _⟩ := h a m
    rw [zF a q] at e
    cases e
  have hU : ∀ a ∈ U1 ++ U2, ∃ u, G a = some u ∧ ∀ ps, u ≠ .tbl ps := fun a m => (List.mem_append.mp m).elim (P1.u a) (P2.u a)
  have hT : ∀ x ∈ T1 ++ T2, TabG G H x.1 x.2 := fun a m => (List.mem_append.mp m).elim (P1.t a) (P2.t a)
  refine ⟨(T1 ++ T2).map trow ++ (F2.map (hrow H) ++ ((U1 ++ U2).map (crow G) ++ F1.map (crow H))), ?_, fun H' j' => ?_⟩
  · let G' : Hp := fun a => if a ∈ F1 then H a else G a
    have e1 : ∀ a, a ∈ F1 → G' a = H a := fun a m => if_pos m
    have e2 : ∀ a, a ∉ F1 → G' a = G a := fun a m => if_neg m
    have gg : GSub G G' := fun a o e => by
      by_cases m : a ∈ F1
      · rw [zF a m] at e; cases e
      · rw [e2 a m]; exact e
    have gH : GSub G' H := fun a o e => by
      by_cases m : a ∈ F1
      · rw [← e1 a m]; exact e
      · rw [e2 a m] at e; exact g a o e
    refine ⟨G', [] ++ ((T1 ++ T2).map Prod.fst ++ (F2 ++ ([] ++ []))), gH, (P1.fz G' H (fun a m => e2 a (nU _ P1.u a m)) e1).append ((reps_tabs fun x m => (hT x m).mono gg fun _ e => e).append ((reps_hlds P2.o).append ((reps_cons fun a m => ?_).append (reps_cons fun a m => ?_)))), ?_, fun a m => ?_⟩
    · obtain ⟨u, e, q⟩ := hU a m
      exact ⟨u, e, q, gg a u e⟩
    · obtain ⟨u, e, q⟩ := P1.o a m
      exact ⟨u, e, q.2.1, by rw [e1 a m]; exact e⟩
    · simpa using n2
    · have m : a ∈ (T1 ++ T2).map Prod.fst ++ F2 := by simpa using m
      rw [e2 a fun q => n3 a q a m rfl]
      exact zR a m
  · obtain ⟨G2, fp2, g2, r', k2, z2⟩ := j'
    obtain ⟨q1, q2, rfl, s1, s2⟩ := r'.unappend
    obtain ⟨q3, q4, rfl, s3, s4⟩ := s2.unappend
    obtain ⟨q5, q6, rfl, s5, s6⟩ := s4.unappend
    obtain ⟨rfl, t1⟩ := tabs_inv s1
    obtain ⟨rfl, t2⟩ := hlds_inv P2.o s3
    obtain ⟨rfl, t3⟩ := cons_inv (fun a m => (hU a m).imp fun _ h => h.1) s5
    obtain ⟨rfl, t4⟩ := cons_inv (fun a m => (P1.o a m).imp fun _ h => h.1) s6
    have z3 : ∀ a ∈ (T1 ++ T2).map Prod.fst ++ q3, G2 a = none := fun a m => z2 a (by simpa using m)
    let G3 : Hp := fun a => if a ∈ F1 then none else G2 a
    have e1 : ∀ a, a ∈ F1 → G3 a = none := fun a m => if_pos m
    have e2 : ∀ a, a ∉ F1 → G3 a = G2 a := fun a m => if_neg m
    have g3 : GSub G3 H' := fun a o e => by
      by_cases m : a ∈ F1
      · rw [e1 a m] at e; cases e
      · rw [e2 a m] at e; exact g2 a o e
    have tt : ∀ x ∈ T1 ++ T2, TabG G3 H' x.1 x.2 := fun x m => by
      obtain ⟨ps, a, b, c⟩ := t1 x m
      refine ⟨ps, a, b, fun pos cv e => ?_⟩
      obtain ⟨y, y1, y2⟩ := c pos cv e
      refine ⟨y, y1, ?_⟩
      by_cases m : y ∈ F1
      · obtain ⟨u, e, q⟩ := P1.o y m
        rw [t4 y m, e] at y2
        exact absurd (Option.some.inj y2) (q.2.2.1 _)
      · rw [e2 y m]; exact y2
    have uu : ∀ a ∈ U1 ++ U2, G3 a = G a := fun a m => by rw [e2 a (nU _ hU a m)]; exact t3 a m
    have ff : ∀ a ∈ F1, H' a = H a := fun a m => by
      obtain ⟨u, e, q⟩ := P1.o a m
      rw [e]
      exact g2 a u (by rw [t4 a m]; exact e)
    refine ⟨G3, f1 ++ f2, g3, (P1.back G3 H' (fun a m => uu a (List.mem_append_left _ m)) ff fun x m => tt x (List.mem_append_left _ m)).append (P2.back G3 H' (fun a m => uu a (List.mem_append_right _ m)) t2 fun x m => tt x (List.mem_append_right _ m)), n, fun a m => ?_⟩
    rcases List.mem_append.mp (pp.mem_iff.mp m) with m | m
    · exact e1 a m
    · by_cases q : a ∈ F1
      · exact e1 a q
      · rw [e2 a q]; exact z3 a m
end
def brw (m : Fn) (ds : List D) : Option D := match m (D.frzs ds) with
  | some (.ok (.bl b), ds') => if ds'.length = ds.length then some (.bl b) else none
  | _ => none
theorem brw_of {m : Fn} {ds es : List D} {b : Bool} (hl : es.length = ds.length) (h : m (D.frzs ds) = some (.ok (.bl b), es)) : brw m ds = some (.bl b) := by
  unfold brw
  rw [h]
  exact if_pos hl
theorem zip_frz : ∀ {vs : List V} {ds : List D}, vs.length = ds.length → (vs.zip ds).map (fun x : Pr => (x.1, x.2.frz)) = vs.zip (D.frzs ds)
  | [], [], _ => rfl
  | v :: vs, d :: ds, h => by simp [D.frzs, zip_frz (vs := vs) (ds := ds) (by simpa using h)]
  | [], _ :: _, h => by simp at h
  | _ :: _, [], h => by simp at h
section
variable {c : Cfg} {X : Cx} {k : Nat} {f : Addr} {fd : FuncData} {ps : List Str} {n : Nat} {m : Fn} {x : Str} {p pos : Pos} {e : Expr} {es : List Expr} {as : List Ar}
theorem t_callB {σ : L2.St} {H : Hp} {Q : VK} (h : T c (roM (brw m) as) σ H Q) (hn : as.length = n) : tCallSD (spOf c.K n m) [] (WE c.W) (tArgsA c as) σ H Q := by
  obtain ⟨S, tm, j, p⟩ := h
  refine tArgsA_mono (post_argsA as j p) fun vs H1 ⟨av, S1, L, a, al, j1, p1⟩ => ?_
  split at p1
  · rename_i ds S2 ht
    have jj : Joint c.K H1 (slotL σ S1 ++ (L ++ (tm ++ c.rs))) := by
      have := j1.jt
      rwa [List.append_assoc] at this
    obtain ⟨h1, h2, h3, h4, h5⟩ := take_ok a ht j1.sl jj
    rw [List.append_nil]
    split at p1
    · rename_i d hm
      split at p1
      · rename_i hlen
        obtain ⟨g1, g2⟩ := h5 ds rfl
        have hn' : vs.length = n := by have := av_len a; omega
        obtain ⟨rs, jb, back⟩ := h4.borrow
        rw [zip_frz h1] at jb
        refine ⟨hn', D.frzs ds, rs, by rw [frzs_len]; omega, jb, ?_⟩
        unfold brw at hm
        split at hm
        · rename_i b ds' hmm
          split at hm
          · rename_i hl
            cases hm
            rw [hmm]
            refine ⟨by omega, fun v H' k => ?_⟩
            obtain rfl := k.is_bl
            have k1 : Joint c.K H' (vs.zip ds ++ (slotL σ S2 ++ (tm ++ c.rs))) := back H' k.drop.dropL
            refine p1 _ H' (g1.sj ?_)
            refine Joint.perm perm_take.symm ?_
            have k2 : Joint c.K H' (vs.zip ds ++ (slotL σ S2 ++ ((.bl b, .bl b) :: (tm ++ c.rs)))) := (ju_bl (i := b) k1).perm ((perm_take.symm).trans (List.Perm.append_left _ perm_take.symm))
            exact (g2 H' _ k2).perm perm_take
          · cases hm
        · cases hm
      · exact p1.elim
    · exact p1.elim
  · exact p1.elim
theorem w_callB1 (F : FnOk X.prog X.w X.K X.mg X.base (L2.CX X.prog X.w) k f fd ps (spOf c.K n m)) (hr : Room k X.A) (hg : Gl X x) (hm : X.mg x = some (.ref f)) (hk : PySem.W.keepIn X.K (.ref f) = true) (hb : Binds X.K fd ps []) (tk : Takes X c.W)
    (ha : PA X (e :: es) (tArgsA c as)) (hn : as.length = n := by rfl) (hdb : (x == ("__debug__" : Str)) = false := by decide) (he : starEach (e :: es) X.env = (false, eval e X.env) :: starEach es X.env := by rfl) (hpl : (backTo pos (starEach es X.env)).any (·.1) = false := by rfl) :
    PE X (.Call (.Name x p) (e :: es) [] pos) (T c (roM (brw m) as)) := pe_mono (pe_callSD F hr hg hm hk hb .nil (fun σ => passAt tk σ) ha hdb he hpl) fun _ _ _ h => t_callB h hn
end
end WF
namespace WF
open PySem PySem.Spec PyProof.Rows L2
section
variable {K : PySem.W.Frag} {G H J : Hp}
end
section
variable {c : Cfg} {X : Cx} {k : Nat} {f : Addr} {fd : FuncData} {ps : List Str} {n : Nat} {m : Fn} {x : Str} {p pos : Pos} {e : Expr} {es : List Expr} {as : List Ar}
end
end WF
namespace WF
open PySem PySem.Spec PyProof.Rows L2
section
variable {K : PySem.W.Frag} {H : Hp} {R : List Pr} {p : Addr} {ds xs : List D} {v : V} {d : D}
theorem Joint.appIn {a : Nat} (j : Joint K H ((.ref p, .lst true ds) :: (v, d) :: R)) (ha : ds[a]? = some (.lst true xs)) : ∃ vs q ws, H p = some (.lst vs) ∧ vs.length = ds.length ∧ vs[a]? = some (.ref q) ∧ H q = some (.lst ws) ∧ ws.length = xs.length ∧ Joint K (upd H q (.lst (ws ++ [v]))) ((.ref p, .lst true (ds.set a (.lst true (xs ++ [d])))) :: R) := by
  obtain ⟨vs, hp, hl, k⟩ := j.openL
  have al : a < ds.length := (List.getElem?_eq_some_iff.mp ha).1
  obtain ⟨u, hu⟩ : ∃ u, vs[a]? = some u := ⟨vs[a]'(by omega), List.getElem?_eq_getElem _⟩
  have hz : (vs.zip ds)[a]? = some (u, .lst true xs) := by rw [List.getElem?_zip_eq_some]; exact ⟨hu, ha⟩
  obtain ⟨Z, pe, pe2⟩ := at_perm hz
  have k1 : JX K H p ((u, .lst true xs) :: (Z ++ ((v, d) :: R))) := k.perm (List.Perm.append_right _ pe)
  have own : ∀ {H : Hp} {L : List Pr}, JX K H p L → H p = some (.lst vs) → Joint K H ((.ref p, .lst true (vs.map fun _ => .un)) :: L) := fun {H L} jx hp => by
    obtain ⟨G, fp, g, r, n, z, gp, np⟩ := jx
    have ru : ∀ vs : List V, Reps K G H (vs.map fun v => (v, D.un)) [] := fun vs => by
      induction vs with
      | nil => exact .nil
      | cons v vs ih => exact .un ih
    refine ⟨G, p :: ([] ++ fp), g, .lo hp ?_ ?_ (ru vs) r, List.nodup_cons.mpr ⟨np, n⟩, fun a m => ?_⟩
    · rw [List.map_map]; exact List.map_id'' (fun _ => rfl) vs
    · rw [List.map_map]; rfl
    · rcases List.mem_cons.mp m with rfl | m
      · exact gp
      · exact z a m
  have k2 := own k1 hp
  have k2' : Joint K H ((u, .lst true xs) :: (.ref p, .lst true (vs.map fun _ => .un)) :: (Z ++ ((v, d) :: R))) := k2.sw
  obtain ⟨q, rfl⟩ := k2'.is_lst
  have hne := k2'.ne
  have k3 : Joint K H ((.ref q, .lst true xs) :: (v, d) :: (.ref p, .lst true (vs.map fun _ => .un)) :: (Z ++ R)) := k2'.perm (List.Perm.cons _ ((List.Perm.cons _ perm_take).trans (List.Perm.swap _ _ _)))
  obtain ⟨ws, hq, lw, k4⟩ := k3.app
  have k5 : Joint K (upd H q (.lst (ws ++ [v]))) ((.ref p, .lst true (vs.map fun _ => .un)) :: (.ref q, .lst true (xs ++ [d])) :: (Z ++ R)) := k4.sw
  obtain ⟨vs', hp', _, k6⟩ := k5.openL
  have ev : vs' = vs := by
    rw [upd_ne (Ne.symm hne), hp] at hp'
    cases hp'; rfl
  subst ev
  have k7 := k6.dropL
  have hz2 : ((vs'.zip (ds.set a (.lst true (xs ++ [d]))))).Perm ((.ref q, .lst true (xs ++ [d])) :: Z) := by
    rw [zip_set2 hu]
    exact pe2 _
  have k8 : JX K (upd H q (.lst (ws ++ [v]))) p (vs'.zip (ds.set a (.lst true (xs ++ [d]))) ++ R) := k7.perm (List.Perm.append_right _ hz2.symm)
  have k9 := JX.close (p := p) (by simp [hl]) k8
  refine ⟨vs', q, ws, hp, hl, hu, hq, lw, ?_⟩
  have : upd (upd H q (.lst (ws ++ [v]))) p (.lst vs') = upd H q (.lst (ws ++ [v])) := by
    funext a
    by_cases ha : a = p
    · subst ha; rw [upd_same, upd_ne (Ne.symm hne), hp]
    · rw [upd_ne ha]
  rw [this] at k9
  exact k9
end
def apc (a : Nat) (d : D) : D → Option D
  | .lst true ds => match ds[a]? with
    | some (.lst true xs) => if xs.length < 1000000 then some (.lst true (ds.set a (.lst true (xs ++ [d])))) else none
    | _ => none
  | _ => none
def apcM (i a : Nat) (d : D) : EM := fun S => match S[i]? with
  | some x => match apc a d x with
    | some y => some (.ok .non, S.set i y)
    | none => none
  | none => none
section
variable {c : Cfg} {X : Cx} {S : S0} {tm tm0 : List Pr} {σ : L2.St} {H : Hp} {i a : Nat} {e : Expr} {v : V} {d : D}
theorem w_apc (hK : c.K = X.K) (hj : ∀ {H : Hp} {R : List Pr}, Joint c.K H R → Joint c.K H ((v, d) :: R)) (h : PE X e (tBM X.K "list" rAppend (tOp (rIx X.K) (tVar i) (tC (.int (a : Int)))) (tCons (tC v) tNil))) : PE X e (T c (apcM i a d)) := pe_mono h fun σ H Q h => by
  obtain ⟨S, tm, j, p⟩ := h
  unfold apcM at p
  split at p
  · rename_i x hd
    split at p
    · rename_i y hy
      unfold apc at hy
      split at hy
      · rename_i ds
        split at hy
        · rename_i xs hx
          split at hy
          · rename_i hlt
            cases hy
            have jv : SJ c S ((v, d) :: tm) σ H := j.put (hj j.jt)
            obtain ⟨w, ew, Z, k, put⟩ := jv.get2 hd rfl
            obtain ⟨q, rfl⟩ := k.sw.is_lst
            obtain ⟨vs, q2, ws, h1, h2, h3, h4, h5, k2⟩ := (k.sw).appIn hx
            have al := (List.getElem?_eq_some_iff.mp hx).1
            refine ⟨_, ew, .inl ⟨q, vs, (a : Int), .ref q2, rfl, rfl, .inl (.inl h1), ?_, .inl ⟨rfl, ws, .inl (.inl h4)⟩, q2, ws, v, rfl, rfl, h4, Nat.lt_trans (by omega : ws.length < 1000000) (by decide), p _ _ ?_⟩⟩
            · unfold L2.atI
              rw [show ixN vs.length (a : Int) = some a from by unfold L2.ixN; rw [if_pos (by omega), if_pos (by omega)]; rfl]
              exact h3
            · exact put _ [(.non, .non)] _ (ju_non k2).sw
          · cases hy
        · cases hy
      · cases hy
    · exact p.elim
  · exact p.elim
end
@[simp] theorem wE_apc {S : S0} {Q : D → S0 → Prop} {i a : Nat} {d : D} : wE (apcM i a d) S Q ↔ rd (S[i]?.bind (apc a d)) fun x => Q .non (S.set i x) := by
  unfold wE rd
  show WF0.oE (apcM i a d S) Q ↔ _
  unfold apcM
  cases h : S[i]? with
  | none => simp [WF0.oE, WF0.rd]
  | some x =>
    simp only [Option.bind_some]
    cases h2 : apc a d x <;> simp [WF0.oE, WF0.rd]
theorem apc_at {a : Nat} {d : D} {ds xs : List D} (h : ds[a]? = some (.lst true xs)) (hl : xs.length < 1000000) : apc a d (.lst true ds) = some (.lst true (ds.set a (.lst true (xs ++ [d])))) := by
  unfold apc
  simp only [h, hl, if_true]
end WF
namespace WF
open PySem PySem.Spec PyProof.Rows L2 PySem.HandSPX
structure BaseX (B newId initId : String) (bmB : List Value) : Prop where
  F : ExcBaseFacts B newId initId bmB
  S : StoreFacts B bmB "object.__setattr__" "object"
  ty : typeOf (.type B) = pure (.type "type")
  stub : Manifest.isStub B = false
  hin : PySem.W.handedIn (.builtin initId) = true
  bt : bootBuiltins (Str.ofString B) = some (.type B)
structure OexB (K : PySem.W.Frag) (C : Addr) (newId : String) (bmB : List Value) : Prop where
  cls : ∃ nm q N bs sn sub ab col dd k0 k1 k2 k3 k5, K.lookup C = some (excClassObj nm q C N bs bmB true sn sub ab col dd k0 k1 k2 k3 k5 newId)
  sa : PySem.W.findIn K (.ref C) "__setattr__" = some (some (.builtin "object.__setattr__"))
  exC : PySem.W.subIn K (.ref C) (.type "BaseException") = some true
  tyC : PySem.W.typeIn K (.ref C) = some (.type "type")
  kC : PySem.W.keepIn K (.ref C) = true
section
open Builtin Builtin.ObjectAttr
variable {prog : Program} {w : World} {A : Around} {E : Value → Shared → Prop} {R : Result → Shared → Prop} {hp : Heap} {g : Array GenState} {d : Drawn} {t : Nat} {os : OsState}
end
section
variable {X : Cx} {pins : List (Addr × Obj)} {σ : L2.St} {H : Hp} {s : Shared} {a C dx : Addr} {f : Str} {y : V} {u : Value} {fs : List (Str × V)} {Q : Unit → Shared → Prop} {E : Value → Shared → Prop} {A : Around} {B newId initId : String} {bmB : List Value}
end
section
variable {X : Cx} {o e : Expr} {es : List Expr} {to te : TE} {ta : TA} {f x : Str} {p p' p1 p2 pos : Pos} {B newId initId : String} {bmB : List Value}
end
end WF
namespace WF
open PySem PySem.Spec PyProof.Rows L2 PySem.HandSPX
def spIni (K : PySem.W.Frag) (newId : String) (bmB : List Value) (f : Str) : Sp := fun vs H Q _ => ∃ (a C : Addr) (y : V), vs = [.ref a, y] ∧ OexB K C newId bmB ∧ PySem.W.findIn K (.ref C) f = some none ∧ H a = some (exo a C none) ∧
  ∀ dx, H dx = none → dx ≠ a → Q .non (L2.upd (L2.upd H dx (exd dx [(f, y)])) a (exo a C (some dx)))
section
variable {P : Program} {w : World} {K : PySem.W.Frag} {mg : Str → Option Value} {base : Heap}
end
section
variable {X : Cx} {x f : Str} {C fI : Addr} {fd : FuncData} {B newId initId : String} {bmB : List Value} {e : Expr} {ta : TA} {p pos : Pos}
end
structure XcF (P : Program) (w : World) (K : PySem.W.Frag) (mg : Str → Option Value) (base : Heap) (x f : Str) : Prop where
  ex : ∃ (B newId initId : String) (bmB : List Value) (fI : Addr) (fd : FuncData), BaseX B newId initId bmB ∧ OexB K (He.ga K x) newId bmB ∧ PySem.W.findIn K (.ref (He.ga K x)) f = some none ∧ PySem.W.findIn K (.ref (He.ga K x)) "__init__" = some (some (.ref fI)) ∧
    PySem.W.typeIn K (.ref fI) = some (.type "function") ∧ FnOk P w K mg base (L2.CX P w) 1 fI fd ["self", f] (spIni K newId bmB f) ∧ Binds K fd ["self", f] []
  g : mg x = some (.ref (He.ga K x))
section
variable {c : Cfg} {X : Cx} {x f : Str} {e : Expr} {fe : EM} {p pos pos' : Pos}
end
end WF
namespace WF
open PySem PySem.Spec PyProof.Rows L2
def ExTest (X : Cx) (t : Expr) (cls : Value) (b : Bool) : Prop := ∀ (a : Addr) (pn pins : List (Addr × Obj)) (σ : L2.St) (H : Hp) (s : Shared) (Q : Bool → Shared → Prop) (E : Value → Shared → Prop), Inv (X.suite a pn) pins σ H s → PySem.W.Looks (model X.prog X.w) s.heap (typeOf (.ref a)) cls →
  (∀ h', (∀ q o, s.heap.get? q = some o → h'.get? q = some o) → Q b { s with heap := h' }) → wpAny (model X.prog X.w) (X.A.mark (some (.ref a))) (eval t X.env) (fun c s1 => wpAny (model X.prog X.w) (X.A.mark (some (.ref a))) (excMatches (.ref a) c) Q E s1) E s
section
variable {X : Cx} {cls : Value} {b : Bool} {x1 x2 x3 x4 : Str} {c1 c2 c3 c4 : Value} {p1 p2 p3 p4 tp : Pos} {kk : Nat}
end
section
variable {X : Cx} {pins : List (Addr × Obj)} {σ : L2.St} {H : Hp} {sI s s' : Shared} {B : Heap}
end
abbrev ClP := (Value → Bool → Prop) × Nat × (Addr → Value → Option Addr → TS)
inductive HdP (X : Cx) : List ExceptHandler → List ClP → Prop
  | nil : HdP X [] []
  | cons {t : Expr} {n : Str} {i : Nat} {m : Value → Bool → Prop} {ts : Addr → Value → Option Addr → TS} {b₀ : Stmt} {suite : List Stmt} {pos' : Pos} {hds : List ExceptHandler} {l : List ClP} (hi : X.N[i]? = some n) (hln : X.env.kindOf n = some .local)
      (ht : ∀ cls b, m cls b → ExTest X t cls b) (hsu : ∀ (a : Addr) (cls : Value) (d : Option Addr) (pn : List (Addr × Obj)), PSs (X.suite a pn) (b₀ :: suite) (ts a cls d)) (r : HdP X hds l) :
      HdP X (.ExceptHandler (some t) (some n) (b₀ :: suite) pos' :: hds) ((m, i, ts) :: l)
section
variable {X : Cx} {body : List Stmt} {h₀ : ExceptHandler} {hds : List ExceptHandler} {l : List ClP} {pos : Pos} {tb : WX → TS} {Wout : WX}
end
end WF
namespace WF
open PySem PySem.Spec PyProof.Rows L2
section
variable {K : PySem.W.Frag} {G H : Hp} {L R fv : List Pr}
theorem reps_ownX {fp : List Addr} (r : Reps K G H L fp) : ∀ a ∈ fp, (∀ φ, H a ≠ some (HO.ext φ)) ∧ ∀ fs, H a ≠ some (HO.xd fs) := by
  have two : ∀ {a : Addr} {u : HO}, H a = some u → (∀ φ, u ≠ .ext φ) → (∀ fs, u ≠ .xd fs) → (∀ φ, H a ≠ some (HO.ext φ)) ∧ ∀ fs, H a ≠ some (HO.xd fs) := fun e h1 h2 =>
    ⟨fun φ q => by rw [e] at q; exact h1 φ (Option.some.inj q), fun fs q => by rw [e] at q; exact h2 fs (Option.some.inj q)⟩
  induction r with
  | nil => intro a m; cases m
  | un _ ih => exact ih
  | non _ ih => exact ih
  | bl _ ih => exact ih
  | int _ ih => exact ih
  | str _ ih => exact ih
  | vl _ ih => exact ih
  | hld q h _ ih => intro a m; rcases List.mem_cons.mp m with rfl | m; exact two h q.2.2.1 q.2.2.2; exact ih a m
  | con _ _ _ ih => exact ih
  | tab h _ ih =>
    intro a m
    rcases List.mem_cons.mp m with rfl | m
    · obtain ⟨ps, h, _⟩ := h; exact two h (fun _ z => by cases z) fun _ z => by cases z
    · exact ih a m
  | of _ _ _ _ _ _ _ ih1 ih2 => exact ih2
  | oo h h2 _ _ _ _ _ ih1 ih2 =>
    intro a m
    rcases List.mem_cons.mp m with rfl | m
    · exact two h (fun _ z => by cases z) fun _ z => by cases z
    rcases List.mem_cons.mp m with rfl | m
    · exact two h2 (fun _ z => by cases z) fun _ z => by cases z
    rcases List.mem_append.mp m with m | m
    · exact ih1 a m
    · exact ih2 a m
  | scr _ _ ih => exact ih
  | tup _ _ _ _ _ ih1 ih2 => intro a m; rcases List.mem_append.mp m with m | m; exact ih1 a m; exact ih2 a m
  | exn _ _ _ _ _ _ _ ih1 ih2 => exact ih2
  | lf _ _ _ _ _ ih1 ih2 => exact ih2
  | lo h _ _ _ _ ih1 ih2 => intro a m; rcases List.mem_cons.mp m with rfl | m; exact two h (fun _ z => by cases z) (fun _ z => by cases z); rcases List.mem_append.mp m with m | m; exact ih1 a m; exact ih2 a m
  | kf _ _ _ _ _ _ ih1 ih2 => exact ih2
  | ko h _ _ _ _ _ ih1 ih2 => intro a m; rcases List.mem_cons.mp m with rfl | m; exact two h (fun _ z => by cases z) (fun _ z => by cases z); rcases List.mem_append.mp m with m | m; exact ih1 a m; exact ih2 a m
  | tf _ _ _ _ _ _ ih1 ih2 => exact ih2
  | to h _ _ _ _ _ ih1 ih2 => intro a m; rcases List.mem_cons.mp m with rfl | m; exact two h (fun _ z => by cases z) (fun _ z => by cases z); rcases List.mem_append.mp m with m | m; exact ih1 a m; exact ih2 a m
theorem Joint.exn {a : Addr} {C : Str} {fs : List Str} {dd : Option Addr} (j : Joint K H (fv ++ R)) (hd : (dd = none ∧ fv = [] ∧ fs = []) ∨ ∃ dx, dd = some dx ∧ H dx = some (.xd (fs.zip (fv.map Prod.fst)))) (hl : fs.length = fv.length) (na : H a = none) :
    Joint K (L2.upd H a (exk a (.ref (He.ga K C)) dd)) ((.ref a, .exn C fs (D.frzs (fv.map Prod.snd))) :: R) := by
  obtain ⟨G, fp, g, r, n, z⟩ := j.new (o := exk a (.ref (He.ga K C)) dd) na
  obtain ⟨f1, f2, rfl, r1, r2⟩ := r.unappend
  obtain ⟨n1, n2, n3⟩ := List.nodup_append.mp n
  generalize hH : L2.upd H a (exk a (.ref (He.ga K C)) dd) = H1 at *
  have ha : H1 a = some (exk a (.ref (He.ga K C)) dd) := by rw [← hH, L2.upd_same]
  have hx : ∀ dx, dd = some dx → H1 dx = some (.xd (fs.zip (fv.map Prod.fst))) := fun dx e => by
    rcases hd with ⟨e', _⟩ | ⟨dx', e', h⟩
    · rw [e] at e'; cases e'
    · rw [e] at e'; cases e'
      rw [← hH, L2.upd_ne (L2.ne_of_none h na)]; exact h
  let G' : Hp := fun b => if b = a ∨ b ∈ f1 ∨ dd = some b then H1 b else G b
  have gg : GSub G G' := fun b o e => by
    show (if b = a ∨ b ∈ f1 ∨ dd = some b then H1 b else G b) = some o
    split
    · exact g b o e
    · exact e
  have gH : GSub G' H1 := fun b o e => by
    have e : (if b = a ∨ b ∈ f1 ∨ dd = some b then H1 b else G b) = some o := e
    split at e
    · exact e
    · exact g b o e
  have fr : Reps K G' H1 (fv.map fun x => (x.1, x.2.frz)) [] := r1.freeze gg fun b o m e => by
    show (if b = a ∨ b ∈ f1 ∨ dd = some b then H1 b else G b) = some o
    rw [if_pos (.inr (.inl m))]; exact e
  refine ⟨G', f2, gH, Reps.exn (dd := dd) (kvs := fs.zip (fv.map Prod.fst)) (C := fv.map fun x => (x.1, x.2.frz)) ?_ ?_ ?_ ?_ ?_ fr (r2.mono gg fun _ _ _ h => h), n2, fun b m => ?_⟩
  · show (if a = a ∨ a ∈ f1 ∨ dd = some a then H1 a else G a) = _
    rw [if_pos (.inl rfl)]; exact ha
  · rcases hd with ⟨e, e2, e3⟩ | ⟨dx, e, h⟩
    · exact .inl ⟨e, by rw [e2, e3]; rfl⟩
    · refine .inr ⟨dx, e, ?_⟩
      show (if dx = a ∨ dx ∈ f1 ∨ dd = some dx then H1 dx else G dx) = _
      rw [if_pos (.inr (.inr e))]
      exact hx dx e
  · rw [List.map_fst_zip (by simp [hl])]
  · rw [List.map_snd_zip (by simp [hl]), List.map_map]; rfl
  · rw [List.map_map, D.frzs_map, List.map_map]; rfl
  · have ow := reps_ownX r2 b m
    show (if b = a ∨ b ∈ f1 ∨ dd = some b then H1 b else G b) = none
    rw [if_neg]
    · exact z b (List.mem_append_right _ m)
    · rintro (rfl | q | q)
      · exact ow.1 _ ha
      · exact n3 b q b m rfl
      · exact ow.2 _ (hx b q)
end
abbrev ClM := List Str × Nat × SM
section
variable {c : Cfg} {X : Cx}
inductive HdD (X : Cx) (c : Cfg) (dom : List Str) : List ExceptHandler → List ClM → Prop
  | nil : HdD X c dom [] []
  | cons {t : Expr} {n : Str} {i : Nat} {cs : List Str} {f : SM} {b₀ : Stmt} {suite : List Stmt} {pos' : Pos} {hds : List ExceptHandler} {l : List ClM} (hi : X.N[i]? = some n) (hln : X.env.kindOf n = some .local) (hp : c.PV[i]? = some none)
      (ht : ∀ C ∈ dom, ExTest X t (.ref (He.ga X.K C)) (decide (C ∈ cs))) (hsu : ∀ (a : Addr) (pn : List (Addr × Obj)), PSs (X.suite a pn) (b₀ :: suite) (U { c with W := fun _ _ _ _ => False } f)) (r : HdD X c dom hds l) :
      HdD X c dom (.ExceptHandler (some t) (some n) (b₀ :: suite) pos' :: hds) ((cs, i, f) :: l)
end
end WF
namespace PySem.W
open PySem PySem.Spec PySem.Calls PyProof.Rows
section
variable {prog : Program} {w : World} {A : Around} {E : Value → Shared → Prop} {s : Shared} {K : Frag} {x D : Addr} {ox : Obj} {od : Option Obj}
end
end PySem.W
namespace WF
open PySem PySem.Spec PyProof.Rows L2
def XIs (K : PySem.W.Frag) (H : Hp) (v : V) (C : Addr) : Prop := ∃ a dd, v = .ref a ∧ H a = some (exk a (.ref C) dd) ∧ (dd = none ∨ ∃ dx kvs, dd = some dx ∧ H dx = some (.xd kvs)) ∧ ExcC K C
def rIxE (K : PySem.W.Frag) : List V → Hp → VK → Prop := fun xs H Q => ∃ (x c : V) (C : Addr) (u : Value) (b : Bool), xs = [x, c] ∧ ClsV c u ∧ XIs K H x C ∧ PySem.W.kitOne K (.ref C) u = some b ∧ Q (.bl b) H
def rIxT (K : PySem.W.Frag) : List V → Hp → VK → Prop := fun xs H Q => ∃ (x : V) (tp : Addr) (cs : List V) (C : Addr) (us : List Value) (b : Bool), xs = [x, .ref tp] ∧ H tp = some (.tup cs) ∧ Paired ClsV cs us ∧ XIs K H x C ∧ PySem.W.kitAny K (.ref C) us = some b ∧ Q (.bl b) H
section
variable {X : Cx}
def rIx (K : PySem.W.Frag) : List V → Hp → VK → Prop := fun xs H Q => (rIsi K xs H Q ∨ rIsiT K xs H Q) ∨ (rIxE K xs H Q ∨ rIxT K xs H Q)
end
end WF
namespace WF
open PySem PySem.Spec PyProof.Rows L2
inductive XC where
  | own (y : Str) | ty (n : String)
  deriving DecidableEq
def xBases : List (Str × List String) := [("Unreachable", ["ValueError"]), ("InvalidCommand", ["ValueError"]), ("InvalidWord", ["ValueError"]), ("InvalidLine", ["ValueError"]), ("InvalidState", ["ValueError"]),
  ("UnknownGroup", ["LookupError"]), ("NoSuchSize", ["LookupError"]), ("BadIndex", ["LookupError"]), ("NoSuchDepth", ["LookupError"]), ("IllegalMove", ["RuntimeError"]), ("NotEnough", ["RuntimeError"]), ("LastPeople", ["RuntimeError"]),
  ("TooLong", ["OverflowError", "ArithmeticError"]), ("TooMany", ["OverflowError", "ArithmeticError"]), ("TooManyGroups", ["OverflowError", "ArithmeticError"])]
def xsub (c : Str) : XC → Bool
  | .own y => decide (c = y)
  | .ty n => ((xBases.lookup c).getD []).contains n
def XC.v (K : PySem.W.Frag) : XC → V
  | .own y => .ref (He.ga K y)
  | .ty n => .ty n
def XC.u (K : PySem.W.Frag) : XC → Value
  | .own y => .ref (He.ga K y)
  | .ty n => .type n
structure XDom (K : PySem.W.Frag) (dom : List Str) (cs : List XC) (fl : List Str) : Prop where
  is : ∀ c ∈ dom, ∀ y ∈ cs, PySem.W.kitOne K (.ref (He.ga K c)) (y.u K) = some (xsub c y)
  no : ∀ y ∈ cs, PySem.W.kitOne K (.type "NoneType") (y.u K) = some false
  ex : ∀ c ∈ dom, ExcC K (He.ga K c)
  fld : ∀ c ∈ dom, ∀ f ∈ fl, PySem.W.findIn K (.ref (He.ga K c)) f = some none
section
variable {c : Cfg} {X : Cx} {dom : List Str} {cs cs0 : List XC} {fl : List Str} {y : XC} {e ce : Expr} {fe : EM} {p pos cpos : Pos} {k : Nat} {ces : List Expr}
end
end WF
namespace WF
open PySem PySem.Spec PyProof.Rows L2
structure XrF (K : PySem.W.Frag) (x f : Str) (newId : String) (bmB : List Value) : Prop where
  o : OexB K (He.ga K x) newId bmB
  nf : PySem.W.findIn K (.ref (He.ga K x)) f = some none
  ini : PySem.W.findIn K (.ref (He.ga K x)) "__init__" = some (some (.ref (He.ma K (He.ga K x) "__init__")))
  ty : PySem.W.typeIn K (.ref (He.ma K (He.ga K x) "__init__")) = some (.type "function")
structure XCat (K : PySem.W.Frag) (mg : Str → Option Value) (dom cm : List Str) : Prop where
  ex : ∀ c ∈ dom, ∀ y ∈ cm, PySem.W.exmOne K (.ref (He.ga K c)) (.ref (He.ga K y)) = some (decide (c = y))
section
variable {X : Cx} {dom cm : List Str} {x1 x2 x3 x4 : Str} {p1 p2 p3 p4 tp : Pos} {kk : Nat}
end
end WF
namespace WC
open WF PySem
noncomputable def b__law_flights : SM := (seqM (asgM (lstM [(lstM [(retM (.int 0))])]) (gSetM 1))
    (seqM (forM (rng2M (retM (.int 1)) (roM lenD [.v (hasM 0 (ixS 0 (retM (.int 1))))])) (gSetM 2)
    (seqM (ifS (roM (op2 gtD) [.v (binM subD (binM ixD (binM ixD (hasM 0 (ixS 0 (retM (.int 1)))) (varM 2)) (retM (.int 0))) (binM ixD (binM ixD (hasM 0 (ixS 0 (retM (.int 1)))) (binM subD (varM 2) (retM (.int 1)))) (retM (.int 0)))), .v (hasM 0 (ixS 0 (retM (.int 0))))]) (exprS (appM 1 (lstM []))) skipM)
    (exprS (app2M 1 (unM negD (retM (.int 1))) 2))))
    (retS (takeM 1))))
noncomputable def m__law_flights : Fn := defM [true] 3 b__law_flights
noncomputable def b__law_tally : SM := (seqM (asgM (lstM []) (gSetM 2))
    (seqM (forM (seqI (callM m__law_flights [.v (varM 0)])) (gSetM 3)
    (seqM (par2M 4 5 [(retM (.int 0)), (lstM [])])
    (seqM (forM (seqI (revlM (varM 3))) (gSetM 6)
    (seqM (asgM (binM addD (varM 4) (hasM 1 (ixS 1 (varM 6)))) (gSetM 4))
    (asgM (binM addD (lstM [(varM 4)]) (varM 5)) (gSetM 5))))
    (asgM (binM addD (varM 2) (varM 5)) (gSetM 2)))))
    (retS (cbM tupleD [(varM 2)]))))
noncomputable def m__law_tally : Fn := defM [true, true] 7 b__law_tally
noncomputable def b__law_right_v36 : SM := (seqM (forM (rng1M (retM (.int 4))) (gSetM 1)
    (seqM (asgM (callM m__law_random_well [.s 0, .v (retM (.int 12)), .v (frzM (callM m__law_pick [.s 0, .v (frzM (lstM [(retM (.int 3)), (binM powD (retM (.int 10)) (retM (.int 12)))]))]))]) (gSetM 2))
    (seqM (par2M 3 4 [(callM (m__law_as_lists 8) [.v (varM 2)]), (callM m__law_flights [.v (varM 2)])])
    (seqM (asgM (callM m_segments [.v (varM 2)]) (gSetM 5))
    (seqM (ifS (notM (roM (brw (m__law_same 8)) [.s 5, .s 4])) (retS (retM (.bl false))) skipM)
    (seqM (exprS (apcM 5 0 (.int 77)))
    (seqM (exprS (appM 5 (lstM [])))
    (seqM (asgM (roM (op2 leD) [.v (binM ixD (binM ixD (hasM 2 (ixS 2 (retM (.int 1)))) (retM (.int 0))) (retM (.int 0))), .v (hasM 2 (ixS 2 (retM (.int 0))))]) (gSetM 6))
    (seqM (ifS (notM (roM (brw (m__law_same 8)) [.v (lstM [(callM (pickF [0] [0] [] m_segments) [.v (varM 3)]), (callM m_is_grounded [.v (varM 2)]), (callM (pickF [0] [0] [] m_is_grounded) [.v (varM 3)])]), .v (lstM [(varM 4), (varM 6), (varM 6)])])) (retS (retM (.bl false))) skipM)
    (forM (seqI (tupM [(callM m__law_random_state [.s 0, .v (varM 2)]), (callM m__law_random_state [.s 0, .v (varM 2)]), (binM mulD2 (tupM [(retM (.int 0))]) (roM lenD [.v (hasM 2 (ixS 2 (retM (.int 1))))]))])) (gSetM 7)
    (seqM (asgM (callM m__law_tally [.v (varM 2), .v (varM 7)]) (gSetM 4))
    (seqM (asgM (lstM [(callM m_suffix_counts [.v (varM 2), .v (varM 7)]), (callM (pickF [1, 0] [1, 0] [] m_suffix_counts) [.v (frzM (cbM listD [(varM 7)])), .v (varM 3)])]) (gSetM 5))
    (seqM (asgM (binM addD (varM 5) (lstM [(callM m_state_from_counts [.v (varM 2), .v (varM 4)])])) (gSetM 5))
    (ifS (notM (roM (brw (m__law_same 8)) [.v (binM addD (varM 5) (lstM [(callM (pickF [1, 0] [1, 0] [] m_state_from_counts) [.v (frzM (cbM listD [(varM 4)])), .v (varM 3)])])), .v (lstM [(varM 4), (varM 4), (varM 7), (varM 7)])])) (retS (retM (.bl false))) skipM))))))))))))))
    (retS (retM (.bl true))))
noncomputable def m__law_right_v36 : Fn := defM [true] 8 b__law_right_v36
noncomputable def b_law_v42 : SM := (seqM (asgM (callM m__law_fold [.v (varM 0), .v (retM (.int 3))]) (gSetM 1))
    (retS (roM allD [.v (compM [2] (rng1M (roM maxD2 [.v (retM (.int 1)), .v (roM lenD [.s 1])])) (gSetM 2) none (callM m__law_right_v36 [.v (callM m__law_stream [.v (varM 1), .v (varM 2)])]))])))
noncomputable def m_law_v42 : Fn := defM [true] 3 b_law_v42
end WC
namespace Wk06
open WF WC PySem PySem.Spec PyProof.Rows L2
def top (i : Nat) : Stmt := PySem.Challenge.pw_wellfolk_k06_segments_and_suffix_counts.main.body.getD i (.Pass ⟨0, 0, 0, 0⟩)
structure Tx (K : PySem.W.Frag) (mg : Str → Option Value) (fa : Nat → Addr) (fdd : Nat → FuncData) : Prop where
  F__law_fold : FnP K "_law_fold" (top 9) [] (fa 9) (fdd 9)
  g__law_fold : mg "_law_fold" = some (.ref (fa 9))
  F__law_draw : FnP K "_law_draw" (top 8) [] (fa 8) (fdd 8)
  g__law_draw : mg "_law_draw" = some (.ref (fa 8))
  F__law_pick : FnP K "_law_pick" (top 11) [] (fa 11) (fdd 11)
  g__law_pick : mg "_law_pick" = some (.ref (fa 11))
  F__law_random_well : FnP K "_law_random_well" (top 13) [] (fa 13) (fdd 13)
  g__law_random_well : mg "_law_random_well" = some (.ref (fa 13))
  F_segment_starts : FnP K "segment_starts" (top 1) [] (fa 1) (fdd 1)
  g_segment_starts : mg "segment_starts" = some (.ref (fa 1))
  F_segments : FnP K "segments" (top 2) [] (fa 2) (fdd 2)
  g_segments : mg "segments" = some (.ref (fa 2))
  F__law_as_lists : FnP K "_law_as_lists" (top 12) [] (fa 12) (fdd 12)
  g__law_as_lists : mg "_law_as_lists" = some (.ref (fa 12))
  F__law_flights : FnP K "_law_flights" (top 15) [] (fa 15) (fdd 15)
  g__law_flights : mg "_law_flights" = some (.ref (fa 15))
  F__law_same : FnP K "_law_same" (top 10) [] (fa 10) (fdd 10)
  g__law_same : mg "_law_same" = some (.ref (fa 10))
  F__law_random_state : FnP K "_law_random_state" (top 14) [] (fa 14) (fdd 14)
  g__law_random_state : mg "_law_random_state" = some (.ref (fa 14))
  F__law_tally : FnP K "_law_tally" (top 16) [] (fa 16) (fdd 16)
  g__law_tally : mg "_law_tally" = some (.ref (fa 16))
  F_suffix_counts : FnP K "suffix_counts" (top 4) [] (fa 4) (fdd 4)
  g_suffix_counts : mg "suffix_counts" = some (.ref (fa 4))
  F_is_grounded : FnP K "is_grounded" (top 3) [] (fa 3) (fdd 3)
  g_is_grounded : mg "is_grounded" = some (.ref (fa 3))
  F_state_from_counts : FnP K "state_from_counts" (top 5) [] (fa 5) (fdd 5)
  g_state_from_counts : mg "state_from_counts" = some (.ref (fa 5))
  F__law_right : FnP K "_law_right" (top 17) [] (fa 17) (fdd 17)
  g__law_right : mg "_law_right" = some (.ref (fa 17))
  F__law_stream : FnP K "_law_stream" (top 7) [] (fa 7) (fdd 7)
  g__law_stream : mg "_law_stream" = some (.ref (fa 7))
  F_law : FnP K "law" (top 18) [] (fa 18) (fdd 18)
  g_law : mg "law" = some (.ref (fa 18))
  n_abs : mg "abs" = none
  n_all : mg "all" = none
  n_bool : mg "bool" = none
  n_divmod : mg "divmod" = none
  n_enumerate : mg "enumerate" = none
  n_int : mg "int" = none
  n_isinstance : mg "isinstance" = none
  n_len : mg "len" = none
  n_list : mg "list" = none
  n_max : mg "max" = none
  n_range : mg "range" = none
  n_str : mg "str" = none
  n_sum : mg "sum" = none
  n_tuple : mg "tuple" = none
  n_zip : mg "zip" = none
variable {P : Program} {w : World} {K : PySem.W.Frag} {mg : Str → Option Value} {base : Heap} {fa : Nat → Addr} {fdd : Nat → FuncData}
theorem sc__law_fold : FnScope ["_law_script", "_law_span", "_law_cells", "_law_k", "_law_cell"] ["_law_script", "_law_span"] (defScope (top 9)) := ⟨rfl, rfl, rfl, by decide +kernel, rfl, by decide +kernel, by decide +kernel⟩
theorem bd__law_fold (T : Tx K mg fa fdd) : Binds K (fdd 9) ["_law_script", "_law_span"] [] := T.F__law_fold.bindsN fun _ _ _ _ _ _ us hl => match us, hl with | [_, _], _ => rfl
theorem ok__law_fold (T : Tx K mg fa fdd) : FnOk P w K mg base (L2.CX P w) 1 (fa 9) (fdd 9) ["_law_script", "_law_span"] (spOf K 2 m__law_fold) :=
  def_okD (N := ["_law_script", "_law_span", "_law_cells", "_law_k", "_law_cell"]) (mask := [true, true]) (fb := b__law_fold) T.F__law_fold sc__law_fold rfl (by decide) fun cdv A outer s H vs rs E hr hl => match vs, hl with
    | [v0, v1], _ => (ws_cons (w_set (i := 2) (w_callTy call_list_of c_list rfl T.n_list bt_list (wa_cons (w_slice rfl (w_var (pv 0)) wo_none (wo_some (w_var (pv 1)))) wa_nil)) sc__law_fold.nd rfl (by first | exact .inl rfl | exact .inr rfl) rfl)
    (ws_cons (w_for (passes_of rfl) rfl (wi_enum rfl rfl T.n_enumerate (wA_v (w_slice rfl (w_var (pv 0)) (wo_some (w_var (pv 1))) (wo_some w_int)) wA_nil)) (wg_tup rfl rfl (wgs_cons (wg_name (i := 3) sc__law_fold.nd rfl (by first | exact .inl rfl | exact .inr rfl) rfl) (wgs_cons (wg_name (i := 4) sc__law_fold.nd rfl (by first | exact .inl rfl | exact .inr rfl) rfl) wgs_nil)))
    (ws_one (w_asg (w_bin op_addA s_add (w_ixS rfl (pv 2) (w_bin op_mod s_mod (w_var (pv 3)) (w_var (pv 1)))) (w_bin op_mulB s_mulB (w_var (pv 4)) (w_bin op_addA s_add (w_var (pv 3)) w_int))) (wg_sub (pg_sub (pv 2) (w_bin op_mod s_mod (w_var (pv 3)) (w_var (pv 1))) set_list)))))
    (ws_one (w_ret (w_take (pv 2))))))
theorem sc__law_draw : FnScope ["_law_rng", "_law_span", "_law_found", "_law_stir", "_law_once", "_law_twice"] ["_law_rng", "_law_span"] (defScope (top 8)) := ⟨rfl, rfl, rfl, by decide +kernel, rfl, by decide +kernel, by decide +kernel⟩
theorem bd__law_draw (T : Tx K mg fa fdd) : Binds K (fdd 8) ["_law_rng", "_law_span"] [] := T.F__law_draw.bindsN fun _ _ _ _ _ _ us hl => match us, hl with | [_, _], _ => rfl
theorem ok__law_draw_n (T : Tx K mg fa fdd) : ∀ n, FnOk P w K mg base (L2.CX P w) (0 + n) (fa 8) (fdd 8) ["_law_rng", "_law_span"] (spOf K 2 (m__law_draw n))
  | 0 => fn_none
  | n + 1 => def_okD (N := ["_law_rng", "_law_span", "_law_found", "_law_stir", "_law_once", "_law_twice"]) (mask := [true, true]) (fb := b__law_draw (m__law_draw n)) T.F__law_draw sc__law_draw rfl (by decide) fun cdv A outer s H vs rs E hr hl => match vs, hl with
    | [v0, v1], _ => (ws_cons (w_if (wt_cmpR op_gt s_gt (wr_v (w_ixS rfl (pv 0) w_int)) (wr_v w_int)) (ws_cons (w_asg (w_callB call_divmodW c_divmod rfl T.n_divmod bb_divmod (wa_cons (w_ixS rfl (pv 0) w_int) (wa_cons (w_var (pv 1)) wa_nil))) (wg_tup rfl rfl (wgs_cons (wg_sub (pg_sub (pv 0) w_int set_list)) (wgs_cons (wg_name (i := 2) sc__law_draw.nd rfl (by first | exact .inl rfl | exact .inr rfl) rfl) wgs_nil))))
    (ws_one (w_ret (w_take (pv 2))))) ws_nil)
    (ws_cons (w_if (wt_cmpR op_gt s_gt (wr_s (pv 1)) (wr_v (w_bin op_pow s_pow w_int w_int))) (ws_one (w_ret (w_bin op_mod s_mod (w_bin op_addA s_add (w_call (ok__law_draw_n T n) hr rfl T.g__law_draw T.F__law_draw.kp (bd__law_draw T) (takes_of rfl rfl rfl rfl) (wA_s (pv 0) (wA_v (w_frz (w_bin op_pow s_pow w_int w_int)) wA_nil))) (w_bin op_mulB s_mulB (w_bin op_pow s_pow w_int w_int) (w_call (ok__law_draw_n T n) hr rfl T.g__law_draw T.F__law_draw.kp (bd__law_draw T) (takes_of rfl rfl rfl rfl) (wA_s (pv 0) (wA_v (w_frz (w_bin op_addA s_add (w_bin op_fdivW s_fdiv (w_bin op_sub s_sub (w_var (pv 1)) w_int) (w_bin op_pow s_pow w_int w_int)) w_int)) wA_nil))))) (w_var (pv 1))))) ws_nil)
    (ws_cons (w_asg (w_bin op_addA s_add (w_ixS rfl (pv 0) w_int) w_int) (wg_sub (pg_sub (pv 0) w_int set_list)))
    (ws_cons (w_set (i := 3) (w_bin op_addA s_add w_int (w_bin op_mulB s_mulB (w_ixS rfl (pv 0) w_int) (w_ixS rfl (pv 0) w_int))) sc__law_draw.nd rfl (by first | exact .inl rfl | exact .inr rfl) rfl)
    (ws_cons (w_set (i := 4) (w_bin op_mod s_mod (w_bin op_mulB s_mulB (w_bin op_addA s_add (w_ixS rfl (pv 0) w_int) (w_bin op_mulB s_mulB w_int (w_ixS rfl (pv 0) w_int))) (w_var (pv 3))) w_int) sc__law_draw.nd rfl (by first | exact .inl rfl | exact .inr rfl) rfl)
    (ws_cons (w_set (i := 5) (w_bin op_mod s_mod (w_bin op_addA s_add (w_bin op_mulB s_mulB (w_var (pv 4)) (w_bin op_addA s_add (w_bin op_mod s_mod (w_var (pv 4)) w_int) w_int)) (w_ixS rfl (pv 0) w_int)) w_int) sc__law_draw.nd rfl (by first | exact .inl rfl | exact .inr rfl) rfl)
    (ws_one (w_ret (w_bin op_mod s_mod (w_bin op_fdivW s_fdiv (w_bin op_mod s_mod (w_bin op_mulB s_mulB (w_var (pv 5)) (w_bin op_addA s_add (w_bin op_mod s_mod (w_var (pv 5)) w_int) w_int)) w_int) w_int) (w_var (pv 1)))))))))))
theorem ok__law_draw (T : Tx K mg fa fdd) : FnOk P w K mg base (L2.CX P w) 12 (fa 8) (fdd 8) ["_law_rng", "_law_span"] (spOf K 2 (m__law_draw 12)) := ok__law_draw_n T 12
theorem sc__law_pick : FnScope ["_law_rng", "_law_some"] ["_law_rng", "_law_some"] (defScope (top 11)) := ⟨rfl, rfl, rfl, by decide +kernel, rfl, by decide +kernel, by decide +kernel⟩
theorem bd__law_pick (T : Tx K mg fa fdd) : Binds K (fdd 11) ["_law_rng", "_law_some"] [] := T.F__law_pick.bindsN fun _ _ _ _ _ _ us hl => match us, hl with | [_, _], _ => rfl
theorem ok__law_pick (T : Tx K mg fa fdd) : FnOk P w K mg base (L2.CX P w) 13 (fa 11) (fdd 11) ["_law_rng", "_law_some"] (spOf K 2 m__law_pick) :=
  def_okD (N := ["_law_rng", "_law_some"]) (mask := [true, true]) (fb := b__law_pick) T.F__law_pick sc__law_pick rfl (by decide) fun cdv A outer s H vs rs E hr hl => match vs, hl with
    | [v0, v1], _ => (ws_one (w_ret (w_ixS rfl (pv 1) (w_call (ok__law_draw T) (hr.mono (by decide)) rfl T.g__law_draw T.F__law_draw.kp (bd__law_draw T) (takes_of rfl rfl rfl rfl) (wA_s (pv 0) (wA_v (w_frz (w_roB call_len_seq c_len rfl T.n_len bb_len (wA_s (pv 1) wA_nil))) wA_nil))))))
theorem sc__law_random_well : FnScope ["_law_rng", "_law_length", "_law_crowd", "_law_gap_top", "_law_lots", "_law_heavy", "_law_k", "_law_gaps", "_law_tops", "_law_pair", "_law_ahead"] ["_law_rng", "_law_length", "_law_crowd"] (defScope (top 13)) := ⟨rfl, rfl, rfl, by decide +kernel, rfl, by decide +kernel, by decide +kernel⟩
theorem bd__law_random_well (T : Tx K mg fa fdd) : Binds K (fdd 13) ["_law_rng", "_law_length", "_law_crowd"] [] := T.F__law_random_well.bindsN fun _ _ _ _ _ _ us hl => match us, hl with | [_, _, _], _ => rfl
theorem ok__law_random_well (T : Tx K mg fa fdd) : FnOk P w K mg base (L2.CX P w) 14 (fa 13) (fdd 13) ["_law_rng", "_law_length", "_law_crowd"] (spOf K 3 m__law_random_well) :=
  def_okD (N := ["_law_rng", "_law_length", "_law_crowd", "_law_gap_top", "_law_lots", "_law_heavy", "_law_k", "_law_gaps", "_law_tops", "_law_pair", "_law_ahead"]) (mask := [true, true, true]) (fb := b__law_random_well) T.F__law_random_well sc__law_random_well rfl (by decide) fun cdv A outer s H vs rs E hr hl => match vs, hl with
    | [v0, v1, v2], _ => (ws_cons (w_par3 (i := 3) (j := 4) (l := 5) rfl sc__law_random_well.nd rfl rfl rfl (by decide) (by decide) (by decide) rfl rfl rfl rfl rfl rfl (wa_cons (w_call (ok__law_pick T) (hr.mono (by decide)) rfl T.g__law_pick T.F__law_pick.kp (bd__law_pick T) (takes_of rfl rfl rfl rfl) (wA_s (pv 0) (wA_v (w_frz (w_lst (wa_cons w_int (wa_cons w_int (wa_cons w_int (wa_cons (w_bin op_pow s_pow w_int w_int) wa_nil)))))) wA_nil))) (wa_cons (w_lst wa_nil) (wa_cons w_int wa_nil))) rfl)
    (ws_cons (w_for (passes_of rfl) rfl (wi_rng1 rfl T.n_range (w_bin op_addA s_add w_int (w_call (ok__law_draw T) (hr.mono (by decide)) rfl T.g__law_draw T.F__law_draw.kp (bd__law_draw T) (takes_of rfl rfl rfl rfl) (wA_s (pv 0) (wA_v (w_var (pv 1)) wA_nil))))) (wg_name (i := 6) sc__law_random_well.nd rfl (by first | exact .inl rfl | exact .inr rfl) rfl)
    (ws_cons (w_set (i := 5) (w_bin op_addA s_add (w_bin op_addA s_add (w_var (pv 5)) w_int) (w_call (ok__law_draw T) (hr.mono (by decide)) rfl T.g__law_draw T.F__law_draw.kp (bd__law_draw T) (takes_of rfl rfl rfl rfl) (wA_s (pv 0) (wA_v (w_var (pv 3)) wA_nil)))) sc__law_random_well.nd rfl (by first | exact .inl rfl | exact .inr rfl) rfl)
    (ws_one (w_expr (w_app (pe_bm PySem.F.plainAttrs_list PySem.F.slot_list_append PySem.F.type_list_append mt_append (pv 4) (pa_cons (w_tup (wa_cons (w_var (pv 5)) (wa_cons (w_call (ok__law_pick T) (hr.mono (by decide)) rfl T.g__law_pick T.F__law_pick.kp (bd__law_pick T) (takes_of rfl rfl rfl rfl) (wA_s (pv 0) (wA_v (w_frz (w_lst (wa_cons w_int (wa_cons w_int (wa_cons (w_bin op_addA s_add w_int (w_call (ok__law_draw T) (hr.mono (by decide)) rfl T.g__law_draw T.F__law_draw.kp (bd__law_draw T) (takes_of rfl rfl rfl rfl) (wA_s (pv 0) (wA_v (w_var (pv 2)) wA_nil)))) wa_nil))))) wA_nil))) wa_nil))) pa_nil)))))))
    (ws_cons (w_setLc rfl sc__law_random_well.nd (i := 7) rfl rfl rfl (sw_true rfl rfl rfl rfl) (wi_zip2 rfl rfl T.n_zip (wA_s (pv 4) (wA_v (w_bin op_addA s_add (w_lst (wa_cons w_int wa_nil)) (w_lc rfl sc__law_random_well.nd (wi_seqS rfl (pv 4)) (ow := [("_law_pair", 9)]) (blkOk_by (by rfl)) (by decide) (fun PV1 hP1 s1 H1 C1 cl1 fp1 => (wg_name (i := 9) sc__law_random_well.nd rfl (by first | exact .inl rfl | exact .inr rfl) (hP1 9 (by decide)))) (fun PV1 hP1 s1 H1 C1 cl1 fp1 => pts_nil) (fun PV1 hP1 s1 H1 C1 cl1 fp1 => (w_ixS rfl (pv 9) w_int)))) wA_nil))) (ow := [("_law_pair", 9), ("_law_ahead", 10)]) (blkOk_by (by rfl)) (by decide) (fun PV1 hP1 s1 H1 C1 cl1 fp1 => (wg_tup rfl rfl (wgs_cons (wg_name (i := 9) sc__law_random_well.nd rfl (by first | exact .inl rfl | exact .inr rfl) (hP1 9 (by decide))) (wgs_cons (wg_name (i := 10) sc__law_random_well.nd rfl (by first | exact .inl rfl | exact .inr rfl) (hP1 10 (by decide))) wgs_nil)))) (fun PV1 hP1 s1 H1 C1 cl1 fp1 => pts_nil) (fun PV1 hP1 s1 H1 C1 cl1 fp1 => (w_bin op_sub s_sub (w_ixS rfl (pv 9) w_int) (w_var (pv 10)))))
    (ws_cons (w_set (i := 8) (w_lst (wa_cons (w_roB (cr_max rfl) c_max1 rfl T.n_max bb_max (wA_s (pv 7) wA_nil)) (wa_cons (w_roB (cr_max rfl) c_max1 rfl T.n_max bb_max (wA_s (pv 7) wA_nil)) (wa_cons (w_call (ok__law_pick T) (hr.mono (by decide)) rfl T.g__law_pick T.F__law_pick.kp (bd__law_pick T) (takes_of rfl rfl rfl rfl) (wA_s (pv 0) (wA_v (w_var (pv 7)) wA_nil))) (wa_cons (w_bin op_addA s_add w_int (w_call (ok__law_draw T) (hr.mono (by decide)) rfl T.g__law_draw T.F__law_draw.kp (bd__law_draw T) (takes_of rfl rfl rfl rfl) (wA_s (pv 0) (wA_v (w_var (pv 5)) wA_nil)))) (wa_cons (w_bin op_mulB s_mulB w_int (w_roB (cr_max rfl) c_max1 rfl T.n_max bb_max (wA_s (pv 7) wA_nil))) (wa_cons (w_var (pv 5)) wa_nil))))))) sc__law_random_well.nd rfl (by first | exact .inl rfl | exact .inr rfl) rfl)
    (ws_one (w_ret (w_tup (wa_cons (w_call (ok__law_pick T) (hr.mono (by decide)) rfl T.g__law_pick T.F__law_pick.kp (bd__law_pick T) (takes_of rfl rfl rfl rfl) (wA_s (pv 0) (wA_v (w_var (pv 8)) wA_nil))) (wa_cons (w_callTy call_tuple_of c_tuple rfl T.n_tuple bt_tuple (wa_cons (w_var (pv 4)) wa_nil)) wa_nil)))))))))
theorem sc_segment_starts : FnScope ["well", "starts", "group", "weight", "size", "continues"] ["well"] (defScope (top 1)) := ⟨rfl, rfl, rfl, by decide +kernel, rfl, by decide +kernel, by decide +kernel⟩
theorem bd_segment_starts (T : Tx K mg fa fdd) : Binds K (fdd 1) ["well"] [] := T.F_segment_starts.bindsN fun _ _ _ _ _ _ us hl => match us, hl with | [_], _ => rfl
theorem ok_segment_starts (T : Tx K mg fa fdd) : FnOk P w K mg base (L2.CX P w) 1 (fa 1) (fdd 1) ["well"] (spOf K 1 m_segment_starts) :=
  def_okD (N := ["well", "starts", "group", "weight", "size", "continues"]) (mask := [true]) (fb := b_segment_starts) T.F_segment_starts sc_segment_starts rfl (by decide) fun cdv A outer s H vs rs E hr hl => match vs, hl with
    | [v0], _ => (ws_cons (w_set (i := 1) (w_lst wa_nil) sc_segment_starts.nd rfl (by first | exact .inl rfl | exact .inr rfl) rfl)
    (ws_cons (w_for (passes_of rfl) rfl (wi_enum rfl rfl T.n_enumerate (wA_v (w_ixS rfl (pv 0) w_int) wA_nil)) (wg_tup rfl rfl (wgs_cons (wg_name (i := 2) sc_segment_starts.nd rfl (by first | exact .inl rfl | exact .inr rfl) rfl) (wgs_cons (wg_tup rfl rfl (wgs_cons (wg_name (i := 3) sc_segment_starts.nd rfl (by first | exact .inl rfl | exact .inr rfl) rfl) (wgs_cons (wg_name (i := 4) sc_segment_starts.nd rfl (by first | exact .inl rfl | exact .inr rfl) rfl) wgs_nil))) wgs_nil)))
    (ws_cons (w_set (i := 5) (w_and (w_cmpR op_gt s_gt (wr_s (pv 2)) (wr_v w_int)) (w_one (w_cmpR op_le s_le (wr_v (w_bin op_sub s_sub (w_var (pv 3)) (w_ix rfl (w_ix rfl (w_ixS rfl (pv 0) w_int) (w_bin op_sub s_sub (w_var (pv 2)) w_int)) w_int))) (wr_v (w_ixS rfl (pv 0) w_int))))) sc_segment_starts.nd rfl (by first | exact .inl rfl | exact .inr rfl) rfl)
    (ws_one (w_expr (w_app (pe_bm PySem.F.plainAttrs_list PySem.F.slot_list_append PySem.F.type_list_append mt_append (pv 1) (pa_cons (w_ifE (wt_val (w_var (pv 5))) (w_ixS rfl (pv 1) (w_un un_neg s_neg w_int)) (w_var (pv 2))) pa_nil)))))))
    (ws_one (w_ret (w_take (pv 1))))))
theorem sc_segments : FnScope ["well", "found", "group", "start"] ["well"] (defScope (top 2)) := ⟨rfl, rfl, rfl, by decide +kernel, rfl, by decide +kernel, by decide +kernel⟩
theorem bd_segments (T : Tx K mg fa fdd) : Binds K (fdd 2) ["well"] [] := T.F_segments.bindsN fun _ _ _ _ _ _ us hl => match us, hl with | [_], _ => rfl
theorem kb_segments_0_well (T : Tx K mg fa fdd) : KB K (fdd 2) ["well"] ["well"] 0 [0] [] := kb_none T.F_segments fun _ _ _ _ _ _ us ws h1 h2 => match us, ws, h1, h2 with | [], [_], _, _ => rfl
theorem ok_segments (T : Tx K mg fa fdd) : FnOk P w K mg base (L2.CX P w) 2 (fa 2) (fdd 2) ["well"] (spOf K 1 m_segments) :=
  def_okD (N := ["well", "found", "group", "start"]) (mask := [true]) (fb := b_segments) T.F_segments sc_segments rfl (by decide) fun cdv A outer s H vs rs E hr hl => match vs, hl with
    | [v0], _ => (ws_cons (w_set (i := 1) (w_lst wa_nil) sc_segments.nd rfl (by first | exact .inl rfl | exact .inr rfl) rfl)
    (ws_cons (w_for (passes_of rfl) rfl (wi_enum rfl rfl T.n_enumerate (wA_v (w_call (ok_segment_starts T) (hr.mono (by decide)) rfl T.g_segment_starts T.F_segment_starts.kp (bd_segment_starts T) (takes_of rfl rfl rfl rfl) (wA_v (w_var (pv 0)) wA_nil)) wA_nil)) (wg_tup rfl rfl (wgs_cons (wg_name (i := 2) sc_segments.nd rfl (by first | exact .inl rfl | exact .inr rfl) rfl) (wgs_cons (wg_name (i := 3) sc_segments.nd rfl (by first | exact .inl rfl | exact .inr rfl) rfl) wgs_nil)))
    (ws_cons (w_if (wt_cmpR (op_eqD hr.units) s_eq (wr_s (pv 2)) (wr_s (pv 3))) (ws_one (w_expr (w_app (pe_bm PySem.F.plainAttrs_list PySem.F.slot_list_append PySem.F.type_list_append mt_append (pv 1) (pa_cons (w_lst wa_nil) pa_nil))))) ws_nil)
    (ws_one (w_expr (w_app2 rfl (pe_bm PySem.F.plainAttrs_list PySem.F.slot_list_append PySem.F.type_list_append mt_append (pe_ix ix_seq (pv 1) (w_un un_neg s_neg w_int) (fun _ _ => rfl)) (pa_cons (pv 2) pa_nil)))))))
    (ws_one (w_ret (w_take (pv 1))))))
theorem sc__law_as_lists : FnScope ["_law_matter", "_law_part"] ["_law_matter"] (defScope (top 12)) := ⟨rfl, rfl, rfl, by decide +kernel, rfl, by decide +kernel, by decide +kernel⟩
theorem bd__law_as_lists (T : Tx K mg fa fdd) : Binds K (fdd 12) ["_law_matter"] [] := T.F__law_as_lists.bindsN fun _ _ _ _ _ _ us hl => match us, hl with | [_], _ => rfl
theorem ok__law_as_lists_n (T : Tx K mg fa fdd) : ∀ n, FnOk P w K mg base (L2.CX P w) (0 + n) (fa 12) (fdd 12) ["_law_matter"] (spOf K 1 (m__law_as_lists n))
  | 0 => fn_none
  | n + 1 => def_okD (N := ["_law_matter", "_law_part"]) (mask := [true]) (fb := b__law_as_lists (m__law_as_lists n)) T.F__law_as_lists sc__law_as_lists rfl (by decide) fun cdv A outer s H vs rs E hr hl => match vs, hl with
    | [v0], _ => (ws_one (w_ret (w_ifE (wt_val (w_roB call_isiA c_isi rfl T.n_isinstance bb_isinstance (wA_s (pv 0) (wA_v (w_tup (wa_cons (w_ty rfl T.n_list bt_list) (wa_cons (w_ty rfl T.n_tuple bt_tuple) wa_nil))) wA_nil)))) (w_lc rfl sc__law_as_lists.nd (wi_seqS rfl (pv 0)) (ow := [("_law_part", 1)]) (blkOk_by (by rfl)) (by decide) (fun PV1 hP1 s1 H1 C1 cl1 fp1 => (wg_name (i := 1) sc__law_as_lists.nd rfl (by first | exact .inl rfl | exact .inr rfl) (hP1 1 (by decide)))) (fun PV1 hP1 s1 H1 C1 cl1 fp1 => pts_nil) (fun PV1 hP1 s1 H1 C1 cl1 fp1 => (w_call (ok__law_as_lists_n T n) hr rfl T.g__law_as_lists T.F__law_as_lists.kp (bd__law_as_lists T) takes0 (wA_v (w_var (pv 1)) wA_nil)))) (w_var (pv 0)))))
theorem ok__law_as_lists (T : Tx K mg fa fdd) : FnOk P w K mg base (L2.CX P w) 8 (fa 12) (fdd 12) ["_law_matter"] (spOf K 1 (m__law_as_lists 8)) := ok__law_as_lists_n T 8
theorem sc__law_flights : FnScope ["_law_shaft", "_law_found", "_law_k"] ["_law_shaft"] (defScope (top 15)) := ⟨rfl, rfl, rfl, by decide +kernel, rfl, by decide +kernel, by decide +kernel⟩
theorem bd__law_flights (T : Tx K mg fa fdd) : Binds K (fdd 15) ["_law_shaft"] [] := T.F__law_flights.bindsN fun _ _ _ _ _ _ us hl => match us, hl with | [_], _ => rfl
theorem ok__law_flights (T : Tx K mg fa fdd) : FnOk P w K mg base (L2.CX P w) 1 (fa 15) (fdd 15) ["_law_shaft"] (spOf K 1 m__law_flights) :=
  def_okD (N := ["_law_shaft", "_law_found", "_law_k"]) (mask := [true]) (fb := b__law_flights) T.F__law_flights sc__law_flights rfl (by decide) fun cdv A outer s H vs rs E hr hl => match vs, hl with
    | [v0], _ => (ws_cons (w_set (i := 1) (w_lst (wa_cons (w_lst (wa_cons w_int wa_nil)) wa_nil)) sc__law_flights.nd rfl (by first | exact .inl rfl | exact .inr rfl) rfl)
    (ws_cons (w_for (passes_of rfl) rfl (wi_rng2 rfl T.n_range w_int (w_roB call_len_seq c_len rfl T.n_len bb_len (wA_v (w_ixS rfl (pv 0) w_int) wA_nil))) (wg_name (i := 2) sc__law_flights.nd rfl (by first | exact .inl rfl | exact .inr rfl) rfl)
    (ws_cons (w_if (wt_cmpR op_gt s_gt (wr_v (w_bin op_sub s_sub (w_ix rfl (w_ix rfl (w_ixS rfl (pv 0) w_int) (w_var (pv 2))) w_int) (w_ix rfl (w_ix rfl (w_ixS rfl (pv 0) w_int) (w_bin op_sub s_sub (w_var (pv 2)) w_int)) w_int))) (wr_v (w_ixS rfl (pv 0) w_int))) (ws_one (w_expr (w_app (pe_bm PySem.F.plainAttrs_list PySem.F.slot_list_append PySem.F.type_list_append mt_append (pv 1) (pa_cons (w_lst wa_nil) pa_nil))))) ws_nil)
    (ws_one (w_expr (w_app2 rfl (pe_bm PySem.F.plainAttrs_list PySem.F.slot_list_append PySem.F.type_list_append mt_append (pe_ix ix_seq (pv 1) (w_un un_neg s_neg w_int) (fun _ _ => rfl)) (pa_cons (pv 2) pa_nil)))))))
    (ws_one (w_ret (w_take (pv 1))))))
theorem sc__law_same : FnScope ["_law_found", "_law_wanted", "_law_mine", "_law_its"] ["_law_found", "_law_wanted"] (defScope (top 10)) := ⟨rfl, rfl, rfl, by decide +kernel, rfl, by decide +kernel, by decide +kernel⟩
theorem bd__law_same (T : Tx K mg fa fdd) : Binds K (fdd 10) ["_law_found", "_law_wanted"] [] := T.F__law_same.bindsN fun _ _ _ _ _ _ us hl => match us, hl with | [_, _], _ => rfl
theorem ok__law_same_n (T : Tx K mg fa fdd) : ∀ n, FnOk P w K mg base (L2.CX P w) (0 + n) (fa 10) (fdd 10) ["_law_found", "_law_wanted"] (spOf K 2 (m__law_same n))
  | 0 => fn_none
  | n + 1 => def_okD (N := ["_law_found", "_law_wanted", "_law_mine", "_law_its"]) (mask := [true, true]) (fb := b__law_same (m__law_same n)) T.F__law_same sc__law_same rfl (by decide) fun cdv A outer s H vs rs E hr hl => match vs, hl with
    | [v0, v1], _ => (ws_cons (w_if (wt_val (w_roB call_isiA c_isi rfl T.n_isinstance bb_isinstance (wA_s (pv 1) (wA_v (w_tup (wa_cons (w_ty rfl T.n_list bt_list) (wa_cons (w_ty rfl T.n_tuple bt_tuple) wa_nil))) wA_nil)))) (ws_cons (w_if (wt_w (ww_or (wt_cmpR (op_neD hr.units) s_ne (wr_v (w_roB call_isiA c_isi rfl T.n_isinstance bb_isinstance (wA_s (pv 0) (wA_v (w_ty rfl T.n_list bt_list) wA_nil)))) (wr_v (w_roB call_isiA c_isi rfl T.n_isinstance bb_isinstance (wA_s (pv 1) (wA_v (w_ty rfl T.n_list bt_list) wA_nil))))) (ww_or1 (wt_cmpR (op_neD hr.units) s_ne (wr_v (w_roB call_isiA c_isi rfl T.n_isinstance bb_isinstance (wA_s (pv 0) (wA_v (w_ty rfl T.n_tuple bt_tuple) wA_nil)))) (wr_v (w_roB call_isiA c_isi rfl T.n_isinstance bb_isinstance (wA_s (pv 1) (wA_v (w_ty rfl T.n_tuple bt_tuple) wA_nil)))))))) (ws_one (w_ret w_bl)) ws_nil)
    (ws_one (w_ret (w_and (w_cmpR (op_eqD hr.units) s_eq (wr_v (w_roB call_len_seq c_len rfl T.n_len bb_len (wA_s (pv 0) wA_nil))) (wr_v (w_roB call_len_seq c_len rfl T.n_len bb_len (wA_s (pv 1) wA_nil)))) (w_one (w_roB (cr_all rfl) c_all rfl T.n_all bb_all (wA_v (w_lc rfl sc__law_same.nd (wi_zip2 rfl rfl T.n_zip (wA_s (pv 0) (wA_s (pv 1) wA_nil))) (ow := [("_law_mine", 2), ("_law_its", 3)]) (blkOk_by (by rfl)) (by decide) (fun PV1 hP1 s1 H1 C1 cl1 fp1 => (wg_tup rfl rfl (wgs_cons (wg_name (i := 2) sc__law_same.nd rfl (by first | exact .inl rfl | exact .inr rfl) (hP1 2 (by decide))) (wgs_cons (wg_name (i := 3) sc__law_same.nd rfl (by first | exact .inl rfl | exact .inr rfl) (hP1 3 (by decide))) wgs_nil)))) (fun PV1 hP1 s1 H1 C1 cl1 fp1 => pts_nil) (fun PV1 hP1 s1 H1 C1 cl1 fp1 => (w_call (ok__law_same_n T n) hr rfl T.g__law_same T.F__law_same.kp (bd__law_same T) takes0 (wA_v (w_var (pv 2)) (wA_v (w_var (pv 3)) wA_nil))))) wA_nil))))))) ws_nil)
    (ws_cons (w_if (wt_w (ww_or (wt_cmpR op_isN s_is (wr_s (pv 1)) (wr_v w_non)) (ww_or1 (wt_val (w_roB call_isiA c_isi rfl T.n_isinstance bb_isinstance (wA_s (pv 1) (wA_v (w_ty rfl T.n_str bt_str) wA_nil))))))) (ws_one (w_ret (w_and (w_cmpR (op_eqD hr.units) s_eq (wr_s (pv 0)) (wr_s (pv 1))) (w_one (w_cmpR (op_eqD hr.units) s_eq (wr_v (w_roB call_isiA c_isi rfl T.n_isinstance bb_isinstance (wA_s (pv 0) (wA_v (w_ty rfl T.n_str bt_str) wA_nil)))) (wr_v (w_roB call_isiA c_isi rfl T.n_isinstance bb_isinstance (wA_s (pv 1) (wA_v (w_ty rfl T.n_str bt_str) wA_nil))))))))) ws_nil)
    (ws_one (w_ret (w_and (w_roB call_isiA c_isi rfl T.n_isinstance bb_isinstance (wA_s (pv 0) (wA_v (w_ty rfl T.n_int bt_int) wA_nil))) (w_and (w_cmpR (op_eqD hr.units) s_eq (wr_v (w_roB call_isiA c_isi rfl T.n_isinstance bb_isinstance (wA_s (pv 0) (wA_v (w_ty rfl T.n_bool bt_bool) wA_nil)))) (wr_v (w_roB call_isiA c_isi rfl T.n_isinstance bb_isinstance (wA_s (pv 1) (wA_v (w_ty rfl T.n_bool bt_bool) wA_nil))))) (w_one (w_cmpR (op_eqD hr.units) s_eq (wr_s (pv 0)) (wr_s (pv 1))))))))))
theorem ok__law_same (T : Tx K mg fa fdd) : FnOk P w K mg base (L2.CX P w) 8 (fa 10) (fdd 10) ["_law_found", "_law_wanted"] (spOf K 2 (m__law_same 8)) := ok__law_same_n T 8
theorem sc__law_random_state : FnScope ["_law_rng", "_law_shaft", "_law_heavy", "_law_full"] ["_law_rng", "_law_shaft"] (defScope (top 14)) := ⟨rfl, rfl, rfl, by decide +kernel, rfl, by decide +kernel, by decide +kernel⟩
theorem bd__law_random_state (T : Tx K mg fa fdd) : Binds K (fdd 14) ["_law_rng", "_law_shaft"] [] := T.F__law_random_state.bindsN fun _ _ _ _ _ _ us hl => match us, hl with | [_, _], _ => rfl
theorem ok__law_random_state (T : Tx K mg fa fdd) : FnOk P w K mg base (L2.CX P w) 14 (fa 14) (fdd 14) ["_law_rng", "_law_shaft"] (spOf K 2 m__law_random_state) :=
  def_okD (N := ["_law_rng", "_law_shaft", "_law_heavy", "_law_full"]) (mask := [true, true]) (fb := b__law_random_state) T.F__law_random_state sc__law_random_state rfl (by decide) fun cdv A outer s H vs rs E hr hl => match vs, hl with
    | [v0, v1], _ => (ws_one (w_ret (w_callTy call_tuple_of c_tuple rfl T.n_tuple bt_tuple (wa_cons (w_lc rfl sc__law_random_state.nd (wi_seq rfl (w_ixS rfl (pv 1) w_int)) (ow := [("_law_heavy", 2), ("_law_full", 3)]) (blkOk_by (by rfl)) (by decide) (fun PV1 hP1 s1 H1 C1 cl1 fp1 => (wg_tup rfl rfl (wgs_cons (wg_name (i := 2) sc__law_random_state.nd rfl (by first | exact .inl rfl | exact .inr rfl) (hP1 2 (by decide))) (wgs_cons (wg_name (i := 3) sc__law_random_state.nd rfl (by first | exact .inl rfl | exact .inr rfl) (hP1 3 (by decide))) wgs_nil)))) (fun PV1 hP1 s1 H1 C1 cl1 fp1 => pts_nil) (fun PV1 hP1 s1 H1 C1 cl1 fp1 => (w_call (ok__law_pick T) (hr.mono (by decide)) rfl T.g__law_pick T.F__law_pick.kp (bd__law_pick T) takes0 (wA_s (pv 0) (wA_v (w_frz (w_lst (wa_cons w_int (wa_cons (w_var (pv 3)) (wa_cons (w_call (ok__law_draw T) (hr.mono (by decide)) rfl T.g__law_draw T.F__law_draw.kp (bd__law_draw T) takes0 (wA_s (pv 0) (wA_v (w_frz (w_bin op_addA s_add (w_var (pv 3)) w_int)) wA_nil))) wa_nil))))) wA_nil))))) wa_nil))))
theorem sc__law_tally : FnScope ["_law_shaft", "_law_here", "_law_found", "_law_lots", "_law_total", "_law_part", "_law_k"] ["_law_shaft", "_law_here"] (defScope (top 16)) := ⟨rfl, rfl, rfl, by decide +kernel, rfl, by decide +kernel, by decide +kernel⟩
theorem bd__law_tally (T : Tx K mg fa fdd) : Binds K (fdd 16) ["_law_shaft", "_law_here"] [] := T.F__law_tally.bindsN fun _ _ _ _ _ _ us hl => match us, hl with | [_, _], _ => rfl
theorem ok__law_tally (T : Tx K mg fa fdd) : FnOk P w K mg base (L2.CX P w) 2 (fa 16) (fdd 16) ["_law_shaft", "_law_here"] (spOf K 2 m__law_tally) :=
  def_okD (N := ["_law_shaft", "_law_here", "_law_found", "_law_lots", "_law_total", "_law_part", "_law_k"]) (mask := [true, true]) (fb := b__law_tally) T.F__law_tally sc__law_tally rfl (by decide) fun cdv A outer s H vs rs E hr hl => match vs, hl with
    | [v0, v1], _ => (ws_cons (w_set (i := 2) (w_lst wa_nil) sc__law_tally.nd rfl (by first | exact .inl rfl | exact .inr rfl) rfl)
    (ws_cons (w_for (passes_of rfl) rfl (wi_seq rfl (w_call (ok__law_flights T) (hr.mono (by decide)) rfl T.g__law_flights T.F__law_flights.kp (bd__law_flights T) (takes_of rfl rfl rfl rfl) (wA_v (w_var (pv 0)) wA_nil))) (wg_name (i := 3) sc__law_tally.nd rfl (by first | exact .inl rfl | exact .inr rfl) rfl)
    (ws_cons (w_par2 (i := 4) (j := 5) rfl sc__law_tally.nd rfl rfl (by decide) rfl rfl rfl rfl (wa_cons w_int (wa_cons (w_lst wa_nil) wa_nil)) rfl)
    (ws_cons (w_for (passes_of rfl) rfl (wi_seq rfl (w_revl rfl (w_var (pv 3)))) (wg_name (i := 6) sc__law_tally.nd rfl (by first | exact .inl rfl | exact .inr rfl) rfl)
    (ws_cons (w_set (i := 4) (w_bin op_addA s_add (w_var (pv 4)) (w_ixS rfl (pv 1) (w_var (pv 6)))) sc__law_tally.nd rfl (by first | exact .inl rfl | exact .inr rfl) rfl)
    (ws_one (w_set (i := 5) (w_bin op_addA s_add (w_lst (wa_cons (w_var (pv 4)) wa_nil)) (w_var (pv 5))) sc__law_tally.nd rfl (by first | exact .inl rfl | exact .inr rfl) rfl))))
    (ws_one (w_set (i := 2) (w_bin op_addA s_add (w_var (pv 2)) (w_var (pv 5))) sc__law_tally.nd rfl (by first | exact .inl rfl | exact .inr rfl) rfl)))))
    (ws_one (w_ret (w_callTy call_tuple_of c_tuple rfl T.n_tuple bt_tuple (wa_cons (w_var (pv 2)) wa_nil))))))
theorem sc_suffix_counts : FnScope ["well", "state", "starts", "group", "start", "later", "count"] ["well", "state"] (defScope (top 4)) := ⟨rfl, rfl, rfl, by decide +kernel, rfl, by decide +kernel, by decide +kernel⟩
theorem bd_suffix_counts (T : Tx K mg fa fdd) : Binds K (fdd 4) ["well", "state"] [] := T.F_suffix_counts.bindsN fun _ _ _ _ _ _ us hl => match us, hl with | [_, _], _ => rfl
theorem kb_suffix_counts_0_state_well (T : Tx K mg fa fdd) : KB K (fdd 4) ["well", "state"] ["state", "well"] 0 [1, 0] [] := kb_none T.F_suffix_counts fun _ _ _ _ _ _ us ws h1 h2 => match us, ws, h1, h2 with | [], [_, _], _, _ => rfl
theorem ok_suffix_counts (T : Tx K mg fa fdd) : FnOk P w K mg base (L2.CX P w) 2 (fa 4) (fdd 4) ["well", "state"] (spOf K 2 m_suffix_counts) :=
  def_okD (N := ["well", "state", "starts", "group", "start", "later", "count"]) (mask := [true, true]) (fb := b_suffix_counts) T.F_suffix_counts sc_suffix_counts rfl (by decide) fun cdv A outer s H vs rs E hr hl => match vs, hl with
    | [v0, v1], _ => (ws_cons (w_set (i := 2) (w_call (ok_segment_starts T) (hr.mono (by decide)) rfl T.g_segment_starts T.F_segment_starts.kp (bd_segment_starts T) (takes_of rfl rfl rfl rfl) (wA_v (w_var (pv 0)) wA_nil)) sc_suffix_counts.nd rfl (by first | exact .inl rfl | exact .inr rfl) rfl)
    (ws_one (w_ret (w_callTy call_tuple_of c_tuple rfl T.n_tuple bt_tuple (wa_cons (w_lc rfl sc_suffix_counts.nd (wi_enum rfl rfl T.n_enumerate (wA_v (w_var (pv 2)) wA_nil)) (ow := [("group", 3), ("start", 4)]) (blkOk_by (by rfl)) (by decide) (fun PV1 hP1 s1 H1 C1 cl1 fp1 => (wg_tup rfl rfl (wgs_cons (wg_name (i := 3) sc_suffix_counts.nd rfl (by first | exact .inl rfl | exact .inr rfl) (hP1 3 (by decide))) (wgs_cons (wg_name (i := 4) sc_suffix_counts.nd rfl (by first | exact .inl rfl | exact .inr rfl) (hP1 4 (by decide))) wgs_nil)))) (fun PV1 hP1 s1 H1 C1 cl1 fp1 => pts_nil) (fun PV1 hP1 s1 H1 C1 cl1 fp1 => (w_roB (cr_sum rfl) c_sum rfl T.n_sum bb_sum (wA_v (w_lc rfl sc_suffix_counts.nd (wi_enum rfl rfl T.n_enumerate (wA_s (pv 1) wA_nil)) (ow := [("later", 5), ("count", 6)]) (blkOk_by (by rfl)) (by decide) (fun PV2 hP2 s2 H2 C2 cl2 fp2 => (wg_tup rfl rfl (wgs_cons (wg_name (i := 5) sc_suffix_counts.nd rfl (by first | exact .inl rfl | exact .inr rfl) (hP2 5 (by decide))) (wgs_cons (wg_name (i := 6) sc_suffix_counts.nd rfl (by first | exact .inl rfl | exact .inr rfl) (hP2 6 (by decide))) wgs_nil)))) (fun PV2 hP2 s2 H2 C2 cl2 fp2 => (pts_one (wt_w (ww_and (wt_cmpR op_ge s_ge (wr_s (pv 5)) (wr_s (pv 3))) (ww_and1 (wt_cmpR (op_eqD hr.units) s_eq (wr_v (w_ixS rfl (pv 2) (w_var (pv 5)))) (wr_s (pv 4)))))))) (fun PV2 hP2 s2 H2 C2 cl2 fp2 => (w_var (pv 6)))) wA_nil)))) wa_nil)))))
theorem sc_is_grounded : FnScope ["well"] ["well"] (defScope (top 3)) := ⟨rfl, rfl, rfl, by decide +kernel, rfl, by decide +kernel, by decide +kernel⟩
theorem bd_is_grounded (T : Tx K mg fa fdd) : Binds K (fdd 3) ["well"] [] := T.F_is_grounded.bindsN fun _ _ _ _ _ _ us hl => match us, hl with | [_], _ => rfl
theorem kb_is_grounded_0_well (T : Tx K mg fa fdd) : KB K (fdd 3) ["well"] ["well"] 0 [0] [] := kb_none T.F_is_grounded fun _ _ _ _ _ _ us ws h1 h2 => match us, ws, h1, h2 with | [], [_], _, _ => rfl
theorem ok_is_grounded (T : Tx K mg fa fdd) : FnOk P w K mg base (L2.CX P w) 1 (fa 3) (fdd 3) ["well"] (spOf K 1 m_is_grounded) :=
  def_okD (N := ["well"]) (mask := [true]) (fb := b_is_grounded) T.F_is_grounded sc_is_grounded rfl (by decide) fun cdv A outer s H vs rs E hr hl => match vs, hl with
    | [v0], _ => (ws_one (w_ret (w_cmpR op_le s_le (wr_v (w_ix rfl (w_ix rfl (w_ixS rfl (pv 0) w_int) w_int) w_int)) (wr_v (w_ixS rfl (pv 0) w_int)))))
theorem sc_state_from_counts : FnScope ["well", "counts", "starts", "found", "group", "start", "is_last"] ["well", "counts"] (defScope (top 5)) := ⟨rfl, rfl, rfl, by decide +kernel, rfl, by decide +kernel, by decide +kernel⟩
theorem bd_state_from_counts (T : Tx K mg fa fdd) : Binds K (fdd 5) ["well", "counts"] [] := T.F_state_from_counts.bindsN fun _ _ _ _ _ _ us hl => match us, hl with | [_, _], _ => rfl
theorem kb_state_from_counts_0_counts_well (T : Tx K mg fa fdd) : KB K (fdd 5) ["well", "counts"] ["counts", "well"] 0 [1, 0] [] := kb_none T.F_state_from_counts fun _ _ _ _ _ _ us ws h1 h2 => match us, ws, h1, h2 with | [], [_, _], _, _ => rfl
theorem ok_state_from_counts (T : Tx K mg fa fdd) : FnOk P w K mg base (L2.CX P w) 2 (fa 5) (fdd 5) ["well", "counts"] (spOf K 2 m_state_from_counts) :=
  def_okD (N := ["well", "counts", "starts", "found", "group", "start", "is_last"]) (mask := [true, true]) (fb := b_state_from_counts) T.F_state_from_counts sc_state_from_counts rfl (by decide) fun cdv A outer s H vs rs E hr hl => match vs, hl with
    | [v0, v1], _ => (ws_cons (w_par2 (i := 2) (j := 3) rfl sc_state_from_counts.nd rfl rfl (by decide) rfl rfl rfl rfl (wa_cons (w_call (ok_segment_starts T) (hr.mono (by decide)) rfl T.g_segment_starts T.F_segment_starts.kp (bd_segment_starts T) (takes_of rfl rfl rfl rfl) (wA_v (w_var (pv 0)) wA_nil)) (wa_cons (w_lst wa_nil) wa_nil)) rfl)
    (ws_cons (w_for (passes_of rfl) rfl (wi_enum rfl rfl T.n_enumerate (wA_v (w_var (pv 2)) wA_nil)) (wg_tup rfl rfl (wgs_cons (wg_name (i := 4) sc_state_from_counts.nd rfl (by first | exact .inl rfl | exact .inr rfl) rfl) (wgs_cons (wg_name (i := 5) sc_state_from_counts.nd rfl (by first | exact .inl rfl | exact .inr rfl) rfl) wgs_nil)))
    (ws_cons (w_set (i := 6) (w_or (w_cmpR (op_eqD hr.units) s_eq (wr_v (w_bin op_addA s_add (w_var (pv 4)) w_int)) (wr_v (w_roB call_len_seq c_len rfl T.n_len bb_len (wA_s (pv 2) wA_nil)))) (w_one (w_cmpR (op_neD hr.units) s_ne (wr_v (w_ixS rfl (pv 2) (w_bin op_addA s_add (w_var (pv 4)) w_int))) (wr_s (pv 5))))) sc_state_from_counts.nd rfl (by first | exact .inl rfl | exact .inr rfl) rfl)
    (ws_one (w_expr (w_app (pe_bm PySem.F.plainAttrs_list PySem.F.slot_list_append PySem.F.type_list_append mt_append (pv 3) (pa_cons (w_bin op_sub s_sub (w_ixS rfl (pv 1) (w_var (pv 4))) (w_ifE (wt_val (w_var (pv 6))) w_int (w_ixS rfl (pv 1) (w_bin op_addA s_add (w_var (pv 4)) w_int)))) pa_nil)))))))
    (ws_one (w_ret (w_callTy call_tuple_of c_tuple rfl T.n_tuple bt_tuple (wa_cons (w_var (pv 3)) wa_nil))))))
theorem sc__law_right : FnScope ["_law_rng", "_law_turn", "_law_shaft", "_law_lists", "_law_due", "_law_told", "_law_near", "_law_here"] ["_law_rng"] (defScope (top 17)) := ⟨rfl, rfl, rfl, by decide +kernel, rfl, by decide +kernel, by decide +kernel⟩
theorem bd__law_right (T : Tx K mg fa fdd) : Binds K (fdd 17) ["_law_rng"] [] := T.F__law_right.bindsN fun _ _ _ _ _ _ us hl => match us, hl with | [_], _ => rfl
theorem ok__law_right (T : Tx K mg fa fdd) : FnOk P w K mg base (L2.CX P w) 15 (fa 17) (fdd 17) ["_law_rng"] (spOf K 1 m__law_right_v36) :=
  def_okD (N := ["_law_rng", "_law_turn", "_law_shaft", "_law_lists", "_law_due", "_law_told", "_law_near", "_law_here"]) (mask := [true]) (fb := b__law_right_v36) T.F__law_right sc__law_right rfl (by decide) fun cdv A outer s H vs rs E hr hl => match vs, hl with
    | [v0], _ => (ws_cons (w_for (passes_of rfl) rfl (wi_rng1 rfl T.n_range w_int) (wg_name (i := 1) sc__law_right.nd rfl (by first | exact .inl rfl | exact .inr rfl) rfl)
    (ws_cons (w_set (i := 2) (w_call (ok__law_random_well T) (hr.mono (by decide)) rfl T.g__law_random_well T.F__law_random_well.kp (bd__law_random_well T) (takes_of rfl rfl rfl rfl) (wA_s (pv 0) (wA_v w_int (wA_v (w_frz (w_call (ok__law_pick T) (hr.mono (by decide)) rfl T.g__law_pick T.F__law_pick.kp (bd__law_pick T) (takes_of rfl rfl rfl rfl) (wA_s (pv 0) (wA_v (w_frz (w_lst (wa_cons w_int (wa_cons (w_bin op_pow s_pow w_int w_int) wa_nil)))) wA_nil)))) wA_nil)))) sc__law_right.nd rfl (by first | exact .inl rfl | exact .inr rfl) rfl)
    (ws_cons (w_par2 (i := 3) (j := 4) rfl sc__law_right.nd rfl rfl (by decide) rfl rfl rfl rfl (wa_cons (w_call (ok__law_as_lists T) (hr.mono (by decide)) rfl T.g__law_as_lists T.F__law_as_lists.kp (bd__law_as_lists T) (takes_of rfl rfl rfl rfl) (wA_v (w_var (pv 2)) wA_nil)) (wa_cons (w_call (ok__law_flights T) (hr.mono (by decide)) rfl T.g__law_flights T.F__law_flights.kp (bd__law_flights T) (takes_of rfl rfl rfl rfl) (wA_v (w_var (pv 2)) wA_nil)) wa_nil)) rfl)
    (ws_cons (w_set (i := 5) (w_call (ok_segments T) (hr.mono (by decide)) rfl T.g_segments T.F_segments.kp (bd_segments T) (takes_of rfl rfl rfl rfl) (wA_v (w_var (pv 2)) wA_nil)) sc__law_right.nd rfl (by first | exact .inl rfl | exact .inr rfl) rfl)
    (ws_cons (w_if (wt_not (wt_val (w_callB1 (ok__law_same T) (hr.mono (by decide)) rfl T.g__law_same T.F__law_same.kp (bd__law_same T) (takes_of rfl rfl rfl rfl) (wA_s (pv 5) (wA_s (pv 4) wA_nil))))) (ws_one (w_ret w_bl)) ws_nil)
    (ws_cons (w_expr (w_apc rfl (fun j => ju_int j) (pe_bm PySem.F.plainAttrs_list PySem.F.slot_list_append PySem.F.type_list_append mt_append (pe_ix ix_seq (pv 5) pe_int (fun _ _ => rfl)) (pa_cons pe_int pa_nil))))
    (ws_cons (w_expr (w_app (pe_bm PySem.F.plainAttrs_list PySem.F.slot_list_append PySem.F.type_list_append mt_append (pv 5) (pa_cons (w_lst wa_nil) pa_nil))))
    (ws_cons (w_set (i := 6) (w_cmpR op_le s_le (wr_v (w_ix rfl (w_ix rfl (w_ixS rfl (pv 2) w_int) w_int) w_int)) (wr_v (w_ixS rfl (pv 2) w_int))) sc__law_right.nd rfl (by first | exact .inl rfl | exact .inr rfl) rfl)
    (ws_cons (w_if (wt_not (wt_val (w_callB1 (ok__law_same T) (hr.mono (by decide)) rfl T.g__law_same T.F__law_same.kp (bd__law_same T) (takes_of rfl rfl rfl rfl) (wA_v (w_lst (wa_cons (w_callK0 (n := 1) (dd := []) (ok_segments T) (hr.mono (by decide)) (by rfl) T.g_segments T.F_segments.kp (kb_segments_0_well T) ⟨by decide, rfl, by decide⟩ .nil (by rfl) (fun _ _ j => j) (takes_of rfl rfl rfl rfl) (wk_v (w_var (pv 3)) wk_nil)) (wa_cons (w_call (ok_is_grounded T) (hr.mono (by decide)) rfl T.g_is_grounded T.F_is_grounded.kp (bd_is_grounded T) (takes_of rfl rfl rfl rfl) (wA_v (w_var (pv 2)) wA_nil)) (wa_cons (w_callK0 (n := 1) (dd := []) (ok_is_grounded T) (hr.mono (by decide)) (by rfl) T.g_is_grounded T.F_is_grounded.kp (kb_is_grounded_0_well T) ⟨by decide, rfl, by decide⟩ .nil (by rfl) (fun _ _ j => j) (takes_of rfl rfl rfl rfl) (wk_v (w_var (pv 3)) wk_nil)) wa_nil)))) (wA_v (w_lst (wa_cons (w_var (pv 4)) (wa_cons (w_var (pv 6)) (wa_cons (w_var (pv 6)) wa_nil)))) wA_nil))))) (ws_one (w_ret w_bl)) ws_nil)
    (ws_one (w_for (passes_of rfl) rfl (wi_seq rfl (w_tup (wa_cons (w_call (ok__law_random_state T) (hr.mono (by decide)) rfl T.g__law_random_state T.F__law_random_state.kp (bd__law_random_state T) (takes_of rfl rfl rfl rfl) (wA_s (pv 0) (wA_v (w_var (pv 2)) wA_nil))) (wa_cons (w_call (ok__law_random_state T) (hr.mono (by decide)) rfl T.g__law_random_state T.F__law_random_state.kp (bd__law_random_state T) (takes_of rfl rfl rfl rfl) (wA_s (pv 0) (wA_v (w_var (pv 2)) wA_nil))) (wa_cons (w_bin op_mulB s_mulB (w_tup (wa_cons w_int wa_nil)) (w_roB call_len_seq c_len rfl T.n_len bb_len (wA_v (w_ixS rfl (pv 2) w_int) wA_nil))) wa_nil))))) (wg_name (i := 7) sc__law_right.nd rfl (by first | exact .inl rfl | exact .inr rfl) rfl)
    (ws_cons (w_set (i := 4) (w_call (ok__law_tally T) (hr.mono (by decide)) rfl T.g__law_tally T.F__law_tally.kp (bd__law_tally T) (takes_of rfl rfl rfl rfl) (wA_v (w_var (pv 2)) (wA_v (w_var (pv 7)) wA_nil))) sc__law_right.nd rfl (by first | exact .inl rfl | exact .inr rfl) rfl)
    (ws_cons (w_set (i := 5) (w_lst (wa_cons (w_call (ok_suffix_counts T) (hr.mono (by decide)) rfl T.g_suffix_counts T.F_suffix_counts.kp (bd_suffix_counts T) (takes_of rfl rfl rfl rfl) (wA_v (w_var (pv 2)) (wA_v (w_var (pv 7)) wA_nil))) (wa_cons (w_callK0 (n := 2) (dd := []) (ok_suffix_counts T) (hr.mono (by decide)) (by rfl) T.g_suffix_counts T.F_suffix_counts.kp (kb_suffix_counts_0_state_well T) ⟨by decide, rfl, by decide⟩ .nil (by rfl) (fun _ _ j => j) (takes_of rfl rfl rfl rfl) (wk_v (w_frz (w_callTy call_list_of c_list rfl T.n_list bt_list (wa_cons (w_var (pv 7)) wa_nil))) (wk_v (w_var (pv 3)) wk_nil))) wa_nil))) sc__law_right.nd rfl (by first | exact .inl rfl | exact .inr rfl) rfl)
    (ws_cons (w_set (i := 5) (w_bin op_addA s_add (w_var (pv 5)) (w_lst (wa_cons (w_call (ok_state_from_counts T) (hr.mono (by decide)) rfl T.g_state_from_counts T.F_state_from_counts.kp (bd_state_from_counts T) (takes_of rfl rfl rfl rfl) (wA_v (w_var (pv 2)) (wA_v (w_var (pv 4)) wA_nil))) wa_nil))) sc__law_right.nd rfl (by first | exact .inl rfl | exact .inr rfl) rfl)
    (ws_one (w_if (wt_not (wt_val (w_callB1 (ok__law_same T) (hr.mono (by decide)) rfl T.g__law_same T.F__law_same.kp (bd__law_same T) (takes_of rfl rfl rfl rfl) (wA_v (w_bin op_addA s_add (w_var (pv 5)) (w_lst (wa_cons (w_callK0 (n := 2) (dd := []) (ok_state_from_counts T) (hr.mono (by decide)) (by rfl) T.g_state_from_counts T.F_state_from_counts.kp (kb_state_from_counts_0_counts_well T) ⟨by decide, rfl, by decide⟩ .nil (by rfl) (fun _ _ j => j) (takes_of rfl rfl rfl rfl) (wk_v (w_frz (w_callTy call_list_of c_list rfl T.n_list bt_list (wa_cons (w_var (pv 4)) wa_nil))) (wk_v (w_var (pv 3)) wk_nil))) wa_nil))) (wA_v (w_lst (wa_cons (w_var (pv 4)) (wa_cons (w_var (pv 4)) (wa_cons (w_var (pv 7)) (wa_cons (w_var (pv 7)) wa_nil))))) wA_nil))))) (ws_one (w_ret w_bl)) ws_nil))))))))))))))))
    (ws_one (w_ret w_bl)))
theorem sc__law_stream : FnScope ["_law_script", "_law_k", "_law_cell"] ["_law_script", "_law_k"] (defScope (top 7)) := ⟨rfl, rfl, rfl, by decide +kernel, rfl, by decide +kernel, by decide +kernel⟩
theorem bd__law_stream (T : Tx K mg fa fdd) : Binds K (fdd 7) ["_law_script", "_law_k"] [] := T.F__law_stream.bindsN fun _ _ _ _ _ _ us hl => match us, hl with | [_, _], _ => rfl
theorem ok__law_stream (T : Tx K mg fa fdd) : FnOk P w K mg base (L2.CX P w) 1 (fa 7) (fdd 7) ["_law_script", "_law_k"] (spOf K 2 m__law_stream) :=
  def_okD (N := ["_law_script", "_law_k", "_law_cell"]) (mask := [true, true]) (fb := b__law_stream) T.F__law_stream sc__law_stream rfl (by decide) fun cdv A outer s H vs rs E hr hl => match vs, hl with
    | [v0, v1], _ => (ws_cons (w_set (i := 2) (w_ifE (wt_cmpR (op_ltA hr.units0) s_lt (wr_s (pv 1)) (wr_v (w_roB call_len_seq c_len rfl T.n_len bb_len (wA_s (pv 0) wA_nil)))) (w_ixS rfl (pv 0) (w_var (pv 1))) w_int) sc__law_stream.nd rfl (by first | exact .inl rfl | exact .inr rfl) rfl)
    (ws_one (w_ret (w_lst (wa_cons (w_bin op_mulB s_mulB (w_roB call_abs c_abs rfl T.n_abs bb_abs (wA_s (pv 2) wA_nil)) (w_roTy call_int1 c_int rfl T.n_int bt_int (wA_v (w_cmpR op_ge s_ge (wr_v (w_roB call_abs c_abs rfl T.n_abs bb_abs (wA_s (pv 2) wA_nil))) (wr_v (w_bin op_pow s_pow w_int w_int))) wA_nil))) (wa_cons (w_bin op_mod s_mod (w_bin op_mulB s_mulB (w_bin op_addA s_add (w_bin op_addA s_add (w_bin op_mod s_mod (w_var (pv 2)) w_int) (w_bin op_mulB s_mulB w_int (w_var (pv 1)))) w_int) w_int) w_int) (wa_cons w_int wa_nil)))))))
theorem sc_law : FnScope ["_law_script", "_law_cells", "_law_k"] ["_law_script"] (defScope (top 18)) := ⟨rfl, rfl, rfl, by decide +kernel, rfl, by decide +kernel, by decide +kernel⟩
theorem bd_law (T : Tx K mg fa fdd) : Binds K (fdd 18) ["_law_script"] [] := T.F_law.bindsN fun _ _ _ _ _ _ us hl => match us, hl with | [_], _ => rfl
theorem ok_law (T : Tx K mg fa fdd) : FnOk P w K mg base (L2.CX P w) 16 (fa 18) (fdd 18) ["_law_script"] (spOf K 1 m_law_v42) :=
  def_okD (N := ["_law_script", "_law_cells", "_law_k"]) (mask := [true]) (fb := b_law_v42) T.F_law sc_law rfl (by decide) fun cdv A outer s H vs rs E hr hl => match vs, hl with
    | [v0], _ => (ws_cons (w_set (i := 1) (w_call (ok__law_fold T) (hr.mono (by decide)) rfl T.g__law_fold T.F__law_fold.kp (bd__law_fold T) (takes_of rfl rfl rfl rfl) (wA_v (w_var (pv 0)) (wA_v w_int wA_nil))) sc_law.nd rfl (by first | exact .inl rfl | exact .inr rfl) rfl)
    (ws_one (w_ret (w_roB (cr_all rfl) c_all rfl T.n_all bb_all (wA_v (w_lc rfl sc_law.nd (wi_rng1 rfl T.n_range (w_roB (call_max2 rfl) c_max2 rfl T.n_max bb_max (wA_v w_int (wA_v (w_roB call_len_seq c_len rfl T.n_len bb_len (wA_s (pv 1) wA_nil)) wA_nil)))) (ow := [("_law_k", 2)]) (blkOk_by (by rfl)) (by decide) (fun PV1 hP1 s1 H1 C1 cl1 fp1 => (wg_name (i := 2) sc_law.nd rfl (by first | exact .inl rfl | exact .inr rfl) (hP1 2 (by decide)))) (fun PV1 hP1 s1 H1 C1 cl1 fp1 => pts_nil) (fun PV1 hP1 s1 H1 C1 cl1 fp1 => (w_call (ok__law_right T) (hr.mono (by decide)) rfl T.g__law_right T.F__law_right.kp (bd__law_right T) takes0 (wA_v (w_call (ok__law_stream T) (hr.mono (by decide)) rfl T.g__law_stream T.F__law_stream.kp (bd__law_stream T) takes0 (wA_v (w_var (pv 1)) (wA_v (w_var (pv 2)) wA_nil))) wA_nil)))) wA_nil)))))
end Wk06
namespace WC
open WF PySem L2
abbrev rngE (a b c : Int) : D := .lst true [.int a, .int b, .int c]
theorem pow_split {n : Nat} {s : Int} (h : s ≤ 10 ^ (7 * (n + 1))) : (s - 1) / 10000000 + 1 ≤ 10 ^ (7 * n) := by
  have e : (10 : Int) ^ (7 * (n + 1)) = 10 ^ (7 * n) * 10000000 := by rw [Nat.mul_add, Int.pow_add]; rfl
  rw [e] at h
  generalize (10 : Int) ^ (7 * n) = p at *
  omega
theorem pow_ge {n : Nat} (h : 1 ≤ n) : (10000000 : Int) ≤ 10 ^ (7 * n) := by
  obtain ⟨m, rfl⟩ : ∃ m, n = m + 1 := ⟨n - 1, by omega⟩
  have e : (10 : Int) ^ (7 * (m + 1)) = 10 ^ (7 * m) * 10000000 := by rw [Nat.mul_add, Int.pow_add]; rfl
  have p : (0 : Int) < 10 ^ (7 * m) := Int.pow_pos (by decide)
  omega
theorem draw_n {Q : D → List D → Prop} : ∀ (n : Nat) {span a b c : Int}, 0 ≤ a → 0 ≤ b → b < 2 ^ 31 → 0 ≤ c → c + 2 ^ n ≤ 2 ^ 40 → 1 ≤ span → span ≤ 10 ^ (7 * n) → span < 2 ^ 64 → 1 ≤ n →
    (∀ v a' c', 0 ≤ v → v < span → 0 ≤ a' → c ≤ c' → c' ≤ c + 2 ^ n → Q (.int v) [rngE a' b c', .int span]) → wF (m__law_draw n) [rngE a b c, .int span] Q
  | 0, span, a, b, c, ha, hb, hb2, hc, hcn, h1, h2, h3, hn, q => by omega
  | n + 1, span, a, b, c, ha, hb, hb2, hc, hcn, h1, h2, h3, hn, q => by
    have e2 : (2 : Int) ^ (n + 1) = 2 * 2 ^ n := by rw [Int.pow_succ]; omega
    have p2 : (0 : Int) < 2 ^ n := Int.pow_pos (by decide)
    rw [m__law_draw, wF_def]
    simp [b__law_draw]
    split
    · exact ⟨⟨by omega, by omega⟩, q _ _ _ (Int.emod_nonneg _ (by omega)) (Int.emod_lt_of_pos _ (by omega)) (Int.ediv_nonneg ha (by omega)) (by omega) (by omega)⟩
    · split
      · have hn1 : 1 ≤ n := by
          rcases Nat.eq_zero_or_pos n with e | e
          · subst e; simp at h2; omega
          · exact e
        refine draw_n n ha hb hb2 hc (by omega) (by omega) (pow_ge hn1) (by decide) hn1 fun v a' c' v0 v1 a0 c0 c1 => ?_
        simp
        refine draw_n n a0 hb hb2 (by omega) (by omega) (by omega) (pow_split h2) (by omega) hn1 fun v' a'' c'' v0' v1' a0' c0' c1' => ?_
        simp
        exact ⟨by omega, q _ _ _ (Int.emod_nonneg _ (by omega)) (Int.emod_lt_of_pos _ (by omega)) a0' (by omega) (by omega)⟩
      · exact ⟨by omega, .inl (by omega), .inl (by omega), .inl (by omega), by omega, q _ _ _ (Int.emod_nonneg _ (by omega)) (Int.emod_lt_of_pos _ (by omega)) ha (by omega) (by omega)⟩
structure Rg (k : Nat) (a b c : Int) : Prop where
  a0 : 0 ≤ a
  b0 : 0 ≤ b
  b1 : b < 2 ^ 31
  c0 : 0 ≤ c
  c1 : c ≤ 4096 * k
theorem Rg.mono {k k' : Nat} {a b c : Int} (r : Rg k a b c) (h : k ≤ k') : Rg k' a b c := ⟨r.a0, r.b0, r.b1, r.c0, by have := r.c1; omega⟩
theorem draw_sp {Q : D → List D → Prop} {k : Nat} {span a b c : Int} (r : Rg k a b c) (hk : k ≤ 200000000) (h1 : 1 ≤ span) (h3 : span < 2 ^ 64)
    (q : ∀ v a' c', 0 ≤ v → v < span → Rg (k + 1) a' b c' → Q (.int v) [rngE a' b c', .int span]) : wF (m__law_draw 12) [rngE a b c, .int span] Q := by
  have hc := r.c1
  refine draw_n 12 r.a0 r.b0 r.b1 r.c0 (by omega) h1 (by omega) h3 (by omega) fun v a' c' v0 v1 a0 c0 c1 => q v a' c' v0 v1 ⟨a0, r.b0, r.b1, by have := r.c0; omega, by omega⟩
end WC
namespace WC
open WF PySem L2
theorem atI_mem {α : Type} {xs : List α} {v : Int} (h0 : 0 ≤ v) (h1 : v < xs.length) : ∃ x ∈ xs, atI xs v = some x := by
  obtain ⟨k, rfl⟩ := Int.eq_ofNat_of_zero_le h0
  rw [WF.atI_nat]
  have hk : k < xs.length := by omega
  exact ⟨xs[k], List.getElem_mem hk, List.getElem?_eq_getElem hk⟩
theorem atI_map {α β : Type} {f : α → β} {xs : List α} {v : Int} : atI (xs.map f) v = (atI xs v).map f := by
  unfold atI
  rw [List.length_map]
  cases ixN xs.length v <;> simp
theorem pick_sp {Q : D → List D → Prop} {k : Nat} {ns : List Int} {o : Bool} {a b c : Int} (r : Rg k a b c) (hk : k ≤ 200000000) (h1 : ns ≠ []) (h3 : ns.length < 1000000)
    (q : ∀ v a' c', v ∈ ns → Rg (k + 1) a' b c' → Q (.int v) [rngE a' b c', .lst o (ns.map .int)]) : wF m__law_pick [rngE a b c, .lst o (ns.map .int)] Q := by
  have hl : 0 < ns.length := List.length_pos_iff.mpr h1
  rw [m__law_pick, wF_def]
  simp [b__law_pick]
  refine draw_sp r hk (by omega) (by omega) fun v a' c' v0 v1 r' => ?_
  obtain ⟨x, hx, e⟩ := atI_mem v0 v1
  cases o <;> simp [atI_map, e] <;> exact q _ _ _ hx r'
theorem mod_rg {x : Int} : 0 ≤ x % 2147483647 ∧ x % 2147483647 < 2 ^ 31 := ⟨by omega, by omega⟩
theorem stream_sp {Q : D → List D → Prop} {ns : List Int} {o : Bool} {i : Int} (h0 : 0 ≤ i)
    (q : ∀ a b, Rg 0 a b 0 → Q (rngE a b 0) [.lst o (ns.map .int), .int i]) : wF m__law_stream [.lst o (ns.map .int), .int i] Q := by
  have fin : ∀ x : Int, ((if x < 0 then -x else x).natAbs < 18446744073709551616 ∨
      (if 1000000000000000000 ≤ if x < 0 then -x else x then (1 : Int) else 0).natAbs < 18446744073709551616) ∧
    Q
      (D.lst true
        [D.int ((if x < 0 then -x else x) * if 1000000000000000000 ≤ if x < 0 then -x else x then 1 else 0),
          D.int ((x % 2147483629 + 32452843 * i + 61) * 48271 % 2147483647), D.int 0])
      [D.lst o (List.map D.int ns), D.int i] := fun x => by
    refine ⟨.inr ?_, q _ _ ⟨?_, mod_rg.1, mod_rg.2, by omega, by omega⟩⟩
    · split <;> omega
    · refine Int.mul_nonneg ?_ ?_
      · split <;> omega
      · split <;> omega
  rw [m__law_stream, wF_def]
  simp [b__law_stream]
  by_cases h : i < (ns.length : Int)
  · obtain ⟨x, hx, e⟩ := atI_mem h0 h
    cases o
    · simp [h, atI_map, e]
      exact fin x
    · simp [h, atI_map, e]
      exact fin x
  · simp [h]
    exact q _ _ ⟨by omega, mod_rg.1, mod_rg.2, by omega, by omega⟩
def cutG {α : Type} (xs : List α) (lo hi : Option Int) : List α := (xs.drop (HT.sIx xs.length 0 lo)).take (HT.sIx xs.length xs.length hi - HT.sIx xs.length 0 lo)
theorem cutD_map {α : Type} {f : α → D} {xs : List α} {lo hi : Option Int} : cutD (xs.map f) lo hi = (cutG xs lo hi).map f := by
  simp [cutD, cutG, List.map_take, List.map_drop]
theorem enumD_one {xs : List D} : enumD [xs] = some (xs.zipIdx.map fun p => .tup [.int (p.2 : Nat), p.1]) := rfl
theorem fold_sp {Q : D → List D → Prop} {ns : List Int} {m : Int} (h0 : 1 ≤ m) (h1 : m ≤ 60)
    (q : ∀ cs : List Int, cs.length ≤ m → Q (.lst true (cs.map .int)) [.scr ns, .int m]) : wF m__law_fold [.scr ns, .int m] Q := by
  rw [m__law_fold, wF_def]
  simp [b__law_fold, cutD_map, enumD_one]
  have l0 : (cutG ns none (some m)).length = min m.toNat ns.length := by
    simp [cutG, HT.sIx]
    rw [if_neg (by omega)]
    omega
  have l1 : (cutG ns (some m) (some 63)).length ≤ 63 := by
    simp [cutG, HT.sIx]
    omega
  have l2 : cutG ns (some m) (some 63) ≠ [] → m.toNat ≤ ns.length := fun h => by
    have := List.length_pos_iff.mpr h
    simp [cutG, HT.sIx] at this
    rw [if_neg (by omega)] at this
    omega
  refine loop_ind (fun ds S => ∃ (cs : List Int) (x y : D), S = [.scr ns, .int m, .lst true (cs.map .int), x, y] ∧ cs.length ≤ m ∧ (ds ≠ [] → (cs.length : Int) = m) ∧ ∀ d ∈ ds, ∃ (i : Nat), i < 1000 ∧ ∃ (v : Int), d = .tup [.int i, .int v]) ?_ ?_ ?_
  · rintro d ds S ⟨cs, x, y, rfl, c1, c2, c3⟩
    obtain ⟨i, hi, v, rfl⟩ := c3 d List.mem_cons_self
    have cl := c2 (by simp)
    have hm0 : 0 ≤ (i : Int) % m := Int.emod_nonneg _ (by omega)
    have hm1 : (i : Int) % m < cs.length := by rw [cl]; exact Int.emod_lt_of_pos _ (by omega)
    obtain ⟨z, hz, e⟩ := atI_mem hm0 hm1
    obtain ⟨j, hj⟩ : ∃ j, ixN cs.length ((i : Int) % m) = some j := by
      unfold atI at e
      cases h : ixN cs.length ((i : Int) % m) with
      | none => rw [h] at e; cases e
      | some j => exact ⟨j, rfl⟩
    simp [atI_map, e, hj]
    refine ⟨by omega, .inr (by omega), by omega, cs.set j (z + v * (↑i + 2)), ?_, by simpa using c1, fun _ => by simpa using cl, fun d hd => c3 d (List.mem_cons_of_mem _ hd)⟩
    simp [List.map_set]
  · rintro S ⟨cs, x, y, rfl, c1, c2, c3⟩
    simp
    exact q cs c1
  · refine ⟨_, _, _, rfl, by rw [l0]; omega, fun h => ?_, fun d hd => ?_⟩
    · rw [l0]
      have := l2 (fun z => h (by simp [z]))
      omega
    · simp only [List.mem_map, Prod.exists] at hd
      obtain ⟨x, i, hx, rfl⟩ := hd
      have h2 := List.mem_zipIdx hx
      simp at h2
      refine ⟨i, by omega, ?_⟩
      obtain ⟨h3, h4⟩ := h2
      rw [h4]
      exact ⟨_, rfl⟩
end WC
namespace WC
open WF PySem
open L2 (atI ixN)
@[simp] theorem frzs_intf {α : Type} {l : List α} {f : α → Int} : D.frzs (l.map fun x => .int (f x)) = l.map fun x => .int (f x) := frzs_id fun _ => rfl
abbrev wellD (lim : Int) (gs : List (Int × Int)) : D := .tup [.int lim, .tup (gs.map prD)]
def Rise (m : Int) : Int → List (Int × Int) → Prop
  | _, [] => True
  | w, p :: r => w < p.1 ∧ 1 ≤ p.2 ∧ p.2 ≤ m ∧ Rise m p.1 r
def lastW : Int → List (Int × Int) → Int
  | w, [] => w
  | _, p :: r => lastW p.1 r
theorem Rise.snoc {m : Int} {p : Int × Int} : ∀ {gs : List (Int × Int)} {w : Int}, Rise m w gs → lastW w gs < p.1 → 1 ≤ p.2 → p.2 ≤ m → Rise m w (gs ++ [p])
  | [], w, h, h1, h2, h3 => ⟨h1, h2, h3, trivial⟩
  | q :: r, w, h, h1, h2, h3 => ⟨h.1, h.2.1, h.2.2.1, Rise.snoc h.2.2.2 h1 h2 h3⟩
theorem lastW_snoc {p : Int × Int} : ∀ {gs : List (Int × Int)} {w : Int}, lastW w (gs ++ [p]) = p.1
  | [], w => rfl
  | q :: r, w => lastW_snoc (gs := r)
theorem Rise.last {m : Int} : ∀ {gs : List (Int × Int)} {w : Int}, Rise m w gs → gs ≠ [] → w < lastW w gs
  | [p], w, h, _ => h.1
  | p :: q :: r, w, h, _ => Int.lt_trans h.1 (Rise.last (gs := q :: r) h.2.2.2 (by simp))
theorem comp_map0 {α : Type} {own : List Nat} {g : GM} {fe : EM} {S : S0} {Q : List D → S0 → Prop} {enc φ : α → D} (xs : List α) {acc : List D} (h : ∀ x ∈ xs, wG g (enc x) S fun S1 => wE fe S1 fun y S2 => y = φ x ∧ wipeS S2 own = S) (hl : acc.length + xs.length ≤ 1000000)
    (q : Q (acc ++ xs.map φ) S) : wC own g none fe (xs.map enc) S acc Q := by
  refine comp_ind0 (fun ds acc' T => T = S ∧ ∃ ys zs, xs = ys ++ zs ∧ ds = zs.map enc ∧ acc' = acc ++ ys.map φ) ?_ ?_ ⟨rfl, [], xs, rfl, rfl, by simp⟩
  · rintro d ds acc' T ⟨rfl, ys, zs, rfl, e, rfl⟩
    cases zs with
    | nil => simp at e
    | cons z zs =>
      simp only [List.map_cons, List.cons.injEq] at e
      obtain ⟨rfl, rfl⟩ := e
      refine (h z (by simp)).mono fun S1 q => q.mono fun y S2 ⟨e1, e2⟩ => ⟨?_, e2, ys ++ [z], zs, by simp, rfl, by simp [e1]⟩
      simp at hl ⊢
      omega
  · rintro acc' T ⟨rfl, ys, zs, rfl, e, rfl⟩
    cases zs with
    | nil => simpa using q
    | cons z zs => simp at e
theorem comp_map1 {α : Type} {own : List Nat} {g : GM} {f fe : EM} {S : S0} {Q : List D → S0 → Prop} {enc φ : α → D} {t : α → Bool} (xs : List α) {acc : List D} (h : ∀ x ∈ xs, wG g (enc x) S fun S1 => wE f S1 fun b S2 => b = .bl (t x) ∧ if t x = true then (wE fe S2 fun y S3 => y = φ x ∧ wipeS S3 own = S) else wipeS S2 own = S) (hl : acc.length + xs.length ≤ 1000000)
    (q : Q (acc ++ (xs.filter t).map φ) S) : wC own g (some f) fe (xs.map enc) S acc Q := by
  refine comp_ind1 (fun ds acc' T => T = S ∧ ∃ ys zs, xs = ys ++ zs ∧ ds = zs.map enc ∧ acc' = acc ++ (ys.filter t).map φ) ?_ ?_ ⟨rfl, [], xs, rfl, rfl, by simp⟩
  · rintro d ds acc' T ⟨rfl, ys, zs, rfl, e, rfl⟩
    cases zs with
    | nil => simp at e
    | cons z zs =>
      simp only [List.map_cons, List.cons.injEq] at e
      obtain ⟨rfl, rfl⟩ := e
      refine (h z (by simp)).mono fun S1 q => q.mono fun b S2 ⟨e1, e2⟩ => ?_
      subst e1
      simp only [asB, WF0.asB_bl, rd_some]
      have fl := List.length_filter_le t ys
      by_cases ht : t z = true
      · rw [if_pos ht] at e2 ⊢
        refine e2.mono fun y S3 ⟨e3, e4⟩ => ⟨?_, e4, ys ++ [z], zs, by simp, rfl, by simp [e3, ht]⟩
        simp at hl ⊢
        omega
      · rw [if_neg ht] at e2 ⊢
        exact ⟨e2, ys ++ [z], zs, by simp, rfl, by simp [ht]⟩
  · rintro acc' T ⟨rfl, ys, zs, rfl, e, rfl⟩
    cases zs with
    | nil => simpa using q
    | cons z zs => simp at e
def gapsL : Int → List (Int × Int) → List Int
  | _, [] => []
  | w, p :: r => (p.1 - w) :: gapsL p.1 r
theorem gapsL_len : ∀ {w : Int} {gs : List (Int × Int)}, (gapsL w gs).length = gs.length
  | _, [] => rfl
  | _, p :: r => by simp [gapsL, gapsL_len (gs := r)]
theorem gapsL_pos {m : Int} : ∀ {w : Int} {gs : List (Int × Int)}, Rise m w gs → ∀ x ∈ gapsL w gs, 1 ≤ x
  | _, [], _, x, h => by simp [gapsL] at h
  | w, p :: r, h, x, hx => by
    simp only [gapsL, List.mem_cons] at hx
    rcases hx with rfl | hx
    · have := h.1; omega
    · exact gapsL_pos h.2.2.2 x hx
theorem gaps_zip : ∀ {w : Int} {gs : List (Int × Int)}, List.zipWith (fun x y => D.tup [x, y]) (gs.map prD) (D.int w :: gs.map fun p => D.int p.1) = (gs.zip (w :: gs.map Prod.fst)).map fun z => D.tup [prD z.1, .int z.2]
  | _, [] => rfl
  | w, p :: r => by
    simp only [List.map_cons, List.zipWith_cons_cons, List.zip_cons_cons]
    rw [gaps_zip (w := p.1) (gs := r)]
theorem gaps_map : ∀ {w : Int} {gs : List (Int × Int)}, (gs.zip (w :: gs.map Prod.fst)).map (fun z => D.int (z.1.1 - z.2)) = (gapsL w gs).map D.int
  | _, [] => rfl
  | w, p :: r => by simp [gapsL, gaps_map (w := p.1) (gs := r)]
theorem maxI_mem : ∀ {ns : List Int} {n : Int}, maxI (n :: ns) ∈ n :: ns
  | [], n => by simp [maxI]
  | m :: ns, n => by
    have h := maxI_mem (ns := ns) (n := m)
    simp only [maxI]
    by_cases c : n ≤ maxI (m :: ns)
    · rw [Int.max_eq_right c]; exact List.mem_cons_of_mem _ h
    · rw [Int.max_eq_left (by omega)]; exact List.mem_cons_self
theorem maxI_mem' {ns : List Int} (h : ns ≠ []) : maxI ns ∈ ns := by
  cases ns with
  | nil => exact absurd rfl h
  | cons n ns => exact maxI_mem
theorem maxD1_lst {o : Bool} {ns : List Int} (h : ns ≠ []) : maxD1 [.lst o (ns.map .int)] = some (.int (maxI ns)) := by
  cases ns with
  | nil => exact absurd rfl h
  | cons n ns => simp [maxD1]
def RwI (b len crowd g v : Int) (k : Nat) (ds : List D) (S : S0) : Prop := ∃ (kk : Nat) (gs : List (Int × Int)) (a c : Int) (x : D), S = [rngE a b c, .int len, .int crowd, .int g, .lst true (gs.map prD), .int (lastW 0 gs), x, .un, .un, .un, .un] ∧ Rg kk a b c ∧ kk + 3 * ds.length ≤ k + 3010 ∧ Rise crowd 0 gs ∧ 0 ≤ lastW 0 gs ∧ lastW 0 gs ≤ 10000000000 * gs.length ∧ gs.length + ds.length = 1 + v
theorem Rise.lastGe {m : Int} : ∀ {gs : List (Int × Int)} {w : Int}, Rise m w gs → w ≤ lastW w gs
  | [], _, _ => Int.le_refl _
  | p :: r, w, h => Int.le_trans (Int.le_of_lt h.1) (Rise.lastGe (gs := r) h.2.2.2)
theorem gapsL_le {m : Int} : ∀ {w : Int} {gs : List (Int × Int)}, Rise m w gs → ∀ x ∈ gapsL w gs, x ≤ lastW w gs - w
  | _, [], _, x, h => by simp [gapsL] at h
  | w, p :: r, h, x, hx => by
    simp only [gapsL, List.mem_cons] at hx
    have g1 := Rise.lastGe h.2.2.2
    have g0 := h.1
    show x ≤ lastW p.1 r - w
    rcases hx with rfl | hx
    · omega
    · have := gapsL_le h.2.2.2 x hx; omega
theorem random_well_spC {Q : D → List D → Prop} {k : Nat} {len crowd : Int} {a b c : Int} (r : Rg k a b c) (hk : k ≤ 100000000) (h1 : 1 ≤ len) (h2 : len ≤ 1000) (h3 : 1 ≤ crowd) (h4 : crowd < 2 ^ 62)
    (q : ∀ lim gs a' c', 1 ≤ lim → gs ≠ [] → (gs.length : Int) ≤ len → Rise crowd 0 gs → lastW 0 gs ≤ 10000000000 * gs.length → lim ≤ 2 * lastW 0 gs → Rg (k + 5000) a' b c' → Q (wellD lim gs) [rngE a' b c', .int len, .int crowd]) : wF m__law_random_well [rngE a b c, .int len, .int crowd] Q := by
  rw [m__law_random_well, wF_def]
  simp [b__law_random_well]
  refine pick_sp (ns := [2, 4, 9, 10000000000]) r (by omega) (by simp) (by simp) fun g a c hg r => ?_
  simp
  have hg1 : 2 ≤ g ∧ g ≤ 10000000000 := by simp at hg; omega
  refine draw_sp r (by omega) h1 (by omega) fun v a c v0 v1 r => ?_
  simp
  refine ⟨by omega, ?_⟩
  refine loop_ind (RwI b len crowd g v k) ?_ ?_ ?_
  · rintro d ds S ⟨kk, gs, a, c, x, rfl, r, hkk, hr, hw0, hw1, hlen⟩
    simp only [List.length_cons] at hkk hlen
    simp
    refine draw_sp r (by omega) (by omega) (by omega) fun u a c u0 u1 r => ?_
    simp
    refine draw_sp r (by omega) h3 (by omega) fun t a c t0 t1 r => ?_
    simp
    refine pick_sp (ns := [1, 1, 1 + t]) r (by omega) (by simp) (by simp) fun y a c hy r => ?_
    have hy1 : 1 ≤ y ∧ y ≤ crowd := by simp at hy; omega
    simp
    refine ⟨by omega, kk + 3, gs ++ [(lastW 0 gs + 1 + u, y)], a, c, d, ?_, r, by omega, hr.snoc (by show lastW 0 gs < lastW 0 gs + 1 + u; omega) hy1.1 hy1.2, ?_, ?_, ?_⟩
    · rw [lastW_snoc, List.map_append]; rfl
    · rw [lastW_snoc]; show 0 ≤ lastW 0 gs + 1 + u; omega
    · rw [lastW_snoc, List.length_append]; show lastW 0 gs + 1 + u ≤ _; simp; omega
    · rw [List.length_append]; simp; omega
  · rintro S ⟨kk, gs, a, c, x, rfl, r, hkk, hr, hw0, hw1, hlen⟩
    have gne : gs ≠ [] := fun e => by subst e; simp at hlen; omega
    have gl : (gs.length : Int) ≤ len := by simp at hlen; omega
    have hgp := gapsL_pos hr
    have gpe : gapsL 0 gs ≠ [] := fun e => by
      have := gapsL_len (w := 0) (gs := gs)
      rw [e] at this
      exact gne (List.length_eq_zero_iff.mp this.symm)
    have hmx := hgp _ (maxI_mem' gpe)
    simp at hkk
    simp
    refine comp_map0 (enc := prD) (φ := fun p => .int p.1) gs (fun x _ => by simp [prD]) (by simp; omega) ?_
    simp
    refine ⟨by omega, ?_⟩
    rw [gaps_zip]
    refine comp_map0 (enc := fun z : (Int × Int) × Int => D.tup [prD z.1, .int z.2]) (φ := fun z => .int (z.1.1 - z.2)) _ (fun x _ => by simp [prD]) (by simp; omega) ?_
    rw [List.nil_append, gaps_map]
    simp [maxD1_lst gpe]
    refine pick_sp r (by omega) gpe (by rw [gapsL_len]; omega) fun y a c hy r => ?_
    simp
    have hlw : 1 ≤ lastW 0 gs := by have := hr.last gne; omega
    refine draw_sp r (by omega) hlw (by omega) fun z a c z0 z1 r => ?_
    simp [maxD1_lst gpe]
    refine pick_sp (ns := [maxI (gapsL 0 gs), maxI (gapsL 0 gs), y, 1 + z, 2 * maxI (gapsL 0 gs), lastW 0 gs]) r (by omega) (by simp) (by simp) fun lim a c hl r => ?_
    simp
    have hy1 := hgp y hy
    have hy2 := gapsL_le hr y hy
    have hm2 := gapsL_le hr _ (maxI_mem' gpe)
    refine q lim gs a c ?_ gne gl hr hw1 ?_ (r.mono (by omega)) <;> simp at hl <;> omega
  · exact ⟨k + 2, [], a, c, .un, by simp [lastW], r, by simp [rngD]; omega, trivial, by simp [lastW], by simp [lastW], by simp [rngD]; omega⟩
theorem random_well_spB {Q : D → List D → Prop} {k : Nat} {len crowd : Int} {a b c : Int} (r : Rg k a b c) (hk : k ≤ 100000000) (h1 : 1 ≤ len) (h2 : len ≤ 1000) (h3 : 1 ≤ crowd) (h4 : crowd < 2 ^ 62)
    (q : ∀ lim gs a' c', 1 ≤ lim → gs ≠ [] → (gs.length : Int) ≤ len → Rise crowd 0 gs → lastW 0 gs ≤ 10000000000 * gs.length → Rg (k + 5000) a' b c' → Q (wellD lim gs) [rngE a' b c', .int len, .int crowd]) : wF m__law_random_well [rngE a b c, .int len, .int crowd] Q :=
  random_well_spC r hk h1 h2 h3 h4 fun lim gs a' c' e1 e2 e3 e4 e5 _ r' => q lim gs a' c' e1 e2 e3 e4 e5 r'
theorem random_well_sp {Q : D → List D → Prop} {k : Nat} {len crowd : Int} {a b c : Int} (r : Rg k a b c) (hk : k ≤ 100000000) (h1 : 1 ≤ len) (h2 : len ≤ 1000) (h3 : 1 ≤ crowd) (h4 : crowd < 2 ^ 62)
    (q : ∀ lim gs a' c', 1 ≤ lim → gs ≠ [] → (gs.length : Int) ≤ len → Rise crowd 0 gs → Rg (k + 5000) a' b c' → Q (wellD lim gs) [rngE a' b c', .int len, .int crowd]) : wF m__law_random_well [rngE a b c, .int len, .int crowd] Q :=
  random_well_spB r hk h1 h2 h3 h4 fun lim gs a' c' e1 e2 e3 e4 _ r' => q lim gs a' c' e1 e2 e3 e4 r'
end WC
namespace WC
open WF PySem
open L2 (atI ixN)
def StOk : List (Int × Int) → List Int → Prop
  | [], [] => True
  | p :: r, x :: xs => 0 ≤ x ∧ x ≤ p.2 ∧ StOk r xs
  | _, _ => False
abbrev stD (xs : List Int) : D := .tup (xs.map .int)
theorem StOk.len : ∀ {gs : List (Int × Int)} {xs : List Int}, StOk gs xs → xs.length = gs.length
  | [], [], _ => rfl
  | p :: r, x :: xs, h => by simp [StOk.len h.2.2]
def RsI (b lim : Int) (gs0 : List (Int × Int)) (k : Nat) (ds acc : List D) (S : S0) : Prop := ∃ (gs1 gs : List (Int × Int)) (xs : List Int) (kk : Nat) (a c : Int), gs0 = gs1 ++ gs ∧ ds = gs.map prD ∧ acc = xs.map .int ∧ StOk gs1 xs ∧ Rg kk a b c ∧ kk + 2 * gs.length ≤ k + 2 * gs0.length ∧ S = [rngE a b c, wellD lim gs0, .un, .un]
theorem StOk.snoc {p : Int × Int} {x : Int} : ∀ {gs : List (Int × Int)} {xs : List Int}, StOk gs xs → 0 ≤ x → x ≤ p.2 → StOk (gs ++ [p]) (xs ++ [x])
  | [], [], _, h1, h2 => ⟨h1, h2, trivial⟩
  | q :: r, y :: ys, h, h1, h2 => ⟨h.1, h.2.1, StOk.snoc h.2.2 h1 h2⟩
theorem random_state_sp {Q : D → List D → Prop} {k : Nat} {lim w m : Int} {gs : List (Int × Int)} {a b c : Int} (r : Rg k a b c) (hk : k ≤ 100000000) (hr : Rise m w gs) (hm : m < 2 ^ 62) (hl : gs.length ≤ 1000)
    (q : ∀ xs a' c', StOk gs xs → Rg (k + 2000) a' b c' → Q (stD xs) [rngE a' b c', wellD lim gs]) : wF m__law_random_state [rngE a b c, wellD lim gs] Q := by
  have hmem : ∀ {gs : List (Int × Int)} {w : Int}, Rise m w gs → ∀ p ∈ gs, 1 ≤ p.2 ∧ p.2 ≤ m := by
    intro gs
    induction gs with
    | nil => intro w h p hp; cases hp
    | cons p r ih =>
      intro w h q hq
      rcases List.mem_cons.mp hq with rfl | hq
      · exact ⟨h.2.1, h.2.2.1⟩
      · exact ih h.2.2.2 q hq
  rw [m__law_random_state, wF_def]
  simp [b__law_random_state]
  refine comp_ind0 (RsI b lim gs k) ?_ ?_ ⟨[], gs, [], k, a, c, rfl, rfl, rfl, trivial, r, by omega, rfl⟩
  · rintro d ds acc S ⟨gs1, gs2, xs, kk, a, c, rfl, e, rfl, st, r, hkk, rfl⟩
    cases gs2 with
    | nil => cases e
    | cons p gs2 =>
      cases e
      obtain ⟨p1, p2⟩ := p
      have hp := hmem hr (p1, p2) (by simp)
      simp only at hp
      have sl := st.len
      simp at hkk hl
      simp [prD]
      refine draw_sp r (by omega) (by omega) (by omega) fun u a c u0 u1 r => ?_
      simp
      refine pick_sp (ns := [0, p2, u]) r (by omega) (by simp) (by simp) fun y a c hy r => ?_
      simp at hy
      simp
      refine ⟨by omega, gs1 ++ [(p1, p2)], gs2, xs ++ [y], kk + 2, a, c, by simp, rfl, by simp, st.snoc (by omega) (by simp only; omega), r, by simp; omega, rfl⟩
  · rintro acc S ⟨gs1, gs2, xs, kk, a, c, rfl, e, rfl, st, r, hkk, rfl⟩
    cases gs2 with
    | cons p gs2 => cases e
    | nil =>
      simp at hkk hl q ⊢
      exact q xs a c st (r.mono (by omega))
end WC
namespace WC
open WF PySem
open L2 (atI ixN)
@[simp] theorem isi_list {o : Bool} {xs : List D} : isiD [.lst o xs, .vl (.ty "list")] = some (.bl true) := rfl
@[simp] theorem isi_listT {xs : List D} : isiD [.tup xs, .vl (.ty "list")] = some (.bl false) := rfl
@[simp] theorem isi_tup {xs : List D} : isiD [.tup xs, .vl (.ty "tuple")] = some (.bl true) := rfl
@[simp] theorem isi_tupL {o : Bool} {xs : List D} : isiD [.lst o xs, .vl (.ty "tuple")] = some (.bl false) := rfl
@[simp] theorem isi_seqL {o : Bool} {xs : List D} : isiD [.lst o xs, .tup [.vl (.ty "list"), .vl (.ty "tuple")]] = some (.bl true) := rfl
@[simp] theorem isi_seqT {xs : List D} : isiD [.tup xs, .tup [.vl (.ty "list"), .vl (.ty "tuple")]] = some (.bl true) := rfl
@[simp] theorem isi_seqI {a : Int} : isiD [.int a, .tup [.vl (.ty "list"), .vl (.ty "tuple")]] = some (.bl false) := rfl
@[simp] theorem isi_seqB {a : Bool} : isiD [.bl a, .tup [.vl (.ty "list"), .vl (.ty "tuple")]] = some (.bl false) := rfl
@[simp] theorem isi_seqN : isiD [.non, .tup [.vl (.ty "list"), .vl (.ty "tuple")]] = some (.bl false) := rfl
@[simp] theorem isi_seqS {x : Str} : isiD [.str x, .tup [.vl (.ty "list"), .vl (.ty "tuple")]] = some (.bl false) := rfl
@[simp] theorem isi_strI {a : Int} : isiD [.int a, .vl (.ty "str")] = some (.bl false) := rfl
@[simp] theorem isi_strB {a : Bool} : isiD [.bl a, .vl (.ty "str")] = some (.bl false) := rfl
@[simp] theorem isi_strN : isiD [.non, .vl (.ty "str")] = some (.bl false) := rfl
@[simp] theorem isi_strS {x : Str} : isiD [.str x, .vl (.ty "str")] = some (.bl true) := rfl
@[simp] theorem isi_intI {a : Int} : isiD [.int a, .vl (.ty "int")] = some (.bl true) := rfl
@[simp] theorem isi_intB {a : Bool} : isiD [.bl a, .vl (.ty "int")] = some (.bl true) := rfl
@[simp] theorem isi_boolI {a : Int} : isiD [.int a, .vl (.ty "bool")] = some (.bl false) := rfl
@[simp] theorem isi_boolB {a : Bool} : isiD [.bl a, .vl (.ty "bool")] = some (.bl true) := rfl
@[simp] theorem isD_int {a : Int} {n : Bool} : isD n (.int a) .non = some (.bl n) := by cases n <;> rfl
@[simp] theorem isD_bl {a : Bool} {n : Bool} : isD n (.bl a) .non = some (.bl n) := by cases n <;> rfl
@[simp] theorem isD_tup {a : List D} {n : Bool} : isD n (.tup a) .non = some (.bl n) := by cases n <;> rfl
@[simp] theorem isD_non {n : Bool} : isD n .non .non = some (.bl !n) := by cases n <;> rfl
@[simp] theorem isD_str {x : Str} {n : Bool} : isD n (.str x) .non = some (.bl n) := by cases n <;> rfl
@[simp] theorem eqD_int {a b : Int} {n : Bool} : eqD n (.int a) (.int b) = some (.bl (if n = true then !decide (a = b) else decide (a = b))) := by
  have e : ∀ x : Int, SeqAt.shaped (.int x) = true := fun x => rfl
  cases n <;> simp [eqD, D.py, e, PyData.eqv] <;> exact decide_eq_decide.mpr Iff.rfl
@[simp] theorem eqD_bl {a b : Bool} {n : Bool} : eqD n (.bl a) (.bl b) = some (.bl (if n = true then a != b else a == b)) := by
  cases n <;> cases a <;> cases b <;> rfl
@[simp] theorem boolsD_mapf {α : Type} {f : α → Bool} {l : List α} : boolsD (l.map fun x => D.bl (f x)) = some (l.map f) := by
  have := boolsD_map' (l := l.map f)
  rwa [List.map_map] at this
theorem all_true {α : Type} {xs : List α} : (xs.all fun _ => true) = true := List.all_eq_true.mpr fun _ _ => rfl
theorem zipWith_map_self {α : Type} {enc : α → D} : ∀ {xs : List α}, List.zipWith (fun x y => D.tup [x, y]) (xs.map enc) (xs.map enc) = xs.map fun x => .tup [enc x, enc x]
  | [] => rfl
  | x :: xs => by simp [zipWith_map_self (xs := xs)]
theorem asl_int {Q : D → List D → Prop} {n : Nat} {a : Int} (q : Q (.int a) [.int a]) : wF (m__law_as_lists (n + 1)) [.int a] Q := by
  rw [m__law_as_lists, wF_def]
  simp [b__law_as_lists]
  exact q
theorem asl_tup {α : Type} {Q : D → List D → Prop} {n : Nat} {enc φ : α → D} {xs : List α} (hf : ∀ x, (enc x).frz = enc x) (hu : ∀ x, isUn (enc x) = false) (hl : xs.length ≤ 1000000)
    (h : ∀ x ∈ xs, ∀ Q : D → List D → Prop, Q (φ x) [enc x] → wF (m__law_as_lists n) [enc x] Q) (q : Q (.lst true (xs.map φ)) [.tup (xs.map enc)]) : wF (m__law_as_lists (n + 1)) [.tup (xs.map enc)] Q := by
  rw [m__law_as_lists, wF_def]
  simp [b__law_as_lists, frzs_id hf]
  refine comp_map0 (φ := φ) xs (fun x hx => ?_) (by simpa using hl) ?_
  · simp [hu, hf]
    refine h x hx _ ?_
    simp
  · simp
    exact q
def prL (p : Int × Int) : D := .lst true [.int p.1, .int p.2]
theorem asl_pr {Q : D → List D → Prop} {n : Nat} {p : Int × Int} (q : Q (prL p) [prD p]) : wF (m__law_as_lists (n + 2)) [prD p] Q :=
  asl_tup (Q := Q) (n := n + 1) (enc := D.int) (φ := D.int) (xs := [p.1, p.2]) (fun _ => rfl) (fun _ => rfl) (by simp) (fun x _ Q q => asl_int (n := n) q) q
theorem asl_prs {Q : D → List D → Prop} {n : Nat} {gs : List (Int × Int)} (hl : gs.length ≤ 1000000) (q : Q (.lst true (gs.map prL)) [.tup (gs.map prD)]) : wF (m__law_as_lists (n + 3)) [.tup (gs.map prD)] Q :=
  asl_tup (Q := Q) (n := n + 2) (enc := prD) (φ := prL) (xs := gs) (fun _ => rfl) (fun _ => rfl) hl (fun x _ Q q => asl_pr (n := n) q) q
abbrev wellL (lim : Int) (gs : List (Int × Int)) : D := .lst true [.int lim, .lst true (gs.map prL)]
theorem asl_well {Q : D → List D → Prop} {n : Nat} {lim : Int} {gs : List (Int × Int)} (hl : gs.length ≤ 1000000) (q : Q (wellL lim gs) [wellD lim gs]) : wF (m__law_as_lists (n + 4)) [wellD lim gs] Q :=
  asl_tup (α := Bool) (Q := Q) (n := n + 3) (enc := fun b => if b = true then .int lim else .tup (gs.map prD)) (φ := fun b => if b = true then .int lim else .lst true (gs.map prL)) (xs := [true, false]) (fun b => by cases b <;> simp) (fun b => by cases b <;> rfl) (by simp)
    (fun b _ Q q => by
      cases b with
      | true => exact asl_int (n := n + 2) q
      | false => exact asl_prs (n := n) hl q) q
end WC
namespace WC
open WF PySem
open L2 (atI ixN)
theorem wF_iff {m : Fn} {as as' : List D} {r : D} (h : ∀ Q : D → List D → Prop, Q r as' → wF m as Q) {Q : D → List D → Prop} : wF m as Q ↔ Q r as' := by
  refine ⟨fun w => ?_, h Q⟩
  have h1 := h (fun d S => d = r ∧ S = as') ⟨rfl, rfl⟩
  unfold wF at w h1
  have w : WF0.oE (m as) Q := w
  have h1 : WF0.oE (m as) (fun d S => d = r ∧ S = as') := h1
  obtain ⟨d, S, e, e1, e2⟩ := WF0.oE_ex.mp h1
  rw [e] at w
  rw [← e1, ← e2]
  exact w
theorem wF_eq {m : Fn} {as as' : List D} {r : D} (h : ∀ Q : D → List D → Prop, wF m as Q ↔ Q r as') : m as = some (.ok r, as') := by
  have h1 := (h (fun d S => d = r ∧ S = as')).mpr ⟨rfl, rfl⟩
  unfold wF at h1
  have h1 : WF0.oE (m as) (fun d S => d = r ∧ S = as') := h1
  obtain ⟨d, S, e, e1, e2⟩ := WF0.oE_ex.mp h1
  rw [e, e1, e2]
@[simp] theorem frzs_rep {n : Nat} {d : D} : D.frzs (List.replicate n d) = List.replicate n d.frz := by simp [D.frzs_map]
theorem loop_pre {α : Type} {g : GM} {body : SM} {Q : Fl → S0 → Prop} (enc : α → D) (st : List α → S0 → Prop) (xs : List α) (step : ∀ pre x post, xs = pre ++ x :: post → ∀ S, st pre S → wG g (enc x) S fun S => wS body S fun fl S => match fl with
      | .nx => st (pre ++ [x]) S
      | .ct => st (pre ++ [x]) S
      | .bk => Q .nx S
      | fl => Q fl S) {S : S0} (h0 : st [] S) (fin : ∀ S, st xs S → Q .nx S) : wS (loopM g body (xs.map enc)) S Q := by
  refine loop_ind (fun ds S => ∃ pre post, xs = pre ++ post ∧ ds = post.map enc ∧ st pre S) ?_ ?_ ⟨[], xs, rfl, rfl, h0⟩
  · rintro d ds S ⟨pre, post, e, e1, h⟩
    cases post with
    | nil => cases e1
    | cons x post =>
      cases e1
      refine wG.mono (step pre x post e S h) fun S q => wS.mono q fun fl S q => ?_
      cases fl with
      | nx => exact ⟨pre ++ [x], post, by simp [e], rfl, q⟩
      | ct => exact ⟨pre ++ [x], post, by simp [e], rfl, q⟩
      | bk => exact q
      | rt d => exact q
      | ex x => exact q
  · rintro S ⟨pre, post, e, e1, h⟩
    cases post with
    | nil => rw [List.append_nil] at e; exact fin S (e ▸ h)
    | cons x post => cases e1
theorem loop_rng {g : GM} {body : SM} {Q : Fl → S0 → Prop} (st : Nat → S0 → Prop) {lo : Int} {n : Nat} (step : ∀ k, k < n → ∀ S, st k S → wG g (.int (lo + (k : Int))) S fun S => wS body S fun fl S => match fl with
      | .nx => st (k + 1) S
      | .ct => st (k + 1) S
      | .bk => Q .nx S
      | fl => Q fl S) {S : S0} (h0 : st 0 S) (fin : ∀ S, st n S → Q .nx S) : wS (loopM g body (rngD lo n)) S Q := by
  refine loop_pre (fun k : Nat => D.int (lo + (k : Int))) (fun pre S => st pre.length S) (List.range n) ?_ h0 (fun S h => fin S (by simpa using h))
  intro pre x post e S h
  have hx : x = pre.length := by
    have := congrArg (fun l => l[pre.length]?) e
    simp at this
    have hl : pre.length < n := by
      have := congrArg List.length e
      simp at this
      omega
    simp [hl] at this
    omega
  have hl : pre.length < n := by
    have := congrArg List.length e
    simp at this
    omega
  subst hx
  refine wG.mono (step _ hl S h) fun S q => wS.mono q fun fl S q => ?_
  cases fl with
  | nx => simpa using q
  | ct => simpa using q
  | bk => exact q
  | rt d => exact q
  | ex x => exact q
theorem comp_rng0 {own : List Nat} {g : GM} {fe : EM} {Q : List D → S0 → Prop} (st : Nat → List D → S0 → Prop) {lo : Int} {n : Nat} (step : ∀ k, k < n → ∀ acc S, st k acc S → wG g (.int (lo + (k : Int))) S fun S => wE fe S fun y S => acc.length < 1000000 ∧ st (k + 1) (acc ++ [y]) (wipeS S own)) {S : S0} (h0 : st 0 [] S) (fin : ∀ acc S, st n acc S → Q acc S) : wC own g none fe (rngD lo n) S [] Q := by
  refine comp_ind0 (fun ds acc S => ∃ k, k ≤ n ∧ ds = (List.range' k (n - k)).map (fun k : Nat => D.int (lo + (k : Int))) ∧ st k acc S) ?_ ?_ ⟨0, by omega, by simp [rngD, List.range_eq_range'], h0⟩
  · rintro d ds acc S ⟨k, hk, e, h⟩
    by_cases hn : k < n
    · have e2 : n - k = (n - (k + 1)) + 1 := by omega
      rw [e2, List.range'_succ, List.map_cons] at e
      cases e
      exact wG.mono (step k hn acc S h) fun S q => wE.mono q fun y S ⟨q1, q2⟩ => ⟨q1, k + 1, by omega, rfl, q2⟩
    · have : n - k = 0 := by omega
      rw [this] at e
      cases e
  · rintro acc S ⟨k, hk, e, h⟩
    have : n - k = 0 := by
      have := congrArg List.length e
      simp at this
      omega
    have : k = n := by omega
    exact fin acc S (this ▸ h)
def sq : Bool → List D → D
  | true, xs => .tup xs
  | false, xs => .lst false xs
section
variable {t : Bool} {xs ys : List D} {a : Int} {d : D}
@[simp] theorem isUn_sq : isUn (sq t xs) = false := by cases t <;> rfl
@[simp] theorem frz_sq : D.frz (sq t xs) = sq t (D.frzs xs) := by cases t <;> rfl
@[simp] theorem lenD_sq : lenD [sq t xs] = some (.int xs.length) := by cases t <;> rfl
@[simp] theorem ixD_sq : ixD (sq t xs) (.int a) = atI (D.frzs xs) a := by cases t <;> rfl
theorem ixO_sq (h : D.frzs xs = xs) : ixO (sq t xs) (.int a) = (atI xs a).map fun x => (x, sq t xs) := by
  cases t
  · rfl
  · show (atI (D.frzs xs) a).map (fun x => (x, D.tup (D.frzs xs))) = _
    rw [h]; rfl
@[simp] theorem tupleD_sq : tupleD [sq t xs] = some (.tup xs) := by cases t <;> rfl
@[simp] theorem listD_sq : listD [sq t xs] = some (.lst true xs) := by cases t <;> rfl
@[simp] theorem itemsD_sq : itemsD (sq t xs) = some (D.frzs xs) := by cases t <;> rfl
@[simp] theorem seqV_sq : seqV (sq t xs) = some (D.frzs xs, sq t (D.frzs xs)) := by cases t <;> rfl
@[simp] theorem wG_sq {n : Nat} {gs : GMs} {S : S0} {QG : S0 → Prop} : wG (gTupM n gs) (sq t xs) S QG ↔ xs.length = n ∧ wGs gs xs S QG := by cases t <;> simp [sq]
end
abbrev stS (t : Bool) (xs : List Int) : D := sq t (xs.map .int)
theorem st_of {xs : List Int} : D.lst false (xs.map .int) = stS false xs := rfl
theorem tp_of {xs : List Int} : D.tup (xs.map .int) = stS true xs := rfl
@[simp] theorem ixO_stS {t : Bool} {xs : List Int} {a : Int} : ixO (stS t xs) (.int a) = (atI xs a).map fun x => (.int x, stS t xs) := by
  rw [ixO_sq (by simp), atI_map, Option.map_map]; rfl
def gpD (t : Bool) (p : Int × Int) : D := sq t [.int p.1, .int p.2]
def wlD (t : Bool) (lim : Int) (gs : List (Int × Int)) : D := sq t [.int lim, sq t (gs.map (gpD t))]
section
variable {t : Bool} {lim : Int} {gs : List (Int × Int)} {p : Int × Int} {S : S0} {QG : S0 → Prop}
@[simp] theorem frz_gpD : D.frz (gpD t p) = gpD t p := by cases t <;> rfl
@[simp] theorem isUn_gpD : isUn (gpD t p) = false := by cases t <;> rfl
@[simp] theorem frzs_gpD : D.frzs (gs.map (gpD t)) = gs.map (gpD t) := frzs_id fun _ => frz_gpD
@[simp] theorem ixD_gpD0 : ixD (gpD t p) (.int 0) = some (.int p.1) := by cases t <;> rfl
@[simp] theorem ixD_gpD1 : ixD (gpD t p) (.int 1) = some (.int p.2) := by cases t <;> rfl
@[simp] theorem ixO_gpD0 : ixO (gpD t p) (.int 0) = some (.int p.1, gpD t p) := by cases t <;> rfl
@[simp] theorem ixO_gpD1 : ixO (gpD t p) (.int 1) = some (.int p.2, gpD t p) := by cases t <;> rfl
@[simp] theorem wG_gpD {n : Nat} {gs : GMs} : wG (gTupM n gs) (gpD t p) S QG ↔ 2 = n ∧ wGs gs [.int p.1, .int p.2] S QG := by simp [gpD]
@[simp] theorem wG_prD {n : Nat} {gs : GMs} : wG (gTupM n gs) (prD p) S QG ↔ 2 = n ∧ wGs gs [.int p.1, .int p.2] S QG := by simp [prD]
@[simp] theorem frz_wlD : D.frz (wlD t lim gs) = wlD t lim gs := by simp [wlD]
@[simp] theorem isUn_wlD : isUn (wlD t lim gs) = false := by simp [wlD]
@[simp] theorem ixO_wlD0 : ixO (wlD t lim gs) (.int 0) = some (.int lim, wlD t lim gs) := by rw [wlD, ixO_sq (by simp)]; simp
@[simp] theorem ixO_wlD1 : ixO (wlD t lim gs) (.int 1) = some (sq t (gs.map (gpD t)), wlD t lim gs) := by rw [wlD, ixO_sq (by simp)]; simp
@[simp] theorem ixD_wlD0 : ixD (wlD t lim gs) (.int 0) = some (.int lim) := by rw [wlD]; simp
@[simp] theorem ixD_wlD1 : ixD (wlD t lim gs) (.int 1) = some (sq t (gs.map (gpD t))) := by rw [wlD]; simp
end
def wlO (lim : Int) (gs : List (Int × Int)) : D := wellL lim gs
@[simp] theorem frz_wlO {lim : Int} {gs : List (Int × Int)} : D.frz (wlO lim gs) = wlD false lim gs := by
  have : D.frzs (gs.map prL) = gs.map (gpD false) := by rw [D.frzs_map, List.map_map]; rfl
  simp [wlO, this, wlD, sq]
@[simp] theorem isUn_wlO {lim : Int} {gs : List (Int × Int)} : isUn (wlO lim gs) = false := rfl
@[simp] theorem ixD_prD0 {p : Int × Int} : ixD (prD p) (.int 0) = some (.int p.1) := rfl
@[simp] theorem ixD_prD1 {p : Int × Int} : ixD (prD p) (.int 1) = some (.int p.2) := rfl
@[simp] theorem ixO_prD0 {p : Int × Int} : ixO (prD p) (.int 0) = some (.int p.1, prD p) := rfl
@[simp] theorem ixO_prD1 {p : Int × Int} : ixO (prD p) (.int 1) = some (.int p.2, prD p) := rfl
@[simp] theorem imm_prD {p : Int × Int} : D.imm (prD p) = true := rfl
def grp (gs : List (Int × Int)) (k : Int) : Int × Int := gs.getD k.toNat (0, 0)
def wt (gs : List (Int × Int)) (k : Int) : Int := if k < 0 then 0 else (grp gs k).1
theorem at_grp {gs : List (Int × Int)} {k : Int} (h0 : 0 ≤ k) (h1 : k < gs.length) : atI gs k = some (grp gs k) := by
  obtain ⟨n, rfl⟩ := Int.eq_ofNat_of_zero_le h0
  rw [WF.atI_nat]
  have hk : n < gs.length := by omega
  simp [grp, hk]
def cn (xs : List Int) (k : Int) : Int := xs.getD k.toNat 0
theorem at_cn {xs : List Int} {k : Int} (h0 : 0 ≤ k) (h1 : k < xs.length) : atI xs k = some (cn xs k) := by
  obtain ⟨n, rfl⟩ := Int.eq_ofNat_of_zero_le h0
  rw [WF.atI_nat]
  have hk : n < xs.length := by omega
  simp [cn, hk]
end WC
namespace WC
open WF PySem
open L2 (atI ixN)
def okM (lim : Int) (gs : List (Int × Int)) (d u : Nat) : Bool := decide (wt gs d - wt gs (-1 + (u : Int)) ≤ lim)
def mvOf (d u : Nat) : Int × Int := ((d : Int), -1 + (u : Int))
def upsM (lim : Int) (gs : List (Int × Int)) (d : Nat) : List (Int × Int) := ((List.range (d + 1)).filter (okM lim gs d)).map (mvOf d)
def allM (lim : Int) (gs : List (Int × Int)) : List (Int × Int) := (List.range gs.length).flatMap (upsM lim gs)
end WC
namespace WC
open WF PySem
open L2 (atI ixN)
theorem mem_allM {lim : Int} {gs : List (Int × Int)} {m : Int × Int} : m ∈ allM lim gs ↔ -1 ≤ m.2 ∧ m.2 < m.1 ∧ m.1 < gs.length ∧ wt gs m.1 - wt gs m.2 ≤ lim := by
  simp only [allM, upsM, List.mem_flatMap, List.mem_range, List.mem_map, List.mem_filter]
  constructor
  · rintro ⟨d, hd, u, ⟨hu, ho⟩, rfl⟩
    simp [okM] at ho
    simp only [mvOf]
    omega
  · rintro ⟨h1, h2, h3, h4⟩
    refine ⟨m.1.toNat, by omega, (m.2 + 1).toNat, ⟨by omega, ?_⟩, ?_⟩
    · have e1 : ((m.1.toNat : Nat) : Int) = m.1 := by omega
      have e2 : -1 + (((m.2 + 1).toNat : Nat) : Int) = m.2 := by omega
      simp only [okM, e1, e2, decide_eq_true_eq]
      exact h4
    · apply Prod.ext
      · simp only [mvOf]; omega
      · simp only [mvOf]; omega
def legB (gs : List (Int × Int)) (xs : List Int) (m : Int × Int) : Bool := decide (cn xs m.1 < (grp gs m.1).2) && (decide (m.2 < 0) || decide (0 < cn xs m.2))
def isLeg (lim : Int) (gs : List (Int × Int)) (xs : List Int) (m : Int × Int) : Bool := decide (-1 ≤ m.2 ∧ m.2 < m.1 ∧ m.1 < gs.length ∧ wt gs m.1 - wt gs m.2 ≤ lim) && legB gs xs m
def legM (lim : Int) (gs : List (Int × Int)) (xs : List Int) : List (Int × Int) := (allM lim gs).filter (legB gs xs)
theorem isLeg_mem {lim : Int} {gs : List (Int × Int)} {xs : List Int} {m : Int × Int} : isLeg lim gs xs m = true ↔ m ∈ legM lim gs xs := by
  unfold isLeg legM
  rw [List.mem_filter, mem_allM]
  simp
end WC
namespace WC
open WF PySem
open L2 (atI ixN)
inductive Pl : Nat → D → Prop
  | non {n} : Pl (n + 1) .non
  | bl {n b} : Pl (n + 1) (.bl b)
  | int {n a} : Pl (n + 1) (.int a)
  | str {n x} : PyData.strOk x = true → Pl (n + 1) (.str x)
  | tup {n xs} : (∀ x ∈ xs, Pl n x) → xs.length ≤ 1000000 → Pl (n + 1) (.tup xs)
  | lst {n o xs} : (∀ x ∈ xs, Pl n x) → xs.length ≤ 1000000 → Pl (n + 1) (.lst o xs)
section
variable {n : Nat} {xs : List D} {o : Bool} {t : Bool}
@[simp] theorem pl_non : Pl (n + 1) .non := .non
@[simp] theorem pl_bl {b : Bool} : Pl (n + 1) (.bl b) := .bl
@[simp] theorem pl_int {a : Int} : Pl (n + 1) (.int a) := .int
@[simp] theorem pl_tup : Pl (n + 1) (.tup xs) ↔ (∀ x ∈ xs, Pl n x) ∧ xs.length ≤ 1000000 := ⟨fun h => by cases h with | tup a b => exact ⟨a, b⟩, fun h => .tup h.1 h.2⟩
@[simp] theorem pl_lst : Pl (n + 1) (.lst o xs) ↔ (∀ x ∈ xs, Pl n x) ∧ xs.length ≤ 1000000 := ⟨fun h => by cases h with | lst a b => exact ⟨a, b⟩, fun h => .lst h.1 h.2⟩
@[simp] theorem pl_sq : Pl (n + 1) (sq t xs) ↔ (∀ x ∈ xs, Pl n x) ∧ xs.length ≤ 1000000 := by cases t <;> simp [sq]
@[simp] theorem pl_prD {p : Int × Int} : Pl (n + 2) (prD p) := by simp [prD]
theorem pl_lmap {α : Type} {o : Bool} {enc : α → D} {ms : List α} (h : ms.length ≤ 1000000) (p : ∀ a ∈ ms, Pl n (enc a)) : Pl (n + 1) (.lst o (ms.map enc)) := pl_lst.mpr ⟨fun x hx => by obtain ⟨a, ha, rfl⟩ := List.mem_map.mp hx; exact p a ha, by simpa using h⟩
theorem pl_tmap {α : Type} {enc : α → D} {ms : List α} (h : ms.length ≤ 1000000) (p : ∀ a ∈ ms, Pl n (enc a)) : Pl (n + 1) (.tup (ms.map enc)) := pl_tup.mpr ⟨fun x hx => by obtain ⟨a, ha, rfl⟩ := List.mem_map.mp hx; exact p a ha, by simpa using h⟩
theorem pl_ints {o : Bool} {ms : List Int} (h : ms.length ≤ 1000000) : Pl (n + 2) (.lst o (ms.map .int)) := pl_lmap h fun _ _ => pl_int
theorem pl_st {ms : List Int} (h : ms.length ≤ 1000000) : Pl (n + 2) (.tup (ms.map .int)) := pl_tmap h fun _ _ => pl_int
end
mutual
theorem frz_frz : ∀ d : D, d.frz.frz = d.frz
  | .un => rfl | .non => rfl | .bl _ => rfl | .int _ => rfl | .str _ => rfl | .vl _ => rfl | .scr _ => rfl | .hld _ => rfl | .con _ => rfl | .tab _ => rfl
  | .exn c ks xs => by simp [D.frz, frzs_frzs xs]
  | .obj o c ks xs => by simp [D.frz, frzs_frzs xs]
  | .tup xs => by simp [frzs_frzs xs]
  | .lst o xs => by simp [frzs_frzs xs]
  | .dic o ks xs => by simp [D.frz, frzs_frzs xs]
  | .dtk o ks xs => by simp [D.frz, frzs_frzs xs]
theorem frzs_frzs : ∀ xs : List D, D.frzs (D.frzs xs) = D.frzs xs
  | [] => rfl
  | x :: xs => by simp [frz_frz x, frzs_frzs xs]
end
theorem Pl.frz {d : D} : ∀ {n : Nat}, Pl n d → Pl n d.frz
  | _, .non => .non
  | _, .bl => .bl
  | _, .int => .int
  | _, .str h => .str h
  | _, .tup h hl => by
    rw [frz_tup, pl_tup, D.frzs_map]
    exact ⟨fun x hx => by obtain ⟨y, hy, rfl⟩ := List.mem_map.mp hx; exact (h y hy).frz, by simpa using hl⟩
  | _, .lst h hl => by
    rw [frz_lst, pl_lst, D.frzs_map]
    exact ⟨fun x hx => by obtain ⟨y, hy, rfl⟩ := List.mem_map.mp hx; exact (h y hy).frz, by simpa using hl⟩
theorem Pl.un {n : Nat} {d : D} (h : Pl n d) : isUn d = false := by cases h <;> rfl
def lt' : D → D
  | .lst o xs => .lst o (D.frzs xs)
  | .tup xs => .tup (D.frzs xs)
  | d => d
section
variable {xs : List D} {o : Bool} {d : D}
@[simp] theorem lt_lst : lt' (.lst o xs) = .lst o (D.frzs xs) := rfl
@[simp] theorem lt_tup : lt' (.tup xs) = .tup (D.frzs xs) := rfl
@[simp] theorem lt_int {a : Int} : lt' (.int a) = .int a := rfl
@[simp] theorem lt_bl {a : Bool} : lt' (.bl a) = .bl a := rfl
@[simp] theorem lt_non : lt' .non = .non := rfl
@[simp] theorem lt_str {a : Str} : lt' (.str a) = .str a := rfl
@[simp] theorem lt_sq {t : Bool} : lt' (sq t xs) = sq t (D.frzs xs) := by cases t <;> rfl
end
theorem zip_self {xs : List D} : List.zipWith (fun x y => D.tup [x, y]) xs xs = xs.map fun x => .tup [x, x] := by
  have := @zipWith_map_self D id xs
  simpa using this
theorem strOk_py {x : Str} (h : PyData.strOk x = true) : eqD false (.str x) (.str x) = some (.bl true) := by
  simp [eqD, D.py, SeqAt.shaped, PyData.canLay0, h, PyData.depth, PyData.eqv]
@[simp] theorem eqD_non {n : Bool} : eqD n .non .non = some (.bl !n) := by cases n <;> rfl
theorem same_sp {Q : D → List D → Prop} : ∀ {n : Nat} {d d' : D}, Pl n d → d.frz = d'.frz → Q (.bl true) [lt' d, lt' d'] → wF (m__law_same n) [d, d'] Q
  | 0, d, d', h, e, q => by cases h
  | n + 1, d, d', h, e, q => by
    rw [m__law_same, wF_def]
    cases h with
    | non =>
      cases d' <;> simp [D.frz] at e
      simp [b__law_same]
      exact q
    | bl =>
      cases d' <;> simp [D.frz] at e
      subst e
      simp [b__law_same]
      exact q
    | int =>
      cases d' <;> simp [D.frz] at e
      subst e
      simp [b__law_same]
      exact q
    | str h =>
      cases d' <;> simp [D.frz] at e
      subst e
      simp [b__law_same, strOk_py h]
      exact q
    | @tup _ xs h hl =>
      cases d' with
      | tup ys =>
        simp at e
        have el : xs.length = ys.length := by have := congrArg List.length e; simpa using this
        simp [b__law_same, el, ← e, zip_self]
        refine comp_map0 (enc := fun x => .tup [x, x]) (φ := fun _ => .bl true) _ (fun x hx => ?_) (by simpa using hl) ?_
        · rw [D.frzs_map] at hx
          obtain ⟨y, hy, rfl⟩ := List.mem_map.mp hx
          have hp := (h y hy).frz
          simp [frz_frz, hp.un]
          refine same_sp hp rfl ?_
          simp
        · simp [all_true]
          simp [← e] at q
          exact q
      | _ => simp [D.frz] at e
    | @lst _ o xs h hl =>
      cases d' with
      | lst o' ys =>
        simp at e
        have el : xs.length = ys.length := by have := congrArg List.length e; simpa using this
        simp [b__law_same, el, ← e, zip_self]
        refine comp_map0 (enc := fun x => .tup [x, x]) (φ := fun _ => .bl true) _ (fun x hx => ?_) (by simpa using hl) ?_
        · rw [D.frzs_map] at hx
          obtain ⟨y, hy, rfl⟩ := List.mem_map.mp hx
          have hp := (h y hy).frz
          simp [frz_frz, hp.un]
          refine same_sp hp rfl ?_
          simp
        · simp [all_true]
          simp [← e] at q
          exact q
      | _ => simp [D.frz] at e
theorem same_eq {n : Nat} {d d' : D} (h : Pl n d) (e : d.frz = d'.frz) {Q : D → List D → Prop} : wF (m__law_same n) [d, d'] Q ↔ Q (.bl true) [lt' d, lt' d'] := wF_iff fun Q q => same_sp h e q
theorem eqvAll_refl : ∀ {xs : List PyData}, (∀ x ∈ xs, PyData.eqv x x = true) → PyData.eqvAll xs xs = true
  | [], _ => rfl
  | x :: xs, h => by simp [PyData.eqvAll, h x, eqvAll_refl (xs := xs) fun y hy => h y (List.mem_cons_of_mem _ hy)]
theorem depthAll_le {n : Nat} : ∀ {xs : List PyData}, (∀ x ∈ xs, PyData.depth x ≤ n) → PyData.depthAll xs ≤ n
  | [], _ => by simp [PyData.depthAll]
  | x :: xs, h => by
    have h1 := h x List.mem_cons_self
    have h2 := depthAll_le (xs := xs) fun y hy => h y (List.mem_cons_of_mem _ hy)
    simp [PyData.depthAll]
    omega
theorem canLayAll_of : ∀ {xs : List PyData}, (∀ x ∈ xs, PyData.canLay0 x = true) → PyData.canLayAll0 xs = true
  | [], _ => rfl
  | x :: xs, h => by simp [PyData.canLayAll0, h x, canLayAll_of (xs := xs) fun y hy => h y (List.mem_cons_of_mem _ hy)]
theorem pys_of {P : PyData → Prop} : ∀ {xs : List D}, (∀ x ∈ xs, ∃ p, x.py = some p ∧ P p) → ∃ ps, D.pys xs = some ps ∧ ∀ p ∈ ps, P p
  | [], _ => ⟨[], rfl, fun _ h => nomatch h⟩
  | x :: xs, h => by
    obtain ⟨p, e1, h1⟩ := h x List.mem_cons_self
    obtain ⟨ps, e2, h2⟩ := pys_of (xs := xs) fun y hy => h y (List.mem_cons_of_mem _ hy)
    refine ⟨p :: ps, by simp [D.pys, e1, e2], fun q hq => ?_⟩
    rcases List.mem_cons.mp hq with rfl | hq
    · exact h1
    · exact h2 q hq
theorem Pl.py {d : D} : ∀ {n : Nat}, Pl n d → ∃ p, d.py = some p ∧ PyData.canLay0 p = true ∧ PyData.depth p ≤ n ∧ PyData.eqv p p = true
  | _, .non => ⟨_, rfl, rfl, by simp [PyData.depth], rfl⟩
  | _, .bl => ⟨_, rfl, rfl, by simp [PyData.depth], by simp [PyData.eqv]⟩
  | _, .int => ⟨_, rfl, rfl, by simp [PyData.depth], by simp [PyData.eqv]⟩
  | _, .str h => ⟨_, rfl, h, by simp [PyData.depth], by simp [PyData.eqv]⟩
  | n + 1, .tup h hl => by
    obtain ⟨ps, e, h1⟩ := pys_of fun x hx => (h x hx).py
    exact ⟨.tuple ps, by simp [D.py, e], canLayAll_of fun x hx => (h1 x hx).1, by have := depthAll_le fun x hx => (h1 x hx).2.1; simp [PyData.depth]; omega, eqvAll_refl fun x hx => (h1 x hx).2.2⟩
  | n + 1, .lst h hl => by
    obtain ⟨ps, e, h1⟩ := pys_of fun x hx => (h x hx).py
    exact ⟨.list ps, by simp [D.py, e], canLayAll_of fun x hx => (h1 x hx).1, by have := depthAll_le fun x hx => (h1 x hx).2.1; simp [PyData.depth]; omega, eqvAll_refl fun x hx => (h1 x hx).2.2⟩
mutual
theorem py_frz : ∀ d : D, d.frz.py = d.py
  | .un => rfl | .non => rfl | .bl _ => rfl | .int _ => rfl | .str _ => rfl | .vl _ => rfl | .scr _ => rfl | .hld _ => rfl | .con _ => rfl | .tab _ => rfl
  | .exn c ks xs => by simp [D.frz, D.py]
  | .obj o c ks xs => by simp [D.frz, D.py]
  | .tup xs => by simp [D.py, pys_frz xs]
  | .lst o xs => by simp [D.py, pys_frz xs]
  | .dic o ks xs => by simp [D.frz, D.py]
  | .dtk o ks xs => by simp [D.frz, D.py]
theorem pys_frz : ∀ xs : List D, D.pys (D.frzs xs) = D.pys xs
  | [] => rfl
  | x :: xs => by simp [D.pys, py_frz x, pys_frz xs]
end
theorem allM_sorted {lim : Int} {gs : List (Int × Int)} : (allM lim gs).Pairwise (fun a b => a.1 < b.1 ∨ (a.1 = b.1 ∧ a.2 < b.2)) := by
  unfold allM
  rw [List.pairwise_flatMap]
  constructor
  · intro d _
    unfold upsM
    rw [List.pairwise_map]
    refine List.Pairwise.filter _ ?_
    refine List.Pairwise.imp ?_ (List.pairwise_lt_range (n := d + 1))
    intro a b h
    exact .inr ⟨rfl, by simp only [mvOf]; omega⟩
  · refine List.Pairwise.imp ?_ (List.pairwise_lt_range (n := gs.length))
    intro a b h x hx y hy
    simp only [upsM, List.mem_map] at hx hy
    obtain ⟨u, _, rfl⟩ := hx
    obtain ⟨v, _, rfl⟩ := hy
    exact .inl (by simp only [mvOf]; omega)
end WC
namespace WC
open WF PySem
open L2 (atI ixN)
structure Wl (n : Nat) (m lim : Int) (gs : List (Int × Int)) : Prop where
  lim1 : 1 ≤ lim
  ne : gs ≠ []
  len : gs.length ≤ n
  rise : Rise m 0 gs
theorem rwell_sp {Q : D → List D → Prop} {k : Nat} {n : Nat} {crowd : Int} {a b c : Int} (r : Rg k a b c) (hk : k ≤ 100000000) (h1 : 1 ≤ n) (h2 : n ≤ 1000) (h3 : 1 ≤ crowd) (h4 : crowd < 2 ^ 62)
    (q : ∀ lim gs a' c', Wl n crowd lim gs → Rg (k + 5000) a' b c' → Q (wlD true lim gs) [rngE a' b c', .int n, .int crowd]) : wF m__law_random_well [rngE a b c, .int n, .int crowd] Q :=
  random_well_sp r hk (by omega) (by omega) h3 h4 fun lim gs a' c' e1 e2 e3 e4 r' => q lim gs a' c' ⟨e1, e2, by omega, e4⟩ r'
theorem rstate_sp {Q : D → List D → Prop} {k n : Nat} {lim m : Int} {gs : List (Int × Int)} {a b c : Int} (r : Rg k a b c) (W : Wl n m lim gs) (hk : k ≤ 100000000) (hm : m < 2 ^ 62) (hl : n ≤ 1000)
    (q : ∀ xs a' c', StOk gs xs → Rg (k + 2000) a' b c' → Q (stS true xs) [rngE a' b c', wlD true lim gs]) : wF m__law_random_state [rngE a b c, wlD true lim gs] Q :=
  random_state_sp r hk W.rise hm (Nat.le_trans W.len hl) q
theorem aslW {lim : Int} {gs : List (Int × Int)} (hl : gs.length ≤ 100) {Q : D → List D → Prop} : wF (m__law_as_lists 8) [wlD true lim gs] Q ↔ Q (wlO lim gs) [wlD true lim gs] := wF_iff fun Q q => asl_well (n := 4) (by omega) q
theorem StOk.nil : StOk [] [] := trivial
theorem mulD2_one {x : D} {n : Int} (h0 : 1 ≤ n) (h1 : n ≤ 1000) : mulD2 (.tup [x]) (.int n) = some (.tup (List.replicate n.toNat x.frz)) := by
  by_cases h : n = 1
  · subst h; rfl
  · have e : mulD2 (.tup [x]) (.int n) = mulD (.tup [x]) (.int n) := by
      unfold mulD2
      split
      · rename_i heq; cases heq; exact absurd rfl h
      · rfl
    have h2 : 2 ≤ n := by omega
    rw [e]
    simp [mulD, h2, h1]
theorem law_shape {R : Fn} {n : Int} (h0 : 1 ≤ n) (h1 : n ≤ 60) (hR : ∀ (a b : Int) (Q : D → List D → Prop), Rg 0 a b 0 → (∀ x, Q (.bl true) [x]) → wF R [rngE a b 0] Q) (ns : List Int) :
    ∃ d, defM [true] 3 (seqM (asgM (callM m__law_fold [.v (varM 0), .v (retM (.int n))]) (gSetM 1))
      (retS (roM allD [.v (compM [2] (rng1M (roM maxD2 [.v (retM (.int 1)), .v (roM lenD [.s 1])])) (gSetM 2) none (callM R [.v (callM m__law_stream [.v (varM 1), .v (varM 2)])]))]))) [.scr ns] = some (.ok (.bl true), [d]) := by
  refine ⟨.scr ns, wF_eq fun Q => wF_iff fun Q q => ?_⟩
  rw [wF_def]
  simp
  refine fold_sp h0 h1 fun cs hc => ?_
  simp
  refine ⟨by split <;> omega, ?_⟩
  have hr : (if 1 < (cs.length : Int) then (cs.length : Int) else 1).toNat ≤ 60 := by split <;> omega
  generalize (if 1 < (cs.length : Int) then (cs.length : Int) else 1).toNat = m at hr
  refine comp_rng0 (fun k acc S => acc = (List.replicate k true).map .bl ∧ ∃ o, S = [.scr ns, .lst o (cs.map .int), .un]) ?_ ⟨rfl, _, rfl⟩ ?_
  · rintro k hk acc S ⟨rfl, o, rfl⟩
    simp
    refine stream_sp (by omega) fun a b r => ?_
    simp
    refine hR a b _ r fun x => ?_
    simp
    exact ⟨by omega, by simp [List.replicate_succ']⟩
  · rintro acc S ⟨rfl, o, rfl⟩
    rw [List.map_replicate]
    have e : boolsD (List.replicate m (D.bl true)) = some (List.replicate m true) := by rw [← List.map_replicate, boolsD_map']
    have e2 : (List.replicate m true).all id = true := by rw [List.all_eq_true]; intro x hx; exact (List.mem_replicate.mp hx).2
    simp [e, e2]
    exact q
end WC
namespace WC
open WF PySem
open L2 (atI ixN)
structure EqE {α : Type} (n : Nat) (enc : α → D) : Prop where
  ok : ∀ x, ∃ p, (enc x).py = some p ∧ PyData.canLay0 p = true ∧ PyData.depth p ≤ n
  eq : ∀ x y p q, (enc x).py = some p → (enc y).py = some q → (PyData.eqv p q = true ↔ x = y)
theorem eInt {n : Nat} : EqE n D.int := ⟨fun x => ⟨_, rfl, rfl, by simp [PyData.depth]⟩, fun x y p q h1 h2 => by cases h1; cases h2; simp [PyData.eqv]⟩
theorem pys_map {α : Type} {n : Nat} {enc : α → D} (h : EqE n enc) : ∀ xs : List α, ∃ ps, D.pys (xs.map enc) = some ps ∧ PyData.canLayAll0 ps = true ∧ PyData.depthAll ps ≤ n
  | [] => ⟨[], rfl, rfl, by simp [PyData.depthAll]⟩
  | x :: xs => by
    obtain ⟨p, e1, h1, h2⟩ := h.ok x
    obtain ⟨ps, e2, h3, h4⟩ := pys_map h xs
    exact ⟨p :: ps, by simp [D.pys, e1, e2], by simp [PyData.canLayAll0, h1, h3], by simp [PyData.depthAll]; omega⟩
theorem eqv_map {α : Type} {n : Nat} {enc : α → D} (h : EqE n enc) : ∀ (xs ys : List α) (ps qs : List PyData), D.pys (xs.map enc) = some ps → D.pys (ys.map enc) = some qs → (PyData.eqvAll ps qs = true ↔ xs = ys)
  | [], [], ps, qs, h1, h2 => by cases h1; cases h2; simp [PyData.eqvAll]
  | [], y :: ys, ps, qs, h1, h2 => by
    obtain ⟨b, bs, e3, e4, rfl⟩ := pys_cons h2
    cases h1
    simp [PyData.eqvAll]
  | x :: xs, [], ps, qs, h1, h2 => by
    obtain ⟨b, bs, e3, e4, rfl⟩ := pys_cons h1
    cases h2
    simp [PyData.eqvAll]
  | x :: xs, y :: ys, ps, qs, h1, h2 => by
    obtain ⟨a, as, e1, e2, rfl⟩ := pys_cons h1
    obtain ⟨b, bs, e3, e4, rfl⟩ := pys_cons h2
    simp [PyData.eqvAll, h.eq x y a b e1 e3, eqv_map h xs ys as bs e2 e4]
section
variable {α : Type} {n : Nat} {enc : α → D} {neg o o' t : Bool} {xs ys : List α}
theorem eLst (h : EqE n enc) : EqE (n + 1) (fun xs : List α => .lst o (xs.map enc)) := ⟨fun xs => by
    obtain ⟨ps, e, h1, h2⟩ := pys_map h xs
    exact ⟨.list ps, by simp [D.py, e], h1, by simp [PyData.depth]; omega⟩, fun xs ys p q h1 h2 => by
    simp only [D.py, Option.map_eq_some_iff] at h1 h2
    obtain ⟨ps, h1, rfl⟩ := h1
    obtain ⟨qs, h2, rfl⟩ := h2
    exact eqv_map h xs ys ps qs h1 h2⟩
theorem eTup (h : EqE n enc) : EqE (n + 1) (fun xs : List α => .tup (xs.map enc)) := ⟨fun xs => by
    obtain ⟨ps, e, h1, h2⟩ := pys_map h xs
    exact ⟨.tuple ps, by simp [D.py, e], h1, by simp [PyData.depth]; omega⟩, fun xs ys p q h1 h2 => by
    simp only [D.py, Option.map_eq_some_iff] at h1 h2
    obtain ⟨ps, h1, rfl⟩ := h1
    obtain ⟨qs, h2, rfl⟩ := h2
    exact eqv_map h xs ys ps qs h1 h2⟩
theorem eSq (h : EqE n enc) : EqE (n + 1) (fun xs : List α => sq t (xs.map enc)) := by
  cases t
  · exact eLst h
  · exact eTup h
theorem eqD_enc [DecidableEq α] (h : EqE n enc) (hn : n ≤ 64) {x y : α} {d d' : D} (e1 : d.py = (enc x).py) (e2 : d'.py = (enc y).py) : eqD neg d d' = some (.bl (if neg = true then !decide (x = y) else decide (x = y))) := by
  obtain ⟨p, f1, c1, d1⟩ := h.ok x
  obtain ⟨q, f2, c2, d2⟩ := h.ok y
  have e := h.eq x y p q f1 f2
  unfold eqD
  rw [e1, e2, f1, f2]
  have hp : p.depth ≤ 64 := by omega
  have hq : q.depth ≤ 64 := by omega
  simp only [SeqAt.shaped, c1, c2, hp, hq, decide_true, Bool.and_self, if_true]
  by_cases hxy : x = y
  · rw [e.mpr hxy]; simp [hxy]
  · have : PyData.eqv p q = false := by
      cases hh : PyData.eqv p q with
      | false => rfl
      | true => exact absurd (e.mp hh) hxy
    rw [this]; simp [hxy]
theorem eqD_sq [DecidableEq α] (h : EqE n enc) (hn : n < 64) : eqD neg (sq t (xs.map enc)) (sq t (ys.map enc)) = some (.bl (if neg = true then !decide (xs = ys) else decide (xs = ys))) := eqD_enc (enc := fun xs : List α => sq t (xs.map enc)) (eSq h) (by omega) rfl rfl
end
def trD (p : Int × Int × Int) : D := .tup [.int p.1, .int p.2.1, .int p.2.2]
@[simp] theorem frz_trD {p : Int × Int × Int} : D.frz (trD p) = trD p := rfl
@[simp] theorem isUn_trD {p : Int × Int × Int} : isUn (trD p) = false := rfl
@[simp] theorem frzs_trD {l : List (Int × Int × Int)} : D.frzs (l.map trD) = l.map trD := frzs_id fun _ => rfl
@[simp] theorem wG_trD {n : Nat} {gs : GMs} {p : Int × Int × Int} {S : S0} {QG : S0 → Prop} : wG (gTupM n gs) (trD p) S QG ↔ 3 = n ∧ wGs gs [.int p.1, .int p.2.1, .int p.2.2] S QG := by simp [trD]
@[simp] theorem pl_trD {n : Nat} {p : Int × Int × Int} : Pl (n + 2) (trD p) := by simp [trD]
theorem stOk_iff : ∀ {gs : List (Int × Int)} {xs : List Int}, StOk gs xs ↔ xs.length = gs.length ∧ ∀ k : Nat, k < gs.length → 0 ≤ cn xs k ∧ cn xs k ≤ (grp gs k).2
  | [], [] => by simp [StOk]
  | [], x :: xs => by simp [StOk]
  | p :: r, [] => by simp [StOk]
  | p :: r, x :: xs => by
    simp only [StOk, stOk_iff (gs := r) (xs := xs), List.length_cons]
    constructor
    · rintro ⟨h1, h2, h3, h4⟩
      refine ⟨by omega, fun k hk => ?_⟩
      cases k with
      | zero => exact ⟨h1, h2⟩
      | succ k => exact h4 k (by omega)
    · rintro ⟨h1, h2⟩
      exact ⟨(h2 0 (by omega)).1, (h2 0 (by omega)).2, by omega, fun k hk => h2 (k + 1) (by omega)⟩
theorem StOk.at {gs : List (Int × Int)} {xs : List Int} (h : StOk gs xs) {k : Int} (h0 : 0 ≤ k) (h1 : k < gs.length) : 0 ≤ cn xs k ∧ cn xs k ≤ (grp gs k).2 := by
  obtain ⟨n, rfl⟩ := Int.eq_ofNat_of_zero_le h0
  exact (stOk_iff.mp h).2 n (by omega)
def apm (xs : List Int) (d u t : Int) : List Int := if 0 ≤ u then (xs.set d.toNat (cn xs d + t)).set u.toNat (cn (xs.set d.toNat (cn xs d + t)) u - t) else xs.set d.toNat (cn xs d + t)
end WC
namespace WC
open WF PySem
open L2 (atI ixN)
def Jmp (lim : Int) (gs : List (Int × Int)) : List Int → List (Int × Int × Int) → List Int → Prop
  | xs, [], ys => xs = ys
  | xs, (d, u, t) :: r, ys => ((d, u) ∈ legM lim gs xs ∧ 1 ≤ t ∧ cn xs d + t ≤ (grp gs d).2 ∧ (0 ≤ u → t ≤ cn xs u)) ∧ Jmp lim gs (apm xs d u t) r ys
theorem Jmp.snoc {lim : Int} {gs : List (Int × Int)} {ys : List Int} {d u t : Int} (h1 : (d, u) ∈ legM lim gs ys ∧ 1 ≤ t ∧ cn ys d + t ≤ (grp gs d).2 ∧ (0 ≤ u → t ≤ cn ys u)) : ∀ {js : List (Int × Int × Int)} {xs : List Int}, Jmp lim gs xs js ys → Jmp lim gs xs (js ++ [(d, u, t)]) (apm ys d u t)
  | [], xs, h => by cases h; exact ⟨h1, rfl⟩
  | (d', u', t') :: r, xs, h => ⟨h.1, Jmp.snoc h1 h.2⟩
theorem cn_set {xs : List Int} {k : Nat} {v : Int} {j : Int} (h0 : 0 ≤ j) (hk : k < xs.length) : cn (xs.set k v) j = if j = k then v else cn xs j := by
  obtain ⟨n, rfl⟩ := Int.eq_ofNat_of_zero_le h0
  simp only [cn, Int.toNat_natCast, List.getD_eq_getElem?_getD, List.getElem?_set]
  by_cases h : k = n
  · subst h; simp [hk]
  · simp [h]
    intro e; omega
theorem apm_len {xs : List Int} {d u t : Int} : (apm xs d u t).length = xs.length := by unfold apm; split <;> simp
theorem cn_apm {xs : List Int} {d u t j : Int} (h0 : 0 ≤ d) (h1 : d < xs.length) (h2 : u < d) (hj : 0 ≤ j) : cn (apm xs d u t) j = cn xs j + (if j = d then t else 0) - (if j = u then t else 0) := by
  unfold apm
  split
  · rw [cn_set hj (by simp; omega), cn_set (by omega) (by omega), cn_set hj (by omega)]
    have e1 : (j = ((u.toNat : Nat) : Int)) = (j = u) := by rw [Int.toNat_of_nonneg (by omega)]
    have e2 : (j = ((d.toNat : Nat) : Int)) = (j = d) := by rw [Int.toNat_of_nonneg (by omega)]
    have e3 : ¬ (u = ((d.toNat : Nat) : Int)) := by omega
    simp only [e1, e2, e3, if_false]
    by_cases c1 : j = u
    · subst c1
      have : ¬ j = d := by omega
      simp [this]
    · by_cases c2 : j = d
      · subst c2; simp [c1]
      · simp [c1, c2]
  · rw [cn_set hj (by omega)]
    have e2 : (j = ((d.toNat : Nat) : Int)) = (j = d) := by rw [Int.toNat_of_nonneg (by omega)]
    have e3 : ¬ j = u := by omega
    simp only [e2, e3, if_false]
    by_cases c2 : j = d
    · subst c2; simp
    · simp [c2]
theorem mem_legM {lim : Int} {gs : List (Int × Int)} {xs : List Int} {m : Int × Int} : m ∈ legM lim gs xs ↔ (-1 ≤ m.2 ∧ m.2 < m.1 ∧ m.1 < gs.length ∧ wt gs m.1 - wt gs m.2 ≤ lim) ∧ cn xs m.1 < (grp gs m.1).2 ∧ (m.2 < 0 ∨ 0 < cn xs m.2) := by
  rw [legM, List.mem_filter, mem_allM]
  simp [legB]
theorem stOk_apm {lim : Int} {gs : List (Int × Int)} {xs : List Int} {d u t : Int} (hs : StOk gs xs) (hm : (d, u) ∈ legM lim gs xs) (h1 : 1 ≤ t) (h2 : cn xs d + t ≤ (grp gs d).2) (h3 : 0 ≤ u → t ≤ cn xs u) : StOk gs (apm xs d u t) := by
  have hm := mem_legM.mp hm
  simp only at hm
  have hl := hs.len
  refine stOk_iff.mpr ⟨by rw [apm_len]; exact hl, fun k hk => ?_⟩
  have hk' := (stOk_iff.mp hs).2 k hk
  rw [cn_apm (by omega) (by omega) (by omega) (by omega)]
  by_cases c1 : (k : Int) = u
  · have c2 : ¬ (k : Int) = d := by omega
    rw [if_neg c2, if_pos c1]
    have := h3 (by omega)
    rw [← c1] at this
    omega
  · by_cases c2 : (k : Int) = d
    · rw [if_pos c2, if_neg c1]
      rw [c2] at hk' ⊢
      omega
    · rw [if_neg c2, if_neg c1]; omega
theorem Jmp.ok {lim : Int} {gs : List (Int × Int)} : ∀ {js : List (Int × Int × Int)} {xs ys : List Int}, StOk gs xs → Jmp lim gs xs js ys → StOk gs ys
  | [], xs, ys, hs, h => by cases h; exact hs
  | (d, u, t) :: r, xs, ys, hs, h => Jmp.ok (stOk_apm hs h.1.1 h.1.2.1 h.1.2.2.1 h.1.2.2.2) h.2
theorem Rise.bound {m : Int} : ∀ {gs : List (Int × Int)} {w : Int}, Rise m w gs → ∀ p ∈ gs, 1 ≤ p.2 ∧ p.2 ≤ m
  | [], w, h, p, hp => by cases hp
  | p :: r, w, h, q, hq => by
    rcases List.mem_cons.mp hq with rfl | hq
    · exact ⟨h.2.1, h.2.2.1⟩
    · exact Rise.bound h.2.2.2 q hq
theorem grp_mem {gs : List (Int × Int)} {k : Int} (h0 : 0 ≤ k) (h1 : k < gs.length) : grp gs k ∈ gs := by
  obtain ⟨n, rfl⟩ := Int.eq_ofNat_of_zero_le h0
  have hn : n < gs.length := by omega
  simp [grp, hn]
theorem Wl.size {n : Nat} {m lim : Int} {gs : List (Int × Int)} (W : Wl n m lim gs) {k : Int} (h0 : 0 ≤ k) (h1 : k < gs.length) : 1 ≤ (grp gs k).2 ∧ (grp gs k).2 ≤ m := W.rise.bound _ (grp_mem h0 h1)
end WC
namespace WC
open WF PySem
open L2 (atI ixN)
@[simp] theorem intsD_mapf {α : Type} {f : α → Int} {l : List α} : intsD (l.map fun x => D.int (f x)) = some (l.map f) := by
  have := intsD_map' (l := l.map f)
  rwa [List.map_map] at this
theorem StOk.mem {m : Int} : ∀ {gs : List (Int × Int)} {xs : List Int} {w : Int}, StOk gs xs → Rise m w gs → ∀ x ∈ xs, 0 ≤ x ∧ x ≤ m
  | [], [], _, _, _, x, h => by cases h
  | p :: r, y :: ys, w, h, hr, x, hx => by
    rcases List.mem_cons.mp hx with rfl | hx
    · have := hr.2.2.1; exact ⟨h.1, by have := h.2.1; omega⟩
    · exact StOk.mem h.2.2 hr.2.2.2 x hx
theorem Wl.mem {n : Nat} {m lim : Int} {gs : List (Int × Int)} {xs : List Int} (W : Wl n m lim gs) (hs : StOk gs xs) : ∀ x ∈ xs, 0 ≤ x ∧ x ≤ m := hs.mem W.rise
theorem Jmp.mem {lim : Int} {gs : List (Int × Int)} {m : Int} : ∀ {js : List (Int × Int × Int)} {xs ys : List Int}, (∀ k : Int, 0 ≤ k → k < gs.length → (grp gs k).2 ≤ m) → StOk gs xs → Jmp lim gs xs js ys → ∀ j ∈ js, -1 ≤ j.2.1 ∧ j.2.1 < j.1 ∧ j.1 < gs.length ∧ 1 ≤ j.2.2 ∧ j.2.2 ≤ m
  | [], xs, ys, _, _, h, j, hj => by cases hj
  | (d, u, t) :: r, xs, ys, hg, hs, h, j, hj => by
    have hm := mem_legM.mp h.1.1
    simp only at hm
    rcases List.mem_cons.mp hj with rfl | hj
    · have h1 := hg d (by omega) (by omega)
      have h2 := hs.at (k := d) (by omega) (by omega)
      have h3 := h.1.2
      show -1 ≤ u ∧ u < d ∧ d < (gs.length : Int) ∧ 1 ≤ t ∧ t ≤ m
      omega
    · exact Jmp.mem hg (stOk_apm hs h.1.1 h.1.2.1 h.1.2.2.1 h.1.2.2.2) h.2 j hj
end WC
namespace WC
open WF PySem
open L2 (atI ixN)
theorem loop_ix {g : GM} {body : SM} {Q : Fl → S0 → Prop} (f : Nat → D) (st : Nat → S0 → Prop) {n : Nat} (step : ∀ k, k < n → ∀ S, st k S → wG g (f k) S fun S => wS body S fun fl S => match fl with
      | .nx => st (k + 1) S
      | .ct => st (k + 1) S
      | .bk => Q .nx S
      | fl => Q fl S) {S : S0} (h0 : st 0 S) (fin : ∀ S, st n S → Q .nx S) : wS (loopM g body ((List.range n).map f)) S Q := by
  refine loop_pre f (fun pre S => st pre.length S) (List.range n) ?_ h0 (fun S h => fin S (by simpa using h))
  intro pre x post e S h
  have hl : pre.length < n := by
    have := congrArg List.length e
    simp at this
    omega
  have hx : x = pre.length := by
    have := congrArg (fun l => l[pre.length]?) e
    simp [hl] at this
    omega
  subst hx
  refine wG.mono (step _ hl S h) fun S q => wS.mono q fun fl S q => ?_
  cases fl with
  | nx => simpa using q
  | ct => simpa using q
  | bk => exact q
  | rt d => exact q
  | ex x => exact q
theorem zipIdx_enc {α : Type} {xs : List α} {enc : α → D} (d : α) : (List.map enc xs).zipIdx.map (fun p => D.tup [.int (p.2 : Nat), p.1]) = (List.range xs.length).map fun k => .tup [.int (k : Nat), enc (xs.getD k d)] := by
  apply List.ext_getElem
  · simp
  · intro i h1 h2
    simp at h1
    simp [h1]
theorem enumG {t : Bool} {gs : List (Int × Int)} : (gs.map (gpD t)).zipIdx.map (fun p => D.tup [.int (p.2 : Nat), p.1]) = (List.range gs.length).map fun k => .tup [.int (k : Nat), gpD t (grp gs (k : Nat))] := zipIdx_enc (0, 0)
theorem enumI {xs : List Int} : (xs.map D.int).zipIdx.map (fun p => D.tup [.int (p.2 : Nat), p.1]) = (List.range xs.length).map fun k => .tup [.int (k : Nat), .int (cn xs (k : Nat))] := zipIdx_enc 0
theorem grp_nat {gs : List (Int × Int)} {k : Nat} : gs.getD k (0, 0) = grp gs k := rfl
theorem atI_last {α : Type} {xs : List α} {x : α} : atI (xs ++ [x]) (-1) = some x := by
  have e : ixN (xs.length + 1) (-1) = some xs.length := by
    unfold ixN
    rw [if_neg (by omega), if_pos (by omega)]
    congr 1
    omega
  simp [atI, e]
def stt (lim : Int) (gs : List (Int × Int)) : Nat → Nat
  | 0 => 0
  | k + 1 => if wt gs ((k + 1 : Nat) : Int) - wt gs (k : Nat) ≤ lim then stt lim gs k else k + 1
def stP (lim : Int) (gs : List (Int × Int)) (k : Nat) : List Int := (List.range k).map fun k => ((stt lim gs k : Nat) : Int)
def stL (lim : Int) (gs : List (Int × Int)) : List Int := stP lim gs gs.length
theorem stP_succ {lim : Int} {gs : List (Int × Int)} {k : Nat} : stP lim gs (k + 1) = stP lim gs k ++ [((stt lim gs k : Nat) : Int)] := by simp [stP, List.range_succ]
@[simp] theorem stP_len {lim : Int} {gs : List (Int × Int)} {k : Nat} : (stP lim gs k).length = k := by simp [stP]
@[simp] theorem stL_len {lim : Int} {gs : List (Int × Int)} : (stL lim gs).length = gs.length := by simp [stL]
theorem cn_stL {lim : Int} {gs : List (Int × Int)} {k : Nat} (h : k < gs.length) : cn (stL lim gs) k = stt lim gs k := by
  simp [cn, stL, stP, h]
theorem wt_nat {gs : List (Int × Int)} {k : Nat} : wt gs (k : Int) = (grp gs k).1 := by unfold wt; rw [if_neg (by omega)]
theorem segment_starts_eq {t : Bool} {lim : Int} {gs : List (Int × Int)} (hl : gs.length ≤ 100) {Q : D → List D → Prop} :
    wF m_segment_starts [wlD t lim gs] Q ↔ Q (.lst true ((stL lim gs).map .int)) [wlD t lim gs] := by
  refine wF_iff fun Q q => ?_
  rw [m_segment_starts, wF_def]
  simp [b_segment_starts, enumD_one, -List.map_map]
  rw [enumG]
  refine loop_ix _ (fun k S => ∃ x2 x3 x4 x5, S = [wlD t lim gs, .lst true ((stP lim gs k).map .int), x2, x3, x4, x5]) ?_ ⟨_, _, _, _, rfl⟩ ?_
  · rintro k hk S ⟨x2, x3, x4, x5, rfl⟩
    rw [stP_succ, List.map_append]
    have hL : (stP lim gs k).length < 1000000 := by simp; omega
    cases k with
    | zero =>
      simp [stt, stP]
    | succ k =>
      rw [stP_succ, List.map_append] at *
      have e1 : atI gs (k : Int) = some (grp gs k) := at_grp (by omega) (by omega)
      have hk0 : 0 < (k : Int) + 1 := by omega
      have e3 : wt gs ((k : Int) + 1) = (grp gs ((k : Int) + 1)).1 := by unfold wt; rw [if_neg (by omega)]
      have hL : k + 1 < 1000000 := by omega
      have e2 : ((k + 1 : Nat) : Int) = (k : Int) + 1 := by omega
      simp [atI_map, e1, hk0, atI_last, stt, wt_nat, e2, grp_nat]
      by_cases hc : (grp gs ((k : Int) + 1)).1 - (grp gs k).1 ≤ lim
      · simp [hc, hL, e3]
      · simp [hc, hL, e3]
  · rintro S ⟨x2, x3, x4, x5, rfl⟩
    simp
    exact q
def segP (lim : Int) (gs : List (Int × Int)) : Nat → List (List Int)
  | 0 => []
  | k + 1 => if stt lim gs k = k then segP lim gs k ++ [[(k : Int)]] else (segP lim gs k).set ((segP lim gs k).length - 1) ((segP lim gs k).getD ((segP lim gs k).length - 1) [] ++ [(k : Int)])
def segL (lim : Int) (gs : List (Int × Int)) : List (List Int) := segP lim gs gs.length
def ownL (l : List Int) : D := .lst true (l.map .int)
def frzL (l : List Int) : D := .lst false (l.map .int)
@[simp] theorem frz_ownL {l : List Int} : D.frz (ownL l) = frzL l := by simp [ownL, frzL]
@[simp] theorem frz_frzL {l : List Int} : D.frz (frzL l) = frzL l := by simp [frzL]
@[simp] theorem isUn_frzL {l : List Int} : isUn (frzL l) = false := rfl
@[simp] theorem frzs_ownL {ls : List (List Int)} : D.frzs (ls.map ownL) = ls.map frzL := by rw [D.frzs_map, List.map_map]; exact List.map_congr_left fun _ _ => frz_ownL
@[simp] theorem frzs_frzL {ls : List (List Int)} : D.frzs (ls.map frzL) = ls.map frzL := frzs_id fun _ => frz_frzL
def strP (lim : Int) (gs : List (Int × Int)) (k : Nat) : List Nat := (List.range k).filter fun j => decide (stt lim gs j = j)
theorem strP_succ {lim : Int} {gs : List (Int × Int)} {k : Nat} : strP lim gs (k + 1) = strP lim gs k ++ if stt lim gs k = k then [k] else [] := by
  unfold strP
  rw [List.range_succ, List.filter_append]
  by_cases h : stt lim gs k = k <;> simp [h]
theorem stt_le {lim : Int} {gs : List (Int × Int)} : ∀ k, stt lim gs k ≤ k
  | 0 => Nat.le_refl _
  | k + 1 => by
    unfold stt
    have := stt_le (lim := lim) (gs := gs) k
    split <;> omega
theorem segP_ok {lim : Int} {gs : List (Int × Int)} : ∀ k, (0 < k → segP lim gs k ≠ []) ∧ (segP lim gs k).length ≤ k ∧ ∃ hs : List (Int × List Int), segP lim gs k = hs.map (fun p => p.1 :: p.2) ∧ hs.map Prod.fst = (strP lim gs k).map fun (j : Nat) => (j : Int)
  | 0 => ⟨by simp, by simp [segP], [], rfl, by simp [strP]⟩
  | k + 1 => by
    obtain ⟨h1, h2, hs, e1, e2⟩ := segP_ok (lim := lim) (gs := gs) k
    rw [strP_succ]
    unfold segP
    by_cases hk : stt lim gs k = k
    · simp only [hk, if_true]
      refine ⟨by simp, by simp; omega, hs ++ [((k : Int), [])], by simp [e1], by simp [e2]⟩
    · simp only [hk, if_false]
      have hk0 : 0 < k := by
        rcases Nat.eq_zero_or_pos k with rfl | h
        · exact absurd rfl hk
        · exact h
      have hne := h1 hk0
      have hl : 0 < hs.length := by
        rcases Nat.eq_zero_or_pos hs.length with h | h
        · rw [List.length_eq_zero_iff.mp h] at e1; exact absurd e1 hne
        · exact h
      refine ⟨fun _ => by simpa using hne, by simp; omega, hs.set (hs.length - 1) ((hs.getD (hs.length - 1) (0, [])).1, (hs.getD (hs.length - 1) (0, [])).2 ++ [(k : Int)]), ?_, ?_⟩
      · rw [e1, List.map_set]
        simp
        congr 1
        rw [List.getElem?_eq_getElem (by omega)]
        simp
      · rw [List.map_set, List.append_nil, ← e2]
        simp
        apply List.ext_getElem
        · simp
        · intro i h3 h4
          rw [List.getElem_set]
          split
          · rename_i h5
            subst h5
            rw [List.getElem?_eq_getElem (by omega)]
            simp
          · rfl
theorem segP_lens {lim : Int} {gs : List (Int × Int)} : ∀ k, ∀ l ∈ segP lim gs k, l.length ≤ k
  | 0, l, h => by simp [segP] at h
  | k + 1, l, h => by
    have ih := segP_lens (lim := lim) (gs := gs) k
    unfold segP at h
    split at h
    · rcases List.mem_append.mp h with h | h
      · have := ih l h; omega
      · simp at h; subst h; simp
    · rcases List.mem_or_eq_of_mem_set h with h | h
      · have := ih l h; omega
      · subst h
        simp
        cases hh : (segP lim gs k)[(segP lim gs k).length - 1]? with
        | none => simp
        | some y => simp; exact ih y (List.mem_of_getElem? hh)
theorem segments_eq {t : Bool} {lim : Int} {gs : List (Int × Int)} (hl : gs.length ≤ 100) {Q : D → List D → Prop} :
    wF m_segments [wlD t lim gs] Q ↔ Q (.lst true ((segL lim gs).map ownL)) [wlD t lim gs] := by
  refine wF_iff fun Q q => ?_
  rw [m_segments, wF_def]
  simp [b_segments, segment_starts_eq hl, enumD_one, -List.map_map]
  rw [enumI]
  simp only [stL_len]
  refine loop_ix _ (fun k S => ∃ x2 x3, S = [wlD t lim gs, .lst true ((segP lim gs k).map ownL), x2, x3]) ?_ ⟨_, _, rfl⟩ ?_
  · rintro k hk S ⟨x2, x3, rfl⟩
    obtain ⟨h1, h2, hs, e1, e2⟩ := segP_ok (lim := lim) (gs := gs) k
    have es : segP lim gs (k + 1) = if stt lim gs k = k then segP lim gs k ++ [[(k : Int)]] else (segP lim gs k).set ((segP lim gs k).length - 1) ((segP lim gs k).getD ((segP lim gs k).length - 1) [] ++ [(k : Int)]) := rfl
    rw [cn_stL hk, es]
    have hne := h1
    have hls := segP_lens (lim := lim) (gs := gs) k
    clear h1
    generalize segP lim gs k = sg at *
    by_cases hk : stt lim gs k = k
    · have e3 : ixN (sg.length + 1) (-1) = some sg.length := by
        unfold ixN
        rw [if_neg (by omega), if_pos (by omega)]
        congr 1
        omega
      have h3 : sg.length < 1000000 := by omega
      simp [hk, e3, h3, ownL]
    · have hk0 : 0 < k := by
        rcases Nat.eq_zero_or_pos k with rfl | h
        · exact absurd rfl hk
        · exact h
      have h4 : 0 < sg.length := List.length_pos_iff.mpr (hne hk0)
      have e3 : ixN sg.length (-1) = some (sg.length - 1) := by
        unfold ixN
        rw [if_neg (by omega), if_pos (by omega)]
        congr 1
        omega
      have hk' : ¬ (k : Int) = (stt lim gs k : Int) := by omega
      have e4 : sg[sg.length - 1]? = some sg[sg.length - 1] := List.getElem?_eq_getElem _
      have h5 : sg[sg.length - 1].length < 1000000 := by have := hls _ (List.getElem_mem (by omega : sg.length - 1 < sg.length)); omega
      simp [hk, hk', e3, e4, ownL, h5]
  · rintro S ⟨x2, x3, rfl⟩
    simp
    exact q
end WC
namespace WC
open WF PySem
open L2 (atI ixN)
def grd (lim : Int) (gs : List (Int × Int)) : Bool := decide (wt gs 0 ≤ lim)
theorem is_grounded_eq {t : Bool} {lim : Int} {gs : List (Int × Int)} (h0 : gs ≠ []) {Q : D → List D → Prop} : wF m_is_grounded [wlD t lim gs] Q ↔ Q (.bl (grd lim gs)) [wlD t lim gs] := by
  have hl := List.length_pos_iff.mpr h0
  have e : atI gs 0 = some (grp gs 0) := at_grp (by omega) (by omega)
  have e2 : wt gs 0 = (grp gs 0).1 := wt_nat (k := 0)
  rw [m_is_grounded, wF_def]
  simp [b_is_grounded, atI_map, e, grd, e2]
def consB (lim : Int) (gs : List (Int × Int)) (k : Nat) : Bool := decide (stt lim gs k = k) && (decide (0 < k) || !grd lim gs)
def sufI (lim : Int) (gs : List (Int × Int)) (n k : Nat) : List Nat := (List.range n).filter fun j => decide (k ≤ j) && decide (stt lim gs j = stt lim gs k)
def suf (lim : Int) (gs : List (Int × Int)) (xs : List Int) (k : Nat) : Int := ((sufI lim gs gs.length k).map fun (j : Nat) => cn xs j).sum
def sufL (lim : Int) (gs : List (Int × Int)) (xs : List Int) : List Int := (List.range gs.length).map (suf lim gs xs)
@[simp] theorem sufL_len {lim : Int} {gs : List (Int × Int)} {xs : List Int} : (sufL lim gs xs).length = gs.length := by simp [sufL]
theorem cn_sufL {lim : Int} {gs : List (Int × Int)} {xs : List Int} {k : Nat} (h : k < gs.length) : cn (sufL lim gs xs) k = suf lim gs xs k := by simp [cn, sufL, h]
theorem suffix_counts_eq {t t' : Bool} {lim : Int} {gs : List (Int × Int)} {xs : List Int} (hl : gs.length ≤ 100) (hs : xs.length = gs.length) {Q : D → List D → Prop} :
    wF m_suffix_counts [wlD t lim gs, stS t' xs] Q ↔ Q (stS true (sufL lim gs xs)) [wlD t lim gs, stS t' xs] := by
  refine wF_iff fun Q q => ?_
  rw [m_suffix_counts, wF_def]
  simp [b_suffix_counts, segment_starts_eq hl, enumD_one, -List.map_map]
  rw [enumI]
  simp only [stL_len]
  refine comp_map0 (enc := fun k : Nat => D.tup [.int k, .int (cn (stL lim gs) k)]) (φ := fun k => .int (suf lim gs xs k)) (List.range gs.length) (fun k hk => ?_) (by simp; omega) ?_
  · have hk : k < gs.length := by simpa using hk
    simp [enumD_one, -List.map_map]
    rw [enumI]
    refine comp_map1 (enc := fun j : Nat => D.tup [.int j, .int (cn xs j)]) (φ := fun j => .int (cn xs j)) (t := fun j => decide (k ≤ j) && decide (stt lim gs j = stt lim gs k)) (List.range xs.length) (fun j hj => ?_) (by simp; omega) ?_
    · have hj : j < gs.length := by rw [← hs]; simpa using hj
      simp
      by_cases h1 : k ≤ j
      · have h1' : (k : Int) ≤ j := by omega
        have e1 : atI (stL lim gs) (j : Int) = some (cn (stL lim gs) j) := at_cn (by omega) (by simp; omega)
        simp [h1, h1', atI_map, e1, cn_stL hk, cn_stL hj]
        by_cases h2 : stt lim gs j = stt lim gs k
        · simp [h2]
        · have h2' : ¬ (stt lim gs j : Int) = (stt lim gs k : Int) := by omega
          simp [h2, h2']
      · have h1' : ¬ (k : Int) ≤ j := by omega
        simp [h1, h1']
    · simp
      rw [hs]
      rfl
  · have e : (List.range gs.length).map (fun k => D.int (suf lim gs xs k)) = (sufL lim gs xs).map .int := by simp [sufL]
    rw [List.nil_append, e]
    simp
    exact q
def obAt (lim : Int) (gs : List (Int × Int)) (xs ys : List Int) (k : Nat) : Option (Bool × Int) := if suf lim gs ys k < suf lim gs xs k then some (false, (k : Int)) else if suf lim gs xs k < suf lim gs ys k ∧ consB lim gs k = true then some (true, (k : Int)) else none
def obsP (lim : Int) (gs : List (Int × Int)) (xs ys : List Int) (k : Nat) : List (Bool × Int) := (List.range k).filterMap (obAt lim gs xs ys)
def obsL (lim : Int) (gs : List (Int × Int)) (xs ys : List Int) : List (Bool × Int) := obsP lim gs xs ys gs.length
def obD (p : Bool × Int) : D := .tup [.str (if p.1 = true then "more" else "fewer"), .int p.2]
@[simp] theorem frz_obD {p : Bool × Int} : D.frz (obD p) = obD p := rfl
@[simp] theorem isUn_obD {p : Bool × Int} : isUn (obD p) = false := rfl
@[simp] theorem frzs_obD {l : List (Bool × Int)} : D.frzs (l.map obD) = l.map obD := frzs_id fun _ => rfl
@[simp] theorem imm_obD {p : Bool × Int} : D.imm (obD p) = true := rfl
def oD : Option (Bool × Int) → D
  | none => .non
  | some p => obD p
end WC
namespace WC
open WF PySem
open L2 (atI ixN)
theorem range_filter_ge {n k : Nat} {p : Nat → Bool} (hk : k ≤ n) : (List.range n).filter (fun j => decide (k ≤ j) && p j) = (List.range' k (n - k)).filter p := by
  have e : List.range n = List.range k ++ List.range' k (n - k) := by
    have e1 : n = k + (n - k) := by omega
    rw [List.range_eq_range', List.range_eq_range']
    conv => lhs; rw [e1]
    rw [← List.range'_append]
    simp
  rw [e, List.filter_append]
  have e2 : (List.range k).filter (fun j => decide (k ≤ j) && p j) = [] := by
    rw [List.filter_eq_nil_iff]
    intro x hx
    have : x < k := by simpa using hx
    have : ¬ k ≤ x := by omega
    simp [this]
  rw [e2, List.nil_append]
  apply List.filter_congr
  intro x hx
  have : k ≤ x := by
    have := List.mem_range'.mp hx
    obtain ⟨i, _, rfl⟩ := this
    omega
  simp [this]
end WC
namespace WC
open WF PySem
open L2 (atI ixN)
end WC
namespace WC
open WF PySem
open L2 (atI ixN)
theorem Rise.gt {m : Int} : ∀ {gs : List (Int × Int)} {w : Int}, Rise m w gs → ∀ k, k < gs.length → w < (gs.getD k (0, 0)).1
  | [], _, _, k, h => by simp at h
  | p :: r, w, h, 0, _ => h.1
  | p :: r, w, h, k + 1, hk => by
    have := Rise.gt h.2.2.2 k (by simpa using hk)
    have h1 := h.1
    simp only [List.getD_cons_succ]
    omega
theorem Rise.lt {m : Int} : ∀ {gs : List (Int × Int)} {w : Int}, Rise m w gs → ∀ i j, i < j → j < gs.length → (gs.getD i (0, 0)).1 < (gs.getD j (0, 0)).1
  | [], _, _, i, j, _, h => by simp at h
  | p :: r, w, h, i, 0, hij, _ => by omega
  | p :: r, w, h, 0, j + 1, _, hj => by
    have := Rise.gt h.2.2.2 j (by simpa using hj)
    simpa using this
  | p :: r, w, h, i + 1, j + 1, hij, hj => by
    have := Rise.lt h.2.2.2 i j (by omega) (by simpa using hj)
    simpa using this
section
variable {N : Nat} {m lim : Int} {gs : List (Int × Int)}
theorem Wl.wt_pos (W : Wl N m lim gs) {k : Nat} (h : k < gs.length) : 0 < wt gs k := by rw [wt_nat]; exact W.rise.gt k h
theorem Wl.wt_lt (W : Wl N m lim gs) {i j : Nat} (h : i < j) (hj : j < gs.length) : wt gs i < wt gs j := by rw [wt_nat, wt_nat]; exact W.rise.lt i j h hj
theorem Wl.stt_same (W : Wl N m lim gs) {u : Nat} : ∀ {d : Nat}, u ≤ d → d < gs.length → wt gs d - wt gs u ≤ lim → stt lim gs d = stt lim gs u
  | 0, h, _, _ => by have : u = 0 := by omega
                     rw [this]
  | d + 1, h, hd, hw => by
    by_cases e : u = d + 1
    · rw [e]
    · have h1 := W.wt_lt (i := d) (j := d + 1) (by omega) hd
      have h2 : wt gs u ≤ wt gs d := by
        by_cases e2 : u = d
        · rw [e2]; omega
        · exact Int.le_of_lt (W.wt_lt (by omega) (by omega))
      have h3 : wt gs ((d + 1 : Nat) : Int) - wt gs (d : Nat) ≤ lim := by omega
      have ih := W.stt_same (u := u) (d := d) (by omega) (by omega) (by omega)
      rw [stt, if_pos h3, ih]
theorem Wl.stt_zero (W : Wl N m lim gs) {d : Nat} (hd : d < gs.length) (hw : wt gs d ≤ lim) : stt lim gs d = 0 ∧ wt gs 0 ≤ lim := by
  have h0 := W.wt_pos (k := 0) (by omega)
  have h1 : wt gs ((0 : Nat) : Int) ≤ wt gs d := by
    by_cases e : d = 0
    · rw [e]; omega
    · exact Int.le_of_lt (W.wt_lt (by omega) hd)
  have e := W.stt_same (u := 0) (d := d) (by omega) hd (by omega)
  exact ⟨by rw [e]; rfl, by simpa using Int.le_trans h1 hw⟩
theorem stt_stt {lim : Int} {gs : List (Int × Int)} : ∀ k, stt lim gs (stt lim gs k) = stt lim gs k
  | 0 => rfl
  | k + 1 => by
    have ih := stt_stt (lim := lim) (gs := gs) k
    by_cases h : wt gs ((k + 1 : Nat) : Int) - wt gs (k : Nat) ≤ lim
    · have e : stt lim gs (k + 1) = stt lim gs k := by rw [stt, if_pos h]
      rw [e]; exact ih
    · have e : stt lim gs (k + 1) = k + 1 := by rw [stt, if_neg h]
      rw [e]; exact e
end
theorem sum_add {α : Type} {f g : α → Int} : ∀ {l : List α}, (l.map fun x => f x + g x).sum = (l.map f).sum + (l.map g).sum
  | [] => rfl
  | x :: l => by simp [sum_add (l := l)]; omega
theorem sum_sub {α : Type} {f g : α → Int} : ∀ {l : List α}, (l.map fun x => f x - g x).sum = (l.map f).sum - (l.map g).sum
  | [] => rfl
  | x :: l => by simp [sum_sub (l := l)]; omega
theorem sum_ind {d t : Int} : ∀ {l : List Nat}, l.Nodup → (l.map fun (j : Nat) => if (j : Int) = d then t else 0).sum = if ∃ j ∈ l, ((j : Nat) : Int) = d then t else 0
  | [], _ => by simp
  | x :: l, h => by
    obtain ⟨h1, h2⟩ := List.nodup_cons.mp h
    have ih := sum_ind (d := d) (t := t) h2
    rw [List.map_cons, List.sum_cons, ih]
    by_cases c : (x : Int) = d
    · have : ¬ ∃ j ∈ l, ((j : Nat) : Int) = d := by
        rintro ⟨j, hj, e⟩
        have : j = x := by omega
        subst this
        exact h1 hj
      rw [if_pos c, if_neg this, if_pos ⟨x, List.mem_cons_self, c⟩]
      omega
    · rw [if_neg c]
      by_cases c2 : ∃ j ∈ l, ((j : Nat) : Int) = d
      · obtain ⟨j, hj, e⟩ := c2
        rw [if_pos ⟨j, hj, e⟩, if_pos ⟨j, List.mem_cons_of_mem _ hj, e⟩]; omega
      · rw [if_neg c2, if_neg]
        · rfl
        · rintro ⟨j, hj, e⟩
          rcases List.mem_cons.mp hj with rfl | hj
          · exact c e
          · exact c2 ⟨j, hj, e⟩
theorem sufI_nodup {lim : Int} {gs : List (Int × Int)} {n k : Nat} : (sufI lim gs n k).Nodup := List.Pairwise.filter _ List.nodup_range
theorem mem_sufI {lim : Int} {gs : List (Int × Int)} {n k j : Nat} : j ∈ sufI lim gs n k ↔ j < n ∧ k ≤ j ∧ stt lim gs j = stt lim gs k := by
  unfold sufI
  simp
theorem suf_apm {lim : Int} {gs : List (Int × Int)} {xs : List Int} {d u : Nat} {t : Int} {k : Nat} (hl : xs.length = gs.length) (hd : d < gs.length) (hu : u < d) :
    suf lim gs (apm xs d u t) k = suf lim gs xs k + (if k ≤ d ∧ stt lim gs d = stt lim gs k then t else 0) - (if k ≤ u ∧ stt lim gs u = stt lim gs k then t else 0) := by
  unfold suf
  have e : (sufI lim gs gs.length k).map (fun (j : Nat) => cn (apm xs d u t) j) = (sufI lim gs gs.length k).map (fun (j : Nat) => (cn xs j + (if (j : Int) = (d : Nat) then t else 0)) - (if (j : Int) = (u : Nat) then t else 0)) := by
    apply List.map_congr_left
    intro j hj
    rw [cn_apm (by omega) (by omega) (by omega) (by omega)]
  rw [e, sum_sub, sum_add, sum_ind sufI_nodup, sum_ind sufI_nodup]
  have c1 : (∃ j ∈ sufI lim gs gs.length k, ((j : Nat) : Int) = (d : Nat)) ↔ k ≤ d ∧ stt lim gs d = stt lim gs k := by
    constructor
    · rintro ⟨j, hj, e⟩
      have : j = d := by omega
      subst this
      exact (mem_sufI.mp hj).2
    · intro h
      exact ⟨d, mem_sufI.mpr ⟨hd, h⟩, rfl⟩
  have c2 : (∃ j ∈ sufI lim gs gs.length k, ((j : Nat) : Int) = (u : Nat)) ↔ k ≤ u ∧ stt lim gs u = stt lim gs k := by
    constructor
    · rintro ⟨j, hj, e⟩
      have : j = u := by omega
      subst this
      exact (mem_sufI.mp hj).2
    · intro h
      exact ⟨u, mem_sufI.mpr ⟨by omega, h⟩, rfl⟩
  simp only [c1, c2]
theorem suf_apm0 {lim : Int} {gs : List (Int × Int)} {xs : List Int} {d : Nat} {t : Int} {k : Nat} (hl : xs.length = gs.length) (hd : d < gs.length) :
    suf lim gs (apm xs d (-1) t) k = suf lim gs xs k + (if k ≤ d ∧ stt lim gs d = stt lim gs k then t else 0) := by
  unfold suf
  have e : (sufI lim gs gs.length k).map (fun (j : Nat) => cn (apm xs d (-1) t) j) = (sufI lim gs gs.length k).map (fun (j : Nat) => cn xs j + (if (j : Int) = (d : Nat) then t else 0)) := by
    apply List.map_congr_left
    intro j hj
    rw [cn_apm (by omega) (by omega) (by omega) (by omega)]
    have : ¬ (j : Int) = -1 := by omega
    simp [this]
  rw [e, sum_add, sum_ind sufI_nodup]
  have c1 : (∃ j ∈ sufI lim gs gs.length k, ((j : Nat) : Int) = (d : Nat)) ↔ k ≤ d ∧ stt lim gs d = stt lim gs k := by
    constructor
    · rintro ⟨j, hj, e⟩
      have : j = d := by omega
      subst this
      exact (mem_sufI.mp hj).2
    · intro h
      exact ⟨d, mem_sufI.mpr ⟨hd, h⟩, rfl⟩
  simp only [c1]
theorem Wl.suf_move {N : Nat} {m lim : Int} {gs : List (Int × Int)} {xs : List Int} (W : Wl N m lim gs) (hl : xs.length = gs.length) {d u t : Int} (hm : (d, u) ∈ allM lim gs) {k : Nat} (hk : k < gs.length) :
    suf lim gs (apm xs d u t) k = suf lim gs xs k + (if u < k ∧ (k : Int) ≤ d then t else 0) ∧ (consB lim gs k = true → ¬ (u < k ∧ (k : Int) ≤ d)) := by
  obtain ⟨h1, h2, h3, h4⟩ := mem_allM.mp hm
  simp only at h1 h2 h3 h4
  obtain ⟨d, rfl⟩ := Int.eq_ofNat_of_zero_le (show 0 ≤ d by omega)
  have hd : d < gs.length := by omega
  by_cases hu : u = -1
  · subst hu
    have w0 : wt gs (-1) = 0 := rfl
    obtain ⟨z1, z2⟩ := W.stt_zero hd (by omega)
    rw [suf_apm0 hl hd]
    constructor
    · congr 1
      by_cases c : k ≤ d
      · have c2 : stt lim gs k = 0 := by
          have : wt gs k ≤ wt gs d := by
            by_cases e : k = d
            · rw [e]; omega
            · exact Int.le_of_lt (W.wt_lt (by omega) hd)
          exact (W.stt_zero hk (by omega)).1
        rw [if_pos ⟨c, by rw [z1, c2]⟩, if_pos (by omega)]
      · rw [if_neg (fun h => c h.1), if_neg (by omega)]
    · intro hc h
      simp [consB, grd, z2] at hc
      have c2 : stt lim gs k = 0 := by
        have : wt gs k ≤ wt gs d := by
          by_cases e : k = d
          · rw [e]; omega
          · exact Int.le_of_lt (W.wt_lt (by omega) hd)
        exact (W.stt_zero hk (by omega)).1
      omega
  · obtain ⟨u, rfl⟩ := Int.eq_ofNat_of_zero_le (show 0 ≤ u by omega)
    have hud : u < d := by omega
    have z := W.stt_same (u := u) (d := d) (by omega) hd h4
    rw [suf_apm hl hd hud]
    have mid : u ≤ k → k ≤ d → stt lim gs k = stt lim gs u := fun a b => by
      refine W.stt_same a hk ?_
      have : wt gs k ≤ wt gs d := by
        by_cases e : k = d
        · rw [e]; omega
        · exact Int.le_of_lt (W.wt_lt (by omega) hd)
      omega
    constructor
    · by_cases c : k ≤ d
      · by_cases c2 : k ≤ u
        · rw [if_neg (by omega : ¬ ((u : Int) < k ∧ (k : Int) ≤ d))]
          by_cases c3 : stt lim gs u = stt lim gs k
          · rw [if_pos ⟨c, by rw [z, c3]⟩, if_pos ⟨c2, c3⟩]; omega
          · rw [if_neg (fun h => c3 (by rw [← z]; exact h.2)), if_neg (fun h => c3 h.2)]; omega
        · have e := mid (by omega) c
          rw [if_pos ⟨c, by rw [z, e]⟩, if_neg (fun h => c2 h.1), if_pos (by omega)]; omega
      · rw [if_neg (fun h => c h.1), if_neg (fun h => c (by omega)), if_neg (by omega)]; omega
    · intro hc h
      have e := mid (by omega) (by omega)
      simp [consB] at hc
      have := stt_le (lim := lim) (gs := gs) u
      omega
theorem Jmp.suf {N : Nat} {m lim : Int} {gs : List (Int × Int)} (W : Wl N m lim gs) {k : Nat} (hk : k < gs.length) : ∀ {js : List (Int × Int × Int)} {xs ys : List Int}, xs.length = gs.length → Jmp lim gs xs js ys → WC.suf lim gs xs k ≤ WC.suf lim gs ys k ∧ (consB lim gs k = true → WC.suf lim gs xs k = WC.suf lim gs ys k)
  | [], xs, ys, _, h => by cases h; exact ⟨Int.le_refl _, fun _ => rfl⟩
  | (d, u, t) :: r, xs, ys, hl, h => by
    have hm : (d, u) ∈ allM lim gs := (List.mem_filter.mp h.1.1).1
    have ih := Jmp.suf W hk (by rw [apm_len]; exact hl) h.2
    obtain ⟨e1, e2⟩ := W.suf_move hl (t := t) hm hk
    have ht := h.1.2.1
    constructor
    · have : WC.suf lim gs xs k ≤ WC.suf lim gs (apm xs d u t) k := by rw [e1]; split <;> omega
      omega
    · intro hc
      have := e2 hc
      rw [if_neg this] at e1
      rw [← ih.2 hc, e1]; omega
theorem obsL_nil {lim : Int} {gs : List (Int × Int)} {xs ys : List Int} : obsL lim gs xs ys = [] ↔ ∀ k, k < gs.length → suf lim gs xs k ≤ suf lim gs ys k ∧ (consB lim gs k = true → suf lim gs xs k = suf lim gs ys k) := by
  unfold obsL obsP
  rw [List.filterMap_eq_nil_iff]
  constructor
  · intro h k hk
    have := h k (by simpa using hk)
    unfold obAt at this
    split at this
    · cases this
    · split at this
      · cases this
      · rename_i h1 h2
        exact ⟨by omega, fun hc => by
          have : ¬ suf lim gs xs k < suf lim gs ys k := fun h => h2 ⟨h, hc⟩
          omega⟩
  · intro h k hk
    obtain ⟨h1, h2⟩ := h k (by simpa using hk)
    unfold obAt
    rw [if_neg (by omega), if_neg]
    rintro ⟨a, b⟩
    have := h2 b
    omega
end WC
namespace WC
open WF PySem
open L2 (atI ixN)
@[simp] theorem boolsD_nil : boolsD [] = some [] := rfl
@[simp] theorem boolsD_cons {b : Bool} {xs : List D} : boolsD (.bl b :: xs) = (boolsD xs).map (b :: ·) := rfl
@[simp] theorem frz_oD {o : Option (Bool × Int)} : D.frz (oD o) = oD o := by cases o <;> rfl
@[simp] theorem isUn_oD {o : Option (Bool × Int)} : isUn (oD o) = false := by cases o <;> rfl
@[simp] theorem isD_oD {n : Bool} {o : Option (Bool × Int)} : isD n (oD o) .non = some (.bl (n != o.isNone)) := by cases o <;> cases n <;> rfl
@[simp] theorem isi_obD {p : Bool × Int} : isiD [obD p, .vl (.ty "tuple")] = some (.bl true) := rfl
@[simp] theorem len_obD {p : Bool × Int} : lenD [obD p] = some (.int 2) := rfl
@[simp] theorem ixO_obD0 {p : Bool × Int} : ixO (obD p) (.int 0) = some (.str (if p.1 = true then "more" else "fewer"), obD p) := rfl
@[simp] theorem ixO_obD1 {p : Bool × Int} : ixO (obD p) (.int 1) = some (.int p.2, obD p) := rfl
end WC
namespace WC
open WF PySem
open L2 (atI ixN)
def nxt (lim : Int) (gs : List (Int × Int)) (xs : List Int) (k : Nat) : Int := if k + 1 < gs.length ∧ stt lim gs (k + 1) = stt lim gs k then suf lim gs xs (k + 1) else 0
theorem stt_up {lim : Int} {gs : List (Int × Int)} {k : Nat} : stt lim gs (k + 1) = stt lim gs k ∨ stt lim gs (k + 1) = k + 1 := by
  rw [stt]
  split
  · exact .inl rfl
  · exact .inr rfl
theorem stt_mono {lim : Int} {gs : List (Int × Int)} {k : Nat} : ∀ {j : Nat}, k ≤ j → stt lim gs k ≤ stt lim gs j
  | 0, h => by have : k = 0 := by omega
               rw [this]; omega
  | j + 1, h => by
    by_cases e : k = j + 1
    · rw [e]; omega
    · have ih := stt_mono (lim := lim) (gs := gs) (k := k) (j := j) (by omega)
      rcases stt_up (lim := lim) (gs := gs) (k := j) with h1 | h1
      · omega
      · have := stt_le (lim := lim) (gs := gs) j; omega
theorem stt_between {lim : Int} {gs : List (Int × Int)} {i k j : Nat} (h1 : i ≤ k) (h2 : k ≤ j) (h : stt lim gs j = stt lim gs i) : stt lim gs k = stt lim gs i := by
  have a := stt_mono (lim := lim) (gs := gs) h1
  have b := stt_mono (lim := lim) (gs := gs) h2
  omega
theorem suf_rec {lim : Int} {gs : List (Int × Int)} {xs : List Int} {k : Nat} (hk : k < gs.length) : suf lim gs xs k = cn xs k + nxt lim gs xs k := by
  unfold suf nxt sufI
  rw [range_filter_ge (by omega)]
  have e1 : gs.length - k = (gs.length - (k + 1)) + 1 := by omega
  rw [e1, List.range'_succ, List.filter_cons_of_pos (by simp), List.map_cons, List.sum_cons]
  congr 1
  by_cases hc : k + 1 < gs.length ∧ stt lim gs (k + 1) = stt lim gs k
  · rw [if_pos hc, suf, sufI, range_filter_ge (by omega), hc.2]
  · rw [if_neg hc]
    have : (List.range' (k + 1) (gs.length - (k + 1))).filter (fun j => decide (stt lim gs j = stt lim gs k)) = [] := by
      rw [List.filter_eq_nil_iff]
      intro j hj
      obtain ⟨i, h1, rfl⟩ := List.mem_range'.mp hj
      simp
      intro e
      have h2 : stt lim gs (k + 1) = stt lim gs k := stt_between (i := k) (k := k + 1) (j := k + 1 + 1 * i) (by omega) (by omega) (by simpa using e)
      exact hc ⟨by omega, h2⟩
    rw [this]
    rfl
theorem suf_inj {lim : Int} {gs : List (Int × Int)} {xs ys : List Int} (hx : xs.length = gs.length) (hy : ys.length = gs.length) (h : ∀ k, k < gs.length → suf lim gs xs k = suf lim gs ys k) : xs = ys := by
  apply List.ext_getElem (by omega)
  intro k h1 h2
  have hk : k < gs.length := by omega
  have e1 := suf_rec (lim := lim) (xs := xs) hk
  have e2 := suf_rec (lim := lim) (xs := ys) hk
  have e3 : nxt lim gs xs k = nxt lim gs ys k := by
    unfold nxt
    split
    · exact h (k + 1) (by omega)
    · rfl
  have e4 := h k hk
  have e5 : cn xs k = cn ys k := by omega
  have e6 : cn xs k = xs[k] := by simp [cn, h1]
  have e7 : cn ys k = ys[k] := by simp [cn, h2]
  omega
def unsP (lim : Int) (gs : List (Int × Int)) (cs : List Int) (k : Nat) : List Int := (List.range k).map fun (j : Nat) => cn cs j - (if j + 1 < gs.length ∧ stt lim gs (j + 1) = stt lim gs j then cn cs ((j + 1 : Nat) : Int) else 0)
def unsL (lim : Int) (gs : List (Int × Int)) (cs : List Int) : List Int := unsP lim gs cs gs.length
theorem unsP_succ {lim : Int} {gs : List (Int × Int)} {cs : List Int} {k : Nat} : unsP lim gs cs (k + 1) = unsP lim gs cs k ++ [cn cs k - (if k + 1 < gs.length ∧ stt lim gs (k + 1) = stt lim gs k then cn cs ((k + 1 : Nat) : Int) else 0)] := by simp [unsP, List.range_succ]
@[simp] theorem unsP_len {lim : Int} {gs : List (Int × Int)} {cs : List Int} {k : Nat} : (unsP lim gs cs k).length = k := by simp [unsP]
theorem uns_suf {lim : Int} {gs : List (Int × Int)} {xs : List Int} (hx : xs.length = gs.length) : unsL lim gs (sufL lim gs xs) = xs := by
  apply List.ext_getElem (by simp [unsL, hx])
  intro k h1 h2
  have hk : k < gs.length := by omega
  have e1 := suf_rec (lim := lim) (xs := xs) hk
  have e6 : cn xs k = xs[k] := by simp [cn, h2]
  unfold nxt at e1
  simp only [unsL, unsP, List.getElem_map, List.getElem_range]
  rw [cn_sufL hk, ← e6]
  split
  · rename_i hc
    rw [cn_sufL hc.1]
    rw [if_pos hc] at e1
    omega
  · rename_i hc
    rw [if_neg hc] at e1
    omega
theorem state_from_counts_eq {t t' : Bool} {lim : Int} {gs : List (Int × Int)} {cs : List Int} (hl : gs.length ≤ 100) (hs : cs.length = gs.length) {Q : D → List D → Prop} :
    wF m_state_from_counts [wlD t lim gs, stS t' cs] Q ↔ Q (stS true (unsL lim gs cs)) [wlD t lim gs, stS t' cs] := by
  refine wF_iff fun Q q => ?_
  rw [m_state_from_counts, wF_def]
  simp [b_state_from_counts, segment_starts_eq hl, enumD_one, -List.map_map]
  rw [enumI]
  simp only [stL_len]
  refine loop_ix _ (fun k S => ∃ x4 x5 x6, S = [wlD t lim gs, stS t' cs, .lst false ((stL lim gs).map .int), .lst true ((unsP lim gs cs k).map .int), x4, x5, x6]) ?_ ⟨_, _, _, rfl⟩ ?_
  · rintro k hk S ⟨x4, x5, x6, rfl⟩
    rw [unsP_succ, List.map_append, cn_stL hk]
    have hL : k < 1000000 := by omega
    have e1 : atI cs (k : Int) = some (cn cs k) := at_cn (by omega) (by omega)
    by_cases c1 : k + 1 < gs.length
    · have c1' : ¬ (k : Int) + 1 = gs.length := by omega
      have e2 : atI (stL lim gs) ((k : Int) + 1) = some ((stt lim gs (k + 1) : Nat) : Int) := by
        have := cn_stL (lim := lim) c1
        rw [at_cn (by omega) (by simp; omega), ← this]
        simp
      have e3 : atI cs ((k : Int) + 1) = some (cn cs ((k : Int) + 1)) := at_cn (by omega) (by omega)
      by_cases c2 : stt lim gs (k + 1) = stt lim gs k
      · simp [c1, c1', c2, e1, e2, e3, atI_map, hL]
      · have c2' : ¬ ((stt lim gs (k + 1) : Nat) : Int) = (stt lim gs k : Int) := by omega
        simp [c1, c1', c2, c2', e1, e2, atI_map, hL]
    · have c1' : (k : Int) + 1 = gs.length := by omega
      simp [c1, c1', e1, atI_map, hL]
  · rintro S ⟨x4, x5, x6, rfl⟩
    simp
    exact q
end WC
namespace WC
open WF PySem
open L2 (atI ixN)
section
variable {N : Nat} {m lim : Int} {gs : List (Int × Int)} {xs ys : List Int}
theorem nei_mem {j : Nat} (hj : j + 1 < gs.length) (hs : stt lim gs (j + 1) = stt lim gs j) : (((j + 1 : Nat) : Int), (j : Int)) ∈ allM lim gs := by
  refine mem_allM.mpr ⟨by simp only; omega, by simp only; omega, by simp only; omega, ?_⟩
  have := stt_le (lim := lim) (gs := gs) j
  rw [stt] at hs
  split at hs
  · rename_i h; exact h
  · omega
theorem Wl.down (W : Wl N m lim gs) (hx : StOk gs xs) (hy : StOk gs ys) (h : obsL lim gs xs ys = []) : ∀ j, j < gs.length → suf lim gs xs j < suf lim gs ys j → cn xs j < (grp gs j).2 → ∃ i : Nat, i < gs.length ∧ suf lim gs xs i < suf lim gs ys i ∧ ((i : Int), (i : Int) - 1) ∈ legM lim gs xs
  | 0, hj, hc, hf => by
    have h1 := (obsL_nil.mp h 0 hj).2
    have h2 : consB lim gs 0 = false := by
      cases hh : consB lim gs 0 with
      | false => rfl
      | true => have := h1 hh; omega
    have h3 : wt gs 0 ≤ lim := by simp [consB, stt, grd] at h2; exact h2
    exact ⟨0, hj, hc, mem_legM.mpr ⟨⟨by simp, by simp, by simp; omega, by simpa [wt] using h3⟩, hf, .inl (by simp)⟩⟩
  | j + 1, hj, hc, hf => by
    have h1 := (obsL_nil.mp h (j + 1) hj).2
    have h2 : consB lim gs (j + 1) = false := by
      cases hh : consB lim gs (j + 1) with
      | false => rfl
      | true => have := h1 hh; omega
    have h3 : stt lim gs (j + 1) = stt lim gs j := by
      rcases stt_up (lim := lim) (gs := gs) (k := j) with e | e
      · exact e
      · simp [consB, e] at h2
    have hm := nei_mem hj h3
    have hj' : j < gs.length := by omega
    by_cases c : 0 < cn xs j
    · refine ⟨j + 1, hj, hc, mem_legM.mpr ⟨?_, hf, .inr ?_⟩⟩
      · have := mem_allM.mp hm
        simpa using this
      · simpa using c
    · have b1 := (stOk_iff.mp hx).2 j hj'
      have b2 := (stOk_iff.mp hy).2 j hj'
      have b3 := W.size (k := (j : Int)) (by omega) (by omega)
      have e1 := suf_rec (lim := lim) (xs := xs) hj'
      have e2 := suf_rec (lim := lim) (xs := ys) hj'
      unfold nxt at e1 e2
      rw [if_pos ⟨hj, h3⟩] at e1 e2
      exact W.down hx hy h j hj' (by omega) (by omega)
theorem Wl.up (W : Wl N m lim gs) (hx : StOk gs xs) (hy : StOk gs ys) : ∀ (r k : Nat), k + r = gs.length → suf lim gs xs k < suf lim gs ys k → k < gs.length → ∃ j : Nat, j < gs.length ∧ suf lim gs xs j < suf lim gs ys j ∧ cn xs j < (grp gs j).2
  | 0, k, h, _, hk => by omega
  | r + 1, k, h, hc, hk => by
    by_cases c : cn xs k < (grp gs k).2
    · exact ⟨k, hk, hc, c⟩
    · have b1 := (stOk_iff.mp hx).2 k hk
      have b2 := (stOk_iff.mp hy).2 k hk
      have e1 := suf_rec (lim := lim) (xs := xs) hk
      have e2 := suf_rec (lim := lim) (xs := ys) hk
      unfold nxt at e1 e2
      by_cases c2 : k + 1 < gs.length ∧ stt lim gs (k + 1) = stt lim gs k
      · rw [if_pos c2] at e1 e2
        exact W.up hx hy r (k + 1) (by omega) (by omega) c2.1
      · rw [if_neg c2] at e1 e2
        omega
theorem Wl.step (W : Wl N m lim gs) (hx : StOk gs xs) (hy : StOk gs ys) (h : obsL lim gs xs ys = []) {k : Nat} (hk : k < gs.length) (hc : suf lim gs xs k < suf lim gs ys k) : ∃ i : Nat, i < gs.length ∧ suf lim gs xs i < suf lim gs ys i ∧ ((i : Int), (i : Int) - 1) ∈ legM lim gs xs := by
  obtain ⟨j, hj, h1, h2⟩ := W.up hx hy (gs.length - k) k (by omega) hc hk
  exact W.down hx hy h j hj h1 h2
end
def crs (lim : Int) (gs : List (Int × Int)) (xs ys : List Int) : List Int := (List.range gs.length).map fun k => suf lim gs ys k - suf lim gs xs k
@[simp] theorem crs_len {lim : Int} {gs : List (Int × Int)} {xs ys : List Int} : (crs lim gs xs ys).length = gs.length := by simp [crs]
end WC
namespace WC
open WF PySem
open L2 (atI ixN)
section
variable {N : Nat} {m lim : Int} {gs : List (Int × Int)} {xs ys : List Int}
end
end WC
namespace WC
open WF PySem
open L2 (atI ixN)
theorem filter_prefix {p : Nat → Bool} : ∀ {c s : Nat}, (∀ i j, s ≤ i → i ≤ j → j < s + c → p j = true → p i = true) → (List.range' s c).filter p = List.range' s ((List.range' s c).filter p).length
  | 0, s, _ => by simp
  | c + 1, s, h => by
    rw [List.range'_succ]
    by_cases hp : p s = true
    · rw [List.filter_cons_of_pos hp, List.length_cons, List.range'_succ]
      congr 1
      exact filter_prefix (c := c) (s := s + 1) fun i j h1 h2 h3 h4 => h i j (by omega) h2 (by omega) h4
    · have : (List.range' (s + 1) c).filter p = [] := by
        rw [List.filter_eq_nil_iff]
        intro j hj hpj
        obtain ⟨i, h1, rfl⟩ := List.mem_range'.mp hj
        exact hp (h s _ (by omega) (by omega) (by omega) hpj)
      rw [List.filter_cons_of_neg hp, this]
      simp
section
variable {lim : Int} {gs : List (Int × Int)}
theorem sufI_form {n s : Nat} (hs : s ≤ n) : sufI lim gs n s = List.range' s (sufI lim gs n s).length := by
  unfold sufI
  rw [range_filter_ge hs]
  refine filter_prefix fun i j h1 h2 h3 h4 => ?_
  simp at h4 ⊢
  exact stt_between h1 h2 h4
theorem mem_strP {k s : Nat} : s ∈ strP lim gs k ↔ s < k ∧ stt lim gs s = s := by unfold strP; simp
theorem sufI_succ {n s : Nat} : sufI lim gs (n + 1) s = sufI lim gs n s ++ if s ≤ n ∧ stt lim gs n = stt lim gs s then [n] else [] := by
  unfold sufI
  rw [List.range_succ, List.filter_append]
  by_cases h : s ≤ n ∧ stt lim gs n = stt lim gs s <;> simp [h]
theorem strP_last : ∀ {k : Nat}, ∃ l, strP lim gs (k + 1) = l ++ [stt lim gs k] ∧ ∀ s ∈ l, s < stt lim gs k
  | 0 => ⟨[], by simp [strP, stt], by simp⟩
  | k + 1 => by
    obtain ⟨l, e, h⟩ := strP_last (k := k)
    rw [strP_succ]
    by_cases c : stt lim gs (k + 1) = k + 1
    · refine ⟨strP lim gs (k + 1), by rw [if_pos c, c], fun s hs => ?_⟩
      have := (mem_strP.mp hs).1
      omega
    · have e2 : stt lim gs (k + 1) = stt lim gs k := by
        rcases stt_up (lim := lim) (gs := gs) (k := k) with h1 | h1
        · exact h1
        · exact absurd h1 c
      refine ⟨l, by rw [if_neg c, List.append_nil, e, e2], fun s hs => by rw [e2]; exact h s hs⟩
def segF (lim : Int) (gs : List (Int × Int)) (k s : Nat) : List Int := (sufI lim gs k s).map fun (j : Nat) => (j : Int)
theorem segP_form : ∀ k, segP lim gs k = (strP lim gs k).map (segF lim gs k)
  | 0 => by simp [segP, strP]
  | k + 1 => by
    have ih := segP_form k
    unfold segP
    rw [strP_succ]
    by_cases c : stt lim gs k = k
    · simp only [c, if_true]
      rw [List.map_append, ih]
      congr 1
      · apply List.map_congr_left
        intro s hs
        have h1 := mem_strP.mp hs
        unfold segF
        rw [sufI_succ, if_neg (by omega)]
        simp
      · have e : sufI lim gs k k = [] := by
          unfold sufI
          rw [List.filter_eq_nil_iff]
          intro j hj
          have : j < k := by simpa using hj
          simp
          omega
        simp [segF, sufI_succ, e]
    · simp only [c, if_false]
      have hk0 : 0 < k := by
        rcases Nat.eq_zero_or_pos k with rfl | h
        · exact absurd rfl c
        · exact h
      obtain ⟨k', rfl⟩ : ∃ k', k = k' + 1 := ⟨k - 1, by omega⟩
      obtain ⟨l, e, hl⟩ := strP_last (lim := lim) (gs := gs) (k := k')
      have e2 : stt lim gs (k' + 1) = stt lim gs k' := by
        rcases stt_up (lim := lim) (gs := gs) (k := k') with h1 | h1
        · exact h1
        · exact absurd h1 c
      rw [ih, List.append_nil, e]
      simp only [List.map_append, List.map_cons, List.map_nil, List.length_append, List.length_map, List.length_cons, List.length_nil]
      have e3 : l.length + (0 + 1) - 1 = l.length := by omega
      rw [e3]
      have e4 : (l.map (segF lim gs (k' + 1)) ++ [segF lim gs (k' + 1) (stt lim gs k')]).getD l.length [] = segF lim gs (k' + 1) (stt lim gs k') := by
        simp [List.getElem?_append]
      rw [e4, List.set_append_right _ _ (by simp)]
      simp
      constructor
      · intro s hs
        have h1 := hl s hs
        have h2 : s ∈ strP lim gs (k' + 1) := by rw [e]; exact List.mem_append_left _ hs
        have h3 := mem_strP.mp h2
        unfold segF
        rw [sufI_succ (n := k' + 1), if_neg (by rw [e2]; omega)]
        simp
      · unfold segF
        rw [sufI_succ (n := k' + 1), if_pos ⟨by have := stt_le (lim := lim) (gs := gs) k'; omega, by rw [e2, stt_stt]⟩]
        simp
end
end WC
namespace WC
open WF PySem
open L2 (atI ixN)
def fullL (gs : List (Int × Int)) : List Int := gs.map Prod.snd
@[simp] theorem fullL_len {gs : List (Int × Int)} : (fullL gs).length = gs.length := by simp [fullL]
def totS (lim : Int) (gs : List (Int × Int)) (xs : List Int) (s : Nat) : Int := if s = 0 ∧ grd lim gs = true then suf lim gs (fullL gs) s else suf lim gs xs s
def trC (lim : Int) (gs : List (Int × Int)) (xs : List Int) (k : Nat) : Int := min (totS lim gs xs (stt lim gs k)) (suf lim gs (fullL gs) k)
def trL (lim : Int) (gs : List (Int × Int)) (xs : List Int) : List Int := unsL lim gs ((List.range gs.length).map (trC lim gs xs))
@[simp] theorem trL_len {lim : Int} {gs : List (Int × Int)} {xs : List Int} : (trL lim gs xs).length = gs.length := by simp [trL, unsL]
theorem cn_range {f : Nat → Int} {n k : Nat} (h : k < n) : cn ((List.range n).map f) k = f k := by simp [cn, h]
theorem cn_trL {lim : Int} {gs : List (Int × Int)} {xs : List Int} {k : Nat} (h : k < gs.length) : cn (trL lim gs xs) k = trC lim gs xs k - (if k + 1 < gs.length ∧ stt lim gs (k + 1) = stt lim gs k then trC lim gs xs (k + 1) else 0) := by
  unfold trL unsL unsP
  rw [cn_range h, cn_range h]
  congr 1
  split
  · rename_i hc
    rw [cn_range hc.1]
  · rfl
end WC
namespace WC
open WF PySem
open L2 (atI ixN)
section
variable {t t' t2 : Bool} {lim : Int} {gs : List (Int × Int)} {xs ys : List Int} {Q : D → List D → Prop}
def cmb (j : Bool) (a b : Int) : Int := if j = true then max a b else min a b
def cmbL (lim : Int) (gs : List (Int × Int)) (j : Bool) (xs ys : List Int) : List Int := (List.range gs.length).map fun k => cmb j (suf lim gs xs k) (suf lim gs ys k)
@[simp] theorem cmbL_len {j : Bool} : (cmbL lim gs j xs ys).length = gs.length := by simp [cmbL]
theorem suf_uns {cs : List Int} (hc : cs.length = gs.length) : ∀ (r k : Nat), k + r = gs.length → 0 < r → suf lim gs (unsL lim gs cs) k = cn cs k
  | 0, k, h, h0 => by omega
  | r + 1, k, h, _ => by
    have hk : k < gs.length := by omega
    rw [suf_rec hk]
    have e : cn (unsL lim gs cs) k = cn cs k - (if k + 1 < gs.length ∧ stt lim gs (k + 1) = stt lim gs k then cn cs ((k + 1 : Nat) : Int) else 0) := by
      unfold unsL unsP
      rw [cn_range hk]
    rw [e]
    unfold nxt
    by_cases c : k + 1 < gs.length ∧ stt lim gs (k + 1) = stt lim gs k
    · rw [if_pos c, if_pos c, suf_uns hc r (k + 1) (by omega) (by omega)]
      omega
    · rw [if_neg c, if_neg c]
      omega
end
end WC
namespace WC
open WF PySem
open L2 (atI ixN)
section
variable {t t' t2 : Bool} {lim : Int} {gs : List (Int × Int)} {xs : List Int} {Q : D → List D → Prop}
end
end WC
namespace WC
open WF PySem
open L2 (atI ixN)
section
variable {N : Nat} {m lim : Int} {gs : List (Int × Int)} {xs ys : List Int}
end
end WC
namespace WC
open WF PySem
open L2 (atI ixN)
section
variable {N : Nat} {m lim : Int} {gs : List (Int × Int)} {xs ys zs : List Int} {j : Bool}
def jn (lim : Int) (gs : List (Int × Int)) (j : Bool) (xs ys : List Int) : List Int := unsL lim gs (cmbL lim gs j xs ys)
@[simp] theorem jn_len : (jn lim gs j xs ys).length = gs.length := by simp [jn, unsL]
theorem suf_jn {k : Nat} (hk : k < gs.length) : suf lim gs (jn lim gs j xs ys) k = cmb j (suf lim gs xs k) (suf lim gs ys k) := by
  unfold jn
  rw [suf_uns (by simp) (gs.length - k) k (by omega) (by omega)]
  unfold cmbL
  rw [cn_range hk]
def Cmp (lim : Int) (gs : List (Int × Int)) (xs ys : List Int) : Prop := ∀ k, k < gs.length → consB lim gs k = true → suf lim gs xs k = suf lim gs ys k
theorem Cmp.symm (h : Cmp lim gs xs ys) : Cmp lim gs ys xs := fun k hk hc => (h k hk hc).symm
theorem Cmp.trans (h : Cmp lim gs xs ys) (h' : Cmp lim gs ys zs) : Cmp lim gs xs zs := fun k hk hc => (h k hk hc).trans (h' k hk hc)
theorem Cmp.jn (h : Cmp lim gs xs ys) : Cmp lim gs xs (jn lim gs j xs ys) := fun k hk hc => by
  rw [suf_jn hk, ← h k hk hc]
  unfold cmb
  split <;> omega
end
end WC
namespace WC
open WF PySem
open L2 (atI ixN)
@[simp] theorem imm_st {xs : List Int} : D.imm (sq true (xs.map .int)) = true := by
  show D.imms (xs.map .int) = true
  induction xs with
  | nil => rfl
  | cons x xs ih => simp [ih]
def sumS (lim : Int) (gs : List (Int × Int)) (xs : List Int) : Int := (sufL lim gs xs).sum
structure Stp (lim : Int) (gs : List (Int × Int)) (xs ys : List Int) : Prop where
  le : ∀ k, k < gs.length → suf lim gs xs k ≤ suf lim gs ys k
  cs : ∀ k, k < gs.length → consB lim gs k = true → suf lim gs xs k = suf lim gs ys k
  ne : ∃ k, k < gs.length ∧ suf lim gs xs k < suf lim gs ys k
section
variable {N : Nat} {m lim : Int} {gs : List (Int × Int)} {xs ys : List Int}
theorem Wl.stp (W : Wl N m lim gs) (hl : xs.length = gs.length) {d u t : Int} (hm : (d, u) ∈ allM lim gs) (ht : 1 ≤ t) : Stp lim gs xs (apm xs d u t) := by
  have hm' := mem_allM.mp hm
  simp only at hm'
  refine ⟨fun k hk => ?_, fun k hk hc => ?_, ?_⟩
  · rw [(W.suf_move hl (t := t) hm hk).1]; split <;> omega
  · obtain ⟨e1, e2⟩ := W.suf_move hl (t := t) hm hk
    rw [e1, if_neg (e2 hc)]; omega
  · obtain ⟨d, rfl⟩ := Int.eq_ofNat_of_zero_le (show 0 ≤ d by omega)
    have hd : d < gs.length := by omega
    refine ⟨d, hd, ?_⟩
    rw [(W.suf_move hl (t := t) hm hd).1, if_pos ⟨by omega, by omega⟩]
    omega
theorem sum_lt {f g : Nat → Int} : ∀ {l : List Nat}, (∀ k ∈ l, f k ≤ g k) → (∃ k ∈ l, f k < g k) → (l.map f).sum < (l.map g).sum
  | [], _, h => by obtain ⟨k, hk, _⟩ := h; cases hk
  | k :: l, h, h2 => by
    have h1 := h k List.mem_cons_self
    have hle : ∀ {l : List Nat}, (∀ k ∈ l, f k ≤ g k) → (l.map f).sum ≤ (l.map g).sum := by
      intro l
      induction l with
      | nil => intro _; simp
      | cons j l ih =>
        intro hh
        have := hh j List.mem_cons_self
        have := ih fun i hi => hh i (List.mem_cons_of_mem _ hi)
        simp only [List.map_cons, List.sum_cons]
        omega
    simp only [List.map_cons, List.sum_cons]
    obtain ⟨j, hj, hlt⟩ := h2
    rcases List.mem_cons.mp hj with rfl | hj
    · have := hle fun i hi => h i (List.mem_cons_of_mem _ hi)
      omega
    · have := sum_lt (fun i hi => h i (List.mem_cons_of_mem _ hi)) ⟨j, hj, hlt⟩
      omega
theorem Stp.sum (s : Stp lim gs xs ys) : sumS lim gs xs < sumS lim gs ys := by
  unfold sumS sufL
  obtain ⟨k, hk, h⟩ := s.ne
  exact sum_lt (fun k hk => s.le k (by simpa using hk)) ⟨k, by simpa using hk, h⟩
structure Rows (lim : Int) (gs : List (Int × Int)) (xs : List Int) (rs : List (List Int)) : Prop where
  ok : ∀ r ∈ rs, StOk gs r
  cs : ∀ r ∈ rs, ∀ k, k < gs.length → consB lim gs k = true → suf lim gs xs k = suf lim gs r k
  st : ∀ (i : Nat) a b, rs[i]? = some a → rs[i + 1]? = some b → Stp lim gs a b
theorem Rows.snoc {rs : List (List Int)} {z y : List Int} (R : Rows lim gs xs (rs ++ [z])) (hy : StOk gs y) (s : Stp lim gs z y) : Rows lim gs xs (rs ++ [z] ++ [y]) := by
  refine ⟨fun r hr => ?_, fun r hr k hk hc => ?_, fun i a b ha hb => ?_⟩
  · rcases List.mem_append.mp hr with h | h
    · exact R.ok r h
    · simp at h; subst h; exact hy
  · rcases List.mem_append.mp hr with h | h
    · exact R.cs r h k hk hc
    · simp at h; subst h
      rw [R.cs z (by simp) k hk hc, s.cs k hk hc]
  · by_cases c : i + 1 < (rs ++ [z]).length
    · rw [List.getElem?_append_left c] at hb
      rw [List.getElem?_append_left (by omega)] at ha
      exact R.st i a b ha hb
    · have hlt : i + 1 < (rs ++ [z] ++ [y]).length := (List.getElem?_eq_some_iff.mp hb).1
      simp at c hlt
      have e : i = rs.length := by omega
      subst e
      simp at ha hb
      subst ha hb
      exact s
end
end WC
namespace WC
open WF PySem
open L2 (atI ixN)
theorem imms_map {α : Type} {enc : α → D} (h : ∀ x, D.imm (enc x) = true) : ∀ xs : List α, D.imms (xs.map enc) = true
  | [] => rfl
  | x :: xs => by simp [D.imms, h x, imms_map h xs]
@[simp] theorem imm_stT {xs : List Int} : D.imm (sq true (xs.map D.int)) = true := imms_map (enc := D.int) (fun _ => rfl) xs
@[simp] theorem eqD_stS {neg t : Bool} {xs ys : List Int} : eqD neg (sq t (xs.map D.int)) (sq t (ys.map D.int)) = some (.bl (if neg = true then !decide (xs = ys) else decide (xs = ys))) := eqD_sq (eInt (n := 0)) (by omega)
@[simp] theorem isD_sq {neg t : Bool} {xs : List D} : isD neg (sq t xs) .non = some (.bl neg) := by cases t <;> cases neg <;> rfl
section
variable {α : Type} {x y z u : α}
@[simp] theorem atI_m1 : atI [x] (-1) = some x := rfl
@[simp] theorem atI_m2 : atI [x, y] (-1) = some y := rfl
@[simp] theorem atI_m3 : atI [x, y, z] (-1) = some z := rfl
@[simp] theorem atI_m4 : atI [x, y, z, u] (-1) = some u := rfl
end
section
variable {lim : Int} {gs : List (Int × Int)} {xs ys zs : List Int} {j : Bool}
end
end WC
namespace WC
open WF PySem
open L2 (atI ixN)
section
variable {N : Nat} {m lim : Int} {gs : List (Int × Int)} {xs ys zs : List Int}
def Pth (lim : Int) (gs : List (Int × Int)) : Nat → List Int → List Int → Prop
  | 0, x, y => x = y
  | n + 1, x, y => ∃ z p, Pth lim gs n x z ∧ p ∈ legM lim gs z ∧ y = apm z p.1 p.2 1
theorem leg_ok (hs : StOk gs zs) {p : Int × Int} (hp : p ∈ legM lim gs zs) : StOk gs (apm zs p.1 p.2 1) := by
  have h := mem_legM.mp hp
  exact stOk_apm hs hp (by omega) (by omega) (fun _ => by omega)
theorem Pth.ok (hx : StOk gs xs) : ∀ {n : Nat} {ys : List Int}, Pth lim gs n xs ys → StOk gs ys
  | 0, _, h => h ▸ hx
  | n + 1, _, ⟨z, p, h, hp, e⟩ => by rw [e]; exact leg_ok (Pth.ok hx h) hp
theorem Pth.cons {p : Int × Int} (hp : p ∈ legM lim gs xs) : ∀ {n : Nat} {ys : List Int}, Pth lim gs n (apm xs p.1 p.2 1) ys → Pth lim gs (n + 1) xs ys
  | 0, _, h => ⟨xs, p, rfl, hp, h.symm⟩
  | n + 1, _, ⟨z, q, h, hq, e⟩ => ⟨z, q, Pth.cons hp h, hq, e⟩
theorem Pth.uncons : ∀ {n : Nat} {xs ys : List Int}, Pth lim gs (n + 1) xs ys → ∃ p, p ∈ legM lim gs xs ∧ Pth lim gs n (apm xs p.1 p.2 1) ys
  | 0, xs, ys, ⟨z, p, h, hp, e⟩ => by cases h; exact ⟨p, hp, e.symm⟩
  | n + 1, xs, ys, ⟨z, q, h, hq, e⟩ => by
    obtain ⟨p, hp, h'⟩ := Pth.uncons h
    exact ⟨p, hp, z, q, h', hq, e⟩
theorem Pth.sum (W : Wl N m lim gs) (hx : StOk gs xs) : ∀ {n : Nat} {ys : List Int}, Pth lim gs n xs ys → sumS lim gs xs + n ≤ sumS lim gs ys
  | 0, _, h => by cases h; omega
  | n + 1, _, ⟨z, p, h, hp, e⟩ => by
    have ih := Pth.sum W hx h
    have hz := h.ok hx
    have s := W.stp hz.len (t := 1) (List.mem_filter.mp hp).1 (by omega)
    have := s.sum
    rw [e]
    have e2 : apm z p.1 p.2 1 = apm z (p.1, p.2).1 (p.1, p.2).2 1 := rfl
    omega
end
theorem nodup_len {α : Type} [DecidableEq α] : ∀ {l l' : List α}, l.Nodup → (∀ x ∈ l, x ∈ l') → l.length ≤ l'.length
  | [], _, _, _ => by simp
  | x :: l, l', hn, h => by
    rw [List.nodup_cons] at hn
    have hx := h x List.mem_cons_self
    have ih := nodup_len (l := l) (l' := l'.erase x) hn.2 fun y hy => (List.mem_erase_of_ne (fun e : y = x => hn.1 (by rw [← e]; exact hy))).mpr (h y (List.mem_cons_of_mem _ hy))
    have := List.length_erase_of_mem hx
    have := List.length_pos_of_mem hx
    rw [List.length_cons]
    omega
end WC
namespace WC
open WF PySem
open L2 (atI ixN)
def tot (l : List (Int × Int)) : Int := (l.map Prod.snd).sum
def takeC : List (Int × Int) → Int → List (Int × Int)
  | [], _ => []
  | p :: r, a => (p.1, min p.2 a) :: takeC r (a - min p.2 a)
def takeR : List (Int × Int) → Int → List (Int × Int)
  | [], _ => []
  | p :: r, a => (p.1, p.2 - min p.2 a) :: takeR r (a - min p.2 a)
def left : List (Int × Int) → Int → Int
  | [], a => a
  | p :: r, a => left r (a - min p.2 a)
@[simp] theorem takeC_len : ∀ {l : List (Int × Int)} {a : Int}, (takeC l a).length = l.length
  | [], a => rfl
  | p :: r, a => by simp [takeC, takeC_len (l := r)]
@[simp] theorem takeR_len : ∀ {l : List (Int × Int)} {a : Int}, (takeR l a).length = l.length
  | [], a => rfl
  | p :: r, a => by simp [takeR, takeR_len (l := r)]
def posL (l : List (Int × Int)) : List (Int × Int) := l.filter fun p => decide (0 < p.2)
section
variable {o : Bool} {l : List (Int × Int)} {a : Int} {Q : D → List D → Prop}
end
def expL (lim : Int) (gs : List (Int × Int)) (k : Nat) (l : List (Int × Int)) : Int := if k = gs.length then 0 else tot (l.filter fun p => decide (lim < wt gs k - wt gs p.1))
section
variable {t o : Bool} {lim : Int} {gs : List (Int × Int)} {l : List (Int × Int)} {k : Nat} {Q : D → List D → Prop}
end
abbrev Swp := List (Int × Int × Int) × List (Int × Int)
def amt (lim : Int) (gs : List (Int × Int)) (k : Nat) (c : Int) (s : Swp) : Int := max (expL lim gs k s.2) (tot s.2 - c)
def swS (lim : Int) (gs : List (Int × Int)) (k : Nat) (c : Int) (s : Swp) : Swp :=
  (s.1 ++ (posL (takeC s.2 (amt lim gs k c s))).map fun p => ((k : Int) - 1, p.1, p.2),
   posL (takeR s.2 (amt lim gs k c s)) ++ if 0 < c - tot (posL (takeR s.2 (amt lim gs k c s))) then [((k : Int) - 1, c - tot (posL (takeR s.2 (amt lim gs k c s))))] else [])
def sw (lim : Int) (gs : List (Int × Int)) (cs : List Int) : Nat → Swp
  | 0 => ([], [])
  | k + 1 => swS lim gs k (cn cs k) (sw lim gs cs k)
section
variable {t t' o : Bool} {lim : Int} {gs : List (Int × Int)} {cs : List Int} {k : Nat} {Q : D → List D → Prop}
theorem posL_mem {l : List (Int × Int)} {p : Int × Int} (h : p ∈ posL l) : p ∈ l ∧ 0 < p.2 := by
  have := List.mem_filter.mp h
  exact ⟨this.1, by simpa using this.2⟩
theorem takeC_mem {p : Int × Int} : ∀ {l : List (Int × Int)} {a : Int}, p ∈ takeC l a → ∃ q ∈ l, q.1 = p.1
  | x :: r, a, h => by
    rcases List.mem_cons.mp h with rfl | h
    · exact ⟨x, List.mem_cons_self, rfl⟩
    · obtain ⟨q, hq, e⟩ := takeC_mem h
      exact ⟨q, List.mem_cons_of_mem _ hq, e⟩
theorem takeR_mem {p : Int × Int} : ∀ {l : List (Int × Int)} {a : Int}, p ∈ takeR l a → ∃ q ∈ l, q.1 = p.1
  | x :: r, a, h => by
    rcases List.mem_cons.mp h with rfl | h
    · exact ⟨x, List.mem_cons_self, rfl⟩
    · obtain ⟨q, hq, e⟩ := takeR_mem h
      exact ⟨q, List.mem_cons_of_mem _ hq, e⟩
theorem sw_up : ∀ k, ∀ p ∈ (sw lim gs cs k).2, -1 ≤ p.1 ∧ p.1 < (k : Int) - 1
  | 0, p, h => by simp [sw] at h
  | k + 1, p, h => by
    simp only [sw, swS] at h
    rcases List.mem_append.mp h with h | h
    · obtain ⟨q, hq, e⟩ := takeR_mem (posL_mem h).1
      have := sw_up k q hq
      omega
    · split at h
      · simp at h
        subst h
        simp
        omega
      · simp at h
def tL (p : Int × Int × Int) : List Int := [p.1, p.2.1, p.2.2]
def sort3 (ps : List (Int × Int × Int)) : List (Int × Int × Int) := ps.mergeSort fun a b => leL (tL a) (tL b)
theorem tpsD_tr : ∀ {ps : List (Int × Int × Int)}, tpsD (ps.map trD) = some (ps.map tL)
  | [] => rfl
  | p :: ps => by simp [tpsD, trD, tpsD_tr (ps := ps), tL]
theorem sortT_map {ps : List (Int × Int × Int)} : sortT (ps.map tL) = (sort3 ps).map tL := by
  symm
  refine sortT_is ((List.mergeSort_perm ps _).map tL) ?_
  rw [List.pairwise_map]
  exact List.pairwise_mergeSort (fun a b c h h' => by
    simp only [leL, Bool.not_eq_true'] at *
    exact ltL_tr _ _ _ h h') (fun a b => leL_tot _ _) ps
@[simp] theorem sortTD_tr {ps : List (Int × Int × Int)} : sortTD [.lst o (ps.map trD)] = some (.lst true ((sort3 ps).map trD)) := by
  simp [sortTD, tpsD_tr, sortT_map, tL, trD, Function.comp_def]
end
end WC
namespace WC
open WF PySem
open L2 (atI ixN)
def tot3 (l : List (Int × Int × Int)) : Int := (l.map fun p => p.2.2).sum
def crL (lim : Int) (gs : List (Int × Int)) (xs ys : List Int) : List Int := (List.range gs.length).map fun k => suf lim gs ys k - suf lim gs xs k
section
variable {t t' t2 o : Bool} {lim : Int} {gs : List (Int × Int)} {xs ys cs : List Int} {k : Nat} {Q : D → List D → Prop}
@[simp] theorem crL_len : (crL lim gs xs ys).length = gs.length := by simp [crL]
theorem cn_crL (hk : k < gs.length) : cn (crL lim gs xs ys) k = suf lim gs ys k - suf lim gs xs k := by unfold crL; rw [cn_range hk]
theorem sort3_perm {l : List (Int × Int × Int)} : (sort3 l).Perm l := List.mergeSort_perm l _
end
end WC
namespace WC
open WF PySem
open L2 (atI ixN)
abbrev Tr := Int × Int × Int
def sm (p : Tr → Bool) (l : List Tr) : Int := ((l.filter p).map fun x => x.2.2).sum
section
variable {p q : Tr → Bool} {l l' : List Tr} {x : Tr}
@[simp] theorem sm_nil : sm p [] = 0 := rfl
theorem sm_cons : sm p (x :: l) = (if p x = true then x.2.2 else 0) + sm p l := by
  unfold sm
  rw [List.filter_cons]
  split <;> simp_all
theorem sm_app : sm p (l ++ l') = sm p l + sm p l' := by
  unfold sm
  rw [List.filter_append, List.map_append, List.sum_append]
theorem sm_perm (h : l.Perm l') : sm p l = sm p l' := by
  induction h with
  | nil => rfl
  | cons x _ ih => simp [sm_cons, ih]
  | swap x y l => simp [sm_cons]; omega
  | trans _ _ ih1 ih2 => exact ih1.trans ih2
theorem sm_le (h0 : ∀ x ∈ l, 0 ≤ x.2.2) (h : ∀ x ∈ l, p x = true → q x = true) : sm p l ≤ sm q l := by
  induction l with
  | nil => simp
  | cons x l ih =>
    have ih := ih (fun y hy => h0 y (List.mem_cons_of_mem _ hy)) (fun y hy => h y (List.mem_cons_of_mem _ hy))
    have hx := h x List.mem_cons_self
    have hx0 := h0 x List.mem_cons_self
    rw [sm_cons, sm_cons]
    by_cases c : p x = true
    · rw [if_pos c, if_pos (hx c)]; omega
    · rw [if_neg c]
      split <;> omega
theorem sm_congr (h : ∀ x ∈ l, p x = q x) : sm p l = sm q l := by
  induction l with
  | nil => rfl
  | cons x l ih => rw [sm_cons, sm_cons, ih (fun y hy => h y (List.mem_cons_of_mem _ hy)), h x List.mem_cons_self]
theorem sm_zero (h : ∀ x ∈ l, p x = false) : sm p l = 0 := by
  induction l with
  | nil => rfl
  | cons x l ih => rw [sm_cons, ih (fun y hy => h y (List.mem_cons_of_mem _ hy)), h x List.mem_cons_self]; rfl
theorem sm_split (r : Tr → Bool) : sm p l = sm (fun x => p x && r x) l + sm (fun x => p x && !r x) l := by
  induction l with
  | nil => rfl
  | cons x l ih =>
    rw [sm_cons, sm_cons, sm_cons, ih]
    cases p x <;> cases r x <;> simp <;> omega
theorem tot3_sm : tot3 l = sm (fun _ => true) l := by
  unfold tot3 sm
  rw [List.filter_eq_self.mpr (fun _ _ => rfl)]
end
def crsT (l : List Tr) (g : Int) : Int := sm (fun x => decide (x.2.1 < g) && decide (g ≤ x.1)) l
structure Cov (lim : Int) (gs : List (Int × Int)) (cs : List Int) (l : List Tr) : Prop where
  mv : ∀ x ∈ l, (x.1, x.2.1) ∈ allM lim gs
  nn : ∀ x ∈ l, 0 ≤ x.2.2
  cr : ∀ g : Nat, g < gs.length → crsT l g = cn cs g
def old (l : List (Int × Int)) (u : Int) : Int := ((l.filter fun p => decide (p.1 ≤ u)).map Prod.snd).sum
theorem old_cons {p : Int × Int} {l : List (Int × Int)} {u : Int} : old (p :: l) u = (if p.1 ≤ u then p.2 else 0) + old l u := by
  unfold old
  rw [List.filter_cons]
  by_cases h : p.1 ≤ u <;> simp [h]
@[simp] theorem old_nil {u : Int} : old [] u = 0 := rfl
theorem old_app {l l' : List (Int × Int)} {u : Int} : old (l ++ l') u = old l u + old l' u := by
  unfold old
  rw [List.filter_append, List.map_append, List.sum_append]
@[simp] theorem tot_nil : tot [] = 0 := rfl
theorem tot_cons {p : Int × Int} {l : List (Int × Int)} : tot (p :: l) = p.2 + tot l := rfl
theorem tot_app {l l' : List (Int × Int)} : tot (l ++ l') = tot l + tot l' := by simp [tot]
theorem old_all {l : List (Int × Int)} {u : Int} (h : ∀ p ∈ l, p.1 ≤ u) : old l u = tot l := by
  unfold old tot
  rw [List.filter_eq_self.mpr fun p hp => by simpa using h p hp]
theorem old_none {l : List (Int × Int)} {u : Int} (h : ∀ p ∈ l, u < p.1) : old l u = 0 := by
  unfold old
  rw [List.filter_eq_nil_iff.mpr fun p hp => by have := h p hp; simp; omega]
  rfl
theorem old_nn {l : List (Int × Int)} {u : Int} (h : ∀ p ∈ l, 0 ≤ p.2) : 0 ≤ old l u := by
  induction l with
  | nil => simp
  | cons p l ih =>
    have := ih fun q hq => h q (List.mem_cons_of_mem _ hq)
    have := h p List.mem_cons_self
    rw [old_cons]
    split <;> omega
theorem tot_nn {l : List (Int × Int)} (h : ∀ p ∈ l, 0 ≤ p.2) : 0 ≤ tot l := by
  induction l with
  | nil => simp
  | cons p l ih =>
    have := ih fun q hq => h q (List.mem_cons_of_mem _ hq)
    have := h p List.mem_cons_self
    rw [tot_cons]
    omega
def Asc (l : List (Int × Int)) : Prop := l.Pairwise fun p q => p.1 < q.1
theorem old_takeR : ∀ {l : List (Int × Int)} {a u : Int}, Asc l → (∀ p ∈ l, 0 ≤ p.2) → 0 ≤ a → old (takeR l a) u = max 0 (old l u - a)
  | [], a, u, _, _, ha => by simp [takeR]; omega
  | p :: r, a, u, hA, h0, ha => by
    have hA' := List.pairwise_cons.mp hA
    have hp := h0 p List.mem_cons_self
    have hr := fun q hq => h0 q (List.mem_cons_of_mem _ hq)
    have nr := old_nn (u := u) hr
    have ih := old_takeR (a := a - min p.2 a) (u := u) hA'.2 hr (by omega)
    rw [takeR, old_cons, old_cons, ih]
    simp only
    by_cases c : p.1 ≤ u
    · rw [if_pos c, if_pos c]; omega
    · rw [if_neg c, if_neg c]
      have : old r u = 0 := old_none fun q hq => by have := hA'.1 q hq; omega
      omega
theorem old_take : ∀ {l : List (Int × Int)} {a u : Int}, old (takeC l a) u + old (takeR l a) u = old l u
  | [], a, u => rfl
  | p :: r, a, u => by
    have ih := old_take (l := r) (a := a - min p.2 a) (u := u)
    rw [takeC, takeR, old_cons, old_cons, old_cons]
    simp only
    by_cases c : p.1 ≤ u <;> simp only [c, if_true, if_false] <;> omega
theorem takeC_nn : ∀ {l : List (Int × Int)} {a : Int}, (∀ p ∈ l, 0 ≤ p.2) → 0 ≤ a → ∀ p ∈ takeC l a, 0 ≤ p.2
  | x :: r, a, h, ha, p, hp => by
    have := h x List.mem_cons_self
    rcases List.mem_cons.mp hp with rfl | hp
    · simp only; omega
    · exact takeC_nn (fun q hq => h q (List.mem_cons_of_mem _ hq)) (by omega) p hp
theorem takeR_nn : ∀ {l : List (Int × Int)} {a : Int}, (∀ p ∈ l, 0 ≤ p.2) → 0 ≤ a → ∀ p ∈ takeR l a, 0 ≤ p.2
  | x :: r, a, h, ha, p, hp => by
    have := h x List.mem_cons_self
    rcases List.mem_cons.mp hp with rfl | hp
    · simp only; omega
    · exact takeR_nn (fun q hq => h q (List.mem_cons_of_mem _ hq)) (by omega) p hp
theorem takeC_ups : ∀ {l : List (Int × Int)} {a : Int}, (takeC l a).map Prod.fst = l.map Prod.fst
  | [], _ => rfl
  | p :: r, a => by simp [takeC, takeC_ups (l := r)]
theorem takeR_ups : ∀ {l : List (Int × Int)} {a : Int}, (takeR l a).map Prod.fst = l.map Prod.fst
  | [], _ => rfl
  | p :: r, a => by simp [takeR, takeR_ups (l := r)]
theorem asc_ups {l : List (Int × Int)} : Asc l ↔ (l.map Prod.fst).Pairwise (· < ·) := by unfold Asc; rw [List.pairwise_map]
theorem old_pos {l : List (Int × Int)} {u : Int} (h : ∀ p ∈ l, 0 ≤ p.2) : old (posL l) u = old l u := by
  unfold posL
  induction l with
  | nil => rfl
  | cons p l ih =>
    have ih := ih fun q hq => h q (List.mem_cons_of_mem _ hq)
    have h0 := h p List.mem_cons_self
    rw [List.filter_cons, old_cons]
    by_cases c : 0 < p.2
    · simp only [c, decide_true, if_true]
      rw [old_cons, ih]
    · simp only [c, decide_false, Bool.false_eq_true, if_false]
      rw [ih]
      split <;> omega
end WC
namespace WC
open WF PySem
open L2 (atI ixN)
section
variable {N : Nat} {m lim : Int} {gs : List (Int × Int)} {cs : List Int}
theorem Wl.wt_mono (W : Wl N m lim gs) {i j : Int} (h0 : -1 ≤ i) (h : i ≤ j) (hj : j < gs.length) : wt gs i ≤ wt gs j := by
  by_cases e : i = j
  · subst e; omega
  · by_cases c : i = -1
    · subst c
      have : wt gs (-1) = 0 := rfl
      rw [this]
      obtain ⟨k, rfl⟩ := Int.eq_ofNat_of_zero_le (show 0 ≤ j by omega)
      exact Int.le_of_lt (W.wt_pos (by omega))
    · obtain ⟨k, rfl⟩ := Int.eq_ofNat_of_zero_le (show 0 ≤ i by omega)
      obtain ⟨l, rfl⟩ := Int.eq_ofNat_of_zero_le (show 0 ≤ j by omega)
      exact Int.le_of_lt (W.wt_lt (by omega) (by omega))
structure CrOk (lim : Int) (gs : List (Int × Int)) (cs : List Int) : Prop where
  len : cs.length = gs.length
  nn : ∀ g : Nat, 0 ≤ cn cs g
  st : ∀ g : Nat, g < gs.length → 0 < cn cs g → wt gs g - wt gs ((g : Int) - 1) ≤ lim
theorem CrOk.out (C : CrOk lim gs cs) {g : Nat} (h : gs.length ≤ g) : cn cs g = 0 := by
  have := C.len
  simp [cn, show cs.length ≤ g by omega]
structure SwOk (lim : Int) (gs : List (Int × Int)) (cs : List Int) (k : Nat) (s : Swp) : Prop where
  up : ∀ p ∈ s.2, -1 ≤ p.1 ∧ p.1 < (k : Int) - 1
  pos : ∀ p ∈ s.2, 0 < p.2
  asc : Asc s.2
  tt : tot s.2 = if k = 0 then 0 else cn cs ((k : Int) - 1)
  mvo : ∀ p ∈ s.2, k ≤ gs.length → wt gs ((k : Int) - 1) - wt gs p.1 ≤ lim
  fpos : ∀ x ∈ s.1, 0 < x.2.2
  fmv : ∀ x ∈ s.1, (x.1, x.2.1) ∈ allM lim gs ∧ x.1 < (k : Int) - 1
  cr : ∀ g : Nat, g < k → crsT s.1 g + old s.2 ((g : Int) - 1) = cn cs g
theorem exp_eq {k : Nat} {l : List (Int × Int)} (hk : k < gs.length) : expL lim gs k l = tot (l.filter fun p => decide (lim < wt gs k - wt gs p.1)) := by
  unfold expL
  rw [if_neg (by omega)]
theorem tot_filter_le {l : List (Int × Int)} {f g : Int × Int → Bool} (h0 : ∀ p ∈ l, 0 ≤ p.2) (h : ∀ p ∈ l, f p = true → g p = true) : tot (l.filter f) ≤ tot (l.filter g) := by
  induction l with
  | nil => simp
  | cons p l ih =>
    have ih := ih (fun q hq => h0 q (List.mem_cons_of_mem _ hq)) (fun q hq => h q (List.mem_cons_of_mem _ hq))
    have hp := h0 p List.mem_cons_self
    have hh := h p List.mem_cons_self
    rw [List.filter_cons, List.filter_cons]
    by_cases c : f p = true
    · rw [if_pos c, if_pos (hh c), tot_cons, tot_cons]; omega
    · rw [if_neg c]
      split
      · rw [tot_cons]; omega
      · exact ih
theorem old_eq_tot {l : List (Int × Int)} {u : Int} : old l u = tot (l.filter fun p => decide (p.1 ≤ u)) := rfl
theorem tot_filter_all {l : List (Int × Int)} {f : Int × Int → Bool} (h0 : ∀ p ∈ l, 0 ≤ p.2) : tot (l.filter f) ≤ tot l := by
  have := tot_filter_le (f := f) (g := fun _ => true) h0 (fun _ _ _ => rfl)
  rwa [List.filter_eq_self.mpr (fun _ _ => rfl)] at this
theorem exp_le {k : Nat} {l : List (Int × Int)} (h0 : ∀ p ∈ l, 0 ≤ p.2) : 0 ≤ expL lim gs k l ∧ expL lim gs k l ≤ tot l := by
  unfold expL
  split
  · exact ⟨Int.le_refl _, tot_nn h0⟩
  · exact ⟨tot_nn fun p hp => h0 p (List.mem_filter.mp hp).1, tot_filter_all h0⟩
theorem old_mem {l : List (Int × Int)} {u : Int} {p : Int × Int} (h0 : ∀ p ∈ l, 0 ≤ p.2) (hp : p ∈ l) (hu : p.1 ≤ u) : p.2 ≤ old l u := by
  induction l with
  | nil => cases hp
  | cons q l ih =>
    have hq := h0 q List.mem_cons_self
    have h0' := fun r hr => h0 r (List.mem_cons_of_mem _ hr)
    have := old_nn (u := u) h0'
    rw [old_cons]
    rcases List.mem_cons.mp hp with rfl | hp
    · rw [if_pos hu]; omega
    · have := ih h0' hp
      split <;> omega
theorem posL_asc {l : List (Int × Int)} (h : Asc l) : Asc (posL l) := List.Pairwise.filter _ h
theorem asc_takeC {l : List (Int × Int)} {a : Int} (h : Asc l) : Asc (takeC l a) := by rw [asc_ups, takeC_ups]; exact asc_ups.mp h
theorem asc_takeR {l : List (Int × Int)} {a : Int} (h : Asc l) : Asc (takeR l a) := by rw [asc_ups, takeR_ups]; exact asc_ups.mp h
theorem crs_app {l l' : List Tr} {g : Int} : crsT (l ++ l') g = crsT l g + crsT l' g := sm_app
theorem crs_closed {l : List (Int × Int)} {k g : Int} (hg : g ≤ k) : crsT (l.map fun p => (k, p.1, p.2)) g = old l (g - 1) := by
  induction l with
  | nil => rfl
  | cons p l ih =>
    unfold crsT at ih ⊢
    rw [List.map_cons, sm_cons, ih, old_cons]
    simp only
    by_cases c : p.1 < g
    · rw [if_pos (show p.1 ≤ g - 1 by omega)]; simp [c, hg]
    · rw [if_neg (show ¬ p.1 ≤ g - 1 by omega)]; simp [c]
theorem amt_b {k : Nat} {c : Int} {s : Swp} (h0 : ∀ p ∈ s.2, 0 ≤ p.2) (hc : 0 ≤ c) : 0 ≤ amt lim gs k c s ∧ amt lim gs k c s ≤ tot s.2 ∧ tot s.2 - c ≤ amt lim gs k c s ∧ expL lim gs k s.2 ≤ amt lim gs k c s := by
  have := exp_le (lim := lim) (gs := gs) (k := k) h0
  unfold amt
  omega
theorem tot_pos {l : List (Int × Int)} (h : ∀ p ∈ l, 0 ≤ p.2) : tot (posL l) = tot l := by
  unfold posL
  induction l with
  | nil => rfl
  | cons p l ih =>
    have ih := ih fun q hq => h q (List.mem_cons_of_mem _ hq)
    have h0 := h p List.mem_cons_self
    rw [List.filter_cons, tot_cons]
    by_cases c : 0 < p.2
    · simp only [c, decide_true, if_true]
      rw [tot_cons, ih]
    · simp only [c, decide_false, Bool.false_eq_true, if_false]
      rw [ih]
      omega
theorem tot_takeR : ∀ {l : List (Int × Int)} {a : Int}, (∀ p ∈ l, 0 ≤ p.2) → 0 ≤ a → tot (takeR l a) = max 0 (tot l - a)
  | [], a, _, ha => by simp [takeR]; omega
  | p :: r, a, h0, ha => by
    have hp := h0 p List.mem_cons_self
    have hr := fun q hq => h0 q (List.mem_cons_of_mem _ hq)
    have nr := tot_nn hr
    have ih := tot_takeR (a := a - min p.2 a) hr (by omega)
    rw [takeR, tot_cons, tot_cons, ih]
    simp only
    omega
theorem swOk (W : Wl N m lim gs) (C : CrOk lim gs cs) : ∀ k, k ≤ gs.length + 1 → SwOk lim gs cs k (sw lim gs cs k)
  | 0, _ => ⟨fun p h => (by cases h), fun p h => (by cases h), List.Pairwise.nil, rfl, fun p h => (by cases h), fun p h => (by cases h), fun p h => (by cases h), fun g h => (by omega)⟩
  | k + 1, hk => by
    have I := swOk W C k (by omega)
    rw [sw]
    generalize sw lim gs cs k = s at I
    have h0 : ∀ p ∈ s.2, 0 ≤ p.2 := fun p hp => Int.le_of_lt (I.pos p hp)
    have hc := C.nn k
    obtain ⟨a0, a1, a2, a3⟩ := amt_b (lim := lim) (gs := gs) (k := k) h0 hc
    unfold swS
    generalize amt lim gs k (cn cs k) s = a at a0 a1 a2 a3
    have nC := takeC_nn (a := a) h0 a0
    have nR := takeR_nn (a := a) h0 a0
    have tR : tot (posL (takeR s.2 a)) = tot s.2 - a := by rw [tot_pos nR, tot_takeR h0 a0]; omega
    have e1 : ((k + 1 : Nat) : Int) - 1 = k := by omega
    rw [tR]
    have upR : ∀ p ∈ posL (takeR s.2 a), -1 ≤ p.1 ∧ p.1 < (k : Int) - 1 := fun p hp => by
      obtain ⟨q, hq, e⟩ := takeR_mem (posL_mem hp).1
      have := I.up q hq
      omega
    have upC : ∀ p ∈ posL (takeC s.2 a), -1 ≤ p.1 ∧ p.1 < (k : Int) - 1 ∧ (k ≤ gs.length → wt gs ((k : Int) - 1) - wt gs p.1 ≤ lim) := fun p hp => by
      obtain ⟨q, hq, e⟩ := takeC_mem (posL_mem hp).1
      have := I.up q hq
      exact ⟨by omega, by omega, fun hk => by rw [← e]; exact I.mvo q hq hk⟩
    have new : ∀ p ∈ (if 0 < cn cs k - (tot s.2 - a) then [((k : Int) - 1, cn cs k - (tot s.2 - a))] else []), p.1 = (k : Int) - 1 ∧ 0 < p.2 ∧ 0 < cn cs k := fun p hp => by
      split at hp
      · simp at hp; subst hp; exact ⟨rfl, by simp only; omega, by omega⟩
      · cases hp
    refine ⟨fun p hp => ?_, fun p hp => ?_, ?_, ?_, fun p hp hk' => ?_, fun x hx => ?_, fun x hx => ?_, fun g hg => ?_⟩
    · rcases List.mem_append.mp hp with hp | hp
      · have := upR p hp; omega
      · have := new p hp; omega
    · rcases List.mem_append.mp hp with hp | hp
      · exact (posL_mem hp).2
      · exact (new p hp).2.1
    · refine List.pairwise_append.mpr ⟨posL_asc (asc_takeR I.asc), ?_, fun p hp q hq => ?_⟩
      · split <;> simp
      · have := upR p hp; have := new q hq; omega
    · rw [if_neg (Nat.succ_ne_zero k), e1, tot_app, tR]
      split
      · rw [tot_cons, tot_nil]; simp only; omega
      · rw [tot_nil]; omega
    · rw [e1]
      have hkn : k < gs.length := by omega
      rcases List.mem_append.mp hp with hp | hp
      · by_cases c : wt gs k - wt gs p.1 ≤ lim
        · exact c
        · have hm := posL_mem hp
          have h1 := old_mem nR hm.1 (Int.le_refl p.1)
          have hup := upR p hp
          have h2 : old s.2 p.1 ≤ expL lim gs k s.2 := by
            rw [exp_eq hkn, old_eq_tot]
            refine tot_filter_le h0 fun q hq hq1 => ?_
            have hq2 := I.up q hq
            have hq3 : q.1 ≤ p.1 := by simpa using hq1
            have := W.wt_mono hq2.1 hq3 (by omega)
            simp
            omega
          rw [old_takeR I.asc h0 a0] at h1
          have := hm.2
          omega
      · obtain ⟨n1, n2, n3⟩ := new p hp
        rw [n1]
        exact C.st k hkn n3
    · rcases List.mem_append.mp hx with hx | hx
      · exact I.fpos x hx
      · obtain ⟨p, hp, rfl⟩ := List.mem_map.mp hx
        exact (posL_mem hp).2
    · rw [e1]
      rcases List.mem_append.mp hx with hx | hx
      · have := I.fmv x hx
        exact ⟨this.1, by omega⟩
      · obtain ⟨p, hp, rfl⟩ := List.mem_map.mp hx
        have := upC p hp
        exact ⟨mem_allM.mpr ⟨this.1, this.2.1, by simp only; omega, this.2.2 (by omega)⟩, by simp only; omega⟩
    · rw [crs_app, old_app]
      by_cases c : g < k
      · have := I.cr g c
        rw [crs_closed (by omega), old_pos nC, old_pos nR]
        have e2 := old_take (l := s.2) (a := a) (u := (g : Int) - 1)
        have e3 : old (if 0 < cn cs k - (tot s.2 - a) then [((k : Int) - 1, cn cs k - (tot s.2 - a))] else []) ((g : Int) - 1) = 0 := old_none fun p hp => by have := new p hp; omega
        omega
      · have e : g = k := by omega
        subst e
        have z1 : crsT s.1 g = 0 := sm_zero fun x hx => by have := I.fmv x hx; simp; omega
        have z2 : crsT ((posL (takeC s.2 a)).map fun p => ((g : Int) - 1, p.1, p.2)) g = 0 := sm_zero fun x hx => by
          obtain ⟨p, hp, rfl⟩ := List.mem_map.mp hx
          simp
          omega
        have z3 : old (posL (takeR s.2 a)) ((g : Int) - 1) = tot s.2 - a := by rw [old_all fun p hp => by have := upR p hp; omega, tR]
        have z4 : old (if 0 < cn cs g - (tot s.2 - a) then [((g : Int) - 1, cn cs g - (tot s.2 - a))] else []) ((g : Int) - 1) = cn cs g - (tot s.2 - a) := by
          split
          · rw [old_cons]; simp
          · simp; omega
        omega
end
end WC
namespace WC
open WF PySem
open L2 (atI ixN)
section
variable {N : Nat} {m lim : Int} {gs : List (Int × Int)} {cs : List Int}
theorem tot3_app {l l' : List Tr} : tot3 (l ++ l') = tot3 l + tot3 l' := by simp [tot3]
theorem sw_cov (W : Wl N m lim gs) (C : CrOk lim gs cs) : Cov lim gs cs (sw lim gs cs (gs.length + 1)).1 := by
  have I := swOk W C (gs.length + 1) (Nat.le_refl _)
  have h0 : ∀ p ∈ (sw lim gs cs (gs.length + 1)).2, 0 ≤ p.2 := fun p hp => Int.le_of_lt (I.pos p hp)
  have ht : tot (sw lim gs cs (gs.length + 1)).2 = 0 := by
    rw [I.tt, if_neg (Nat.succ_ne_zero _)]
    have : ((gs.length + 1 : Nat) : Int) - 1 = (gs.length : Nat) := by omega
    rw [this]
    exact C.out (Nat.le_refl _)
  refine ⟨fun x hx => (I.fmv x hx).1, fun x hx => Int.le_of_lt (I.fpos x hx), fun g hg => ?_⟩
  have h1 := I.cr g (by omega)
  have h2 : old (sw lim gs cs (gs.length + 1)).2 ((g : Int) - 1) ≤ 0 := by
    rw [← ht]
    exact tot_filter_all h0
  have h3 := old_nn (u := (g : Int) - 1) h0
  omega
theorem Cov.sub (W : Wl N m lim gs) {l : List Tr} (L : Cov lim gs cs l) (C : CrOk lim gs cs) {k : Nat} (hk : k ≤ gs.length) : sm (fun x => decide (x.2.1 ≤ (k : Int) - 1)) l = sm (fun x => decide (x.1 ≤ (k : Int) - 1)) l + cn cs k := by
  have h1 := sm_split (p := fun x : Tr => decide (x.2.1 ≤ (k : Int) - 1)) (l := l) (fun x => decide (x.1 ≤ (k : Int) - 1))
  have h2 : sm (fun x : Tr => decide (x.2.1 ≤ (k : Int) - 1) && decide (x.1 ≤ (k : Int) - 1)) l = sm (fun x => decide (x.1 ≤ (k : Int) - 1)) l := sm_congr fun x hx => by
    have := mem_allM.mp (L.mv x hx)
    simp only at this
    by_cases c : x.1 ≤ (k : Int) - 1
    · have : x.2.1 ≤ (k : Int) - 1 := by omega
      simp [c, this]
    · simp [c]
  have h3 : sm (fun x : Tr => decide (x.2.1 ≤ (k : Int) - 1) && !decide (x.1 ≤ (k : Int) - 1)) l = crsT l k := sm_congr fun x hx => by
    have e1 : decide (x.2.1 ≤ (k : Int) - 1) = decide (x.2.1 < (k : Int)) := by simp only [decide_eq_decide]; omega
    have e2 : (!decide (x.1 ≤ (k : Int) - 1)) = decide ((k : Int) ≤ x.1) := by
      by_cases c : x.1 ≤ (k : Int) - 1
      · have : ¬ (k : Int) ≤ x.1 := by omega
        simp [c, this]
      · have : (k : Int) ≤ x.1 := by omega
        simp [c, this]
    rw [e1, e2]
  have h4 : crsT l k = cn cs k := by
    by_cases c : k < gs.length
    · exact L.cr k c
    · rw [C.out (by omega)]
      refine sm_zero fun x hx => ?_
      have := mem_allM.mp (L.mv x hx)
      simp only at this
      have : ¬ (k : Int) ≤ x.1 := by omega
      simp [this]
  omega
end
end WC
namespace WC
open WF PySem
open L2 (atI ixN)
section
variable {N : Nat} {m lim : Int} {gs : List (Int × Int)} {cs xs ys : List Int}
theorem crL_ok (h : obsL lim gs xs ys = []) : CrOk lim gs (crL lim gs xs ys) := by
  refine ⟨by simp, fun g => ?_, fun g hg hp => ?_⟩
  · by_cases hg : g < gs.length
    · rw [cn_crL hg]
      have := (obsL_nil.mp h g hg).1
      omega
    · have : (crL lim gs xs ys).length ≤ g := by simp; omega
      unfold cn
      rw [List.getD_eq_getElem?_getD, Int.toNat_natCast, List.getElem?_eq_none this]
      simp
  · rw [cn_crL hg] at hp
    have h2 := (obsL_nil.mp h g hg).2
    have hc : ¬ consB lim gs g = true := fun hc => by have := h2 hc; omega
    unfold consB at hc
    cases g with
    | zero =>
      simp [stt, grd] at hc
      have e : ((0 : Nat) : Int) - 1 < 0 := by omega
      have : wt gs (((0 : Nat) : Int) - 1) = 0 := by unfold wt; rw [if_pos e]
      rw [this]
      have : wt gs ((0 : Nat) : Int) = wt gs 0 := rfl
      omega
    | succ k =>
      simp at hc
      by_cases hs : wt gs ((k + 1 : Nat) : Int) - wt gs (k : Nat) ≤ lim
      · have : ((k + 1 : Nat) : Int) - 1 = (k : Nat) := by omega
        rw [this]; exact hs
      · exact absurd (by rw [stt, if_neg hs]) hc
theorem cn_ext {as bs : List Int} (hl : as.length = bs.length) (h : ∀ k : Nat, k < as.length → cn as k = cn bs k) : as = bs := by
  apply List.ext_getElem hl
  intro k h1 h2
  have := h k h1
  simpa [cn, h1, h2] using this
theorem ascM_ext {l l' : List (Int × Int)} (h : l.Pairwise fun a b => a.1 < b.1 ∨ (a.1 = b.1 ∧ a.2 < b.2)) (h' : l'.Pairwise fun a b => a.1 < b.1 ∨ (a.1 = b.1 ∧ a.2 < b.2)) (e : ∀ x, x ∈ l ↔ x ∈ l') : l = l' := by
  induction l generalizing l' with
  | nil =>
    cases l' with
    | nil => rfl
    | cons y l' => exact absurd ((e y).mpr List.mem_cons_self) (by simp)
  | cons x l ih =>
    cases l' with
    | nil => exact absurd ((e x).mp List.mem_cons_self) (by simp)
    | cons y l' =>
      rw [List.pairwise_cons] at h h'
      have hxy : x = y := by
        have a := (e x).mp List.mem_cons_self
        have b := (e y).mpr List.mem_cons_self
        rcases List.mem_cons.mp a with a | a
        · exact a
        · rcases List.mem_cons.mp b with b | b
          · exact b.symm
          · have p := h.1 y b
            have q := h'.1 x a
            omega
      subst hxy
      congr 1
      refine ih h.2 h'.2 fun z => ?_
      constructor
      · intro hz
        have p := h.1 z hz
        rcases List.mem_cons.mp ((e z).mp (List.mem_cons_of_mem _ hz)) with q | q
        · subst q; omega
        · exact q
      · intro hz
        have p := h'.1 z hz
        rcases List.mem_cons.mp ((e z).mpr (List.mem_cons_of_mem _ hz)) with q | q
        · subst q; omega
        · exact q
end
section
variable {N N2 : Nat} {m m2 lim : Int} {gs fs : List (Int × Int)} {xs ys us vs : List Int}
structure Far (lim : Int) (gs fs : List (Int × Int)) : Prop where
  ne : gs ≠ []
  far : ∀ i j : Nat, i < gs.length → j < fs.length → wt gs i + lim < wt fs j
  gr : ∀ j : Nat, j < fs.length → lim < wt fs j
theorem grp_app1 {k : Nat} (h : k < gs.length) : grp (gs ++ fs) k = grp gs k := by simp [grp, List.getElem?_append_left h]
theorem grp_app2 {k : Nat} : grp (gs ++ fs) ((gs.length + k : Nat) : Int) = grp fs k := by
  unfold grp
  rw [Int.toNat_natCast, Int.toNat_natCast, List.getD_eq_getElem?_getD, List.getD_eq_getElem?_getD, List.getElem?_append_right (by omega), Nat.add_sub_cancel_left]
theorem cn_app1 {k : Nat} (h : k < xs.length) : cn (xs ++ ys) k = cn xs k := by simp [cn, List.getElem?_append_left h]
theorem cn_app2 {k : Nat} : cn (xs ++ ys) ((xs.length + k : Nat) : Int) = cn ys k := by
  unfold cn
  rw [Int.toNat_natCast, Int.toNat_natCast, List.getD_eq_getElem?_getD, List.getD_eq_getElem?_getD, List.getElem?_append_right (by omega), Nat.add_sub_cancel_left]
theorem cn_app2' {k n : Nat} (h : xs.length = n) : cn (xs ++ ys) ((n + k : Nat) : Int) = cn ys k := by subst h; exact cn_app2
theorem wt_app1 {k : Int} (h : k < gs.length) : wt (gs ++ fs) k = wt gs k := by
  unfold wt
  by_cases c : k < 0
  · rw [if_pos c, if_pos c]
  · rw [if_neg c, if_neg c]
    obtain ⟨n, rfl⟩ := Int.eq_ofNat_of_zero_le (show 0 ≤ k by omega)
    rw [grp_app1 (by omega)]
theorem wt_app2 {k : Nat} : wt (gs ++ fs) ((gs.length + k : Nat) : Int) = wt fs k := by rw [wt_nat, wt_nat, grp_app2]
theorem stt_app1 : ∀ {k : Nat}, k < gs.length → stt lim (gs ++ fs) k = stt lim gs k
  | 0, _ => rfl
  | k + 1, h => by
    rw [stt, stt, wt_app1 (by omega), wt_app1 (by omega), stt_app1 (by omega)]
theorem Far.stt2 (F : Far lim gs fs) : ∀ {k : Nat}, k < fs.length → stt lim (gs ++ fs) (gs.length + k) = gs.length + stt lim fs k
  | 0, h => by
    have hn : 0 < gs.length := List.length_pos_iff.mpr F.ne
    obtain ⟨n, hn⟩ : ∃ n, gs.length = n + 1 := ⟨gs.length - 1, by omega⟩
    have f := F.far n 0 (by omega) h
    have e1 : wt (gs ++ fs) ((n + 1 : Nat) : Int) = wt fs (0 : Nat) := by
      have := wt_app2 (gs := gs) (fs := fs) (k := 0)
      rwa [Nat.add_zero, hn] at this
    have e2 : wt (gs ++ fs) (n : Nat) = wt gs n := wt_app1 (by omega)
    have e3 : stt lim (gs ++ fs) (n + 1) = n + 1 := by
      rw [stt, e1, e2, if_neg (by omega)]
    rw [Nat.add_zero, hn, e3]
    rfl
  | k + 1, h => by
    have ih := F.stt2 (k := k) (by omega)
    have e1 := wt_app2 (gs := gs) (fs := fs) (k := k + 1)
    have e2 := wt_app2 (gs := gs) (fs := fs) (k := k)
    rw [← Nat.add_assoc] at e1 ⊢
    rw [stt, stt, e1, e2, ih]
    split <;> rfl
theorem Far.consB1 (F : Far lim gs fs) {k : Nat} (h : k < gs.length) : consB lim (gs ++ fs) k = consB lim gs k := by
  have : grd lim (gs ++ fs) = grd lim gs := by unfold grd; rw [wt_app1 (by omega)]
  unfold consB
  rw [stt_app1 h, this]
theorem Far.grd2 (F : Far lim gs fs) (h : fs ≠ []) : grd lim fs = false := by
  unfold grd
  have := F.gr 0 (List.length_pos_iff.mpr h)
  have e : wt fs ((0 : Nat) : Int) = wt fs 0 := rfl
  simp; omega
theorem Far.consB2 (F : Far lim gs fs) {k : Nat} (h : k < fs.length) : consB lim (gs ++ fs) (gs.length + k) = consB lim fs k := by
  have hn : 0 < gs.length := List.length_pos_iff.mpr F.ne
  have g2 := F.grd2 (List.ne_nil_of_length_pos (by omega))
  unfold consB
  rw [F.stt2 h, g2]
  have e1 : decide (gs.length + stt lim fs k = gs.length + k) = decide (stt lim fs k = k) := by simp
  have e2 : decide (0 < gs.length + k) = true := by simp; omega
  rw [e1, e2]
  simp
theorem Far.suf2 (F : Far lim gs fs) (hx : xs.length = gs.length) : ∀ (r k : Nat), k + r = fs.length → 0 < r → suf lim (gs ++ fs) (xs ++ ys) (gs.length + k) = suf lim fs ys k
  | 0, k, _, h => absurd h (by omega)
  | r + 1, k, hk, _ => by
    rw [suf_rec (by rw [List.length_append]; omega), suf_rec (by omega), cn_app2' hx]
    congr 1
    unfold nxt
    rw [List.length_append]
    by_cases c : k + 1 < fs.length
    · have e1 := F.stt2 (k := k + 1) c
      rw [← Nat.add_assoc] at e1
      have ih := F.suf2 hx r (k + 1) (by omega) (by omega)
      rw [← Nat.add_assoc] at ih
      rw [F.stt2 (by omega), e1, ih]
      by_cases d : stt lim fs (k + 1) = stt lim fs k
      · rw [if_pos ⟨by omega, by omega⟩, if_pos ⟨c, d⟩]
      · rw [if_neg (fun h => d (by omega)), if_neg (fun h => d h.2)]
    · rw [if_neg (fun h => c (by omega)), if_neg (fun h => c h.1)]
theorem Far.suf1 (F : Far lim gs fs) (hx : xs.length = gs.length) : ∀ (r k : Nat), k + r = gs.length → 0 < r → suf lim (gs ++ fs) (xs ++ ys) k = suf lim gs xs k
  | 0, k, _, h => absurd h (by omega)
  | r + 1, k, hk, _ => by
    rw [suf_rec (by rw [List.length_append]; omega), suf_rec (by omega), cn_app1 (by omega)]
    congr 1
    unfold nxt
    rw [List.length_append]
    by_cases c : k + 1 < gs.length
    · have ih := F.suf1 hx r (k + 1) (by omega) (by omega)
      rw [stt_app1 c, stt_app1 (by omega), ih]
      by_cases d : stt lim gs (k + 1) = stt lim gs k
      · rw [if_pos ⟨by omega, d⟩, if_pos ⟨c, d⟩]
      · rw [if_neg (fun h => d h.2), if_neg (fun h => d h.2)]
    · rw [if_neg (fun h => ?_), if_neg (fun h => c h.1)]
      have e : k + 1 = gs.length := by omega
      have s := F.stt2 (k := 0) (by omega)
      rw [Nat.add_zero, ← e] at s
      have s2 := stt_le (lim := lim) (gs := gs ++ fs) k
      have s3 : stt lim fs 0 = 0 := rfl
      omega
theorem Far.sufA (F : Far lim gs fs) (hx : xs.length = gs.length) {k : Nat} (h : k < gs.length) : suf lim (gs ++ fs) (xs ++ ys) k = suf lim gs xs k := F.suf1 hx (gs.length - k) k (by omega) (by omega)
theorem Far.sufB (F : Far lim gs fs) (hx : xs.length = gs.length) {k : Nat} (h : k < fs.length) : suf lim (gs ++ fs) (xs ++ ys) (gs.length + k) = suf lim fs ys k := F.suf2 hx (fs.length - k) k (by omega) (by omega)
theorem range_add {n k : Nat} : List.range (n + k) = List.range n ++ (List.range k).map (n + ·) := by
  rw [List.range_add]
theorem map_app {α : Type} {f : Nat → α} {g h : Nat → α} {n k : Nat} (h1 : ∀ i, i < n → f i = g i) (h2 : ∀ i, i < k → f (n + i) = h i) : (List.range (n + k)).map f = (List.range n).map g ++ (List.range k).map h := by
  rw [range_add, List.map_append, List.map_map]
  congr 1
  · exact List.map_congr_left fun i hi => h1 i (List.mem_range.mp hi)
  · exact List.map_congr_left fun i hi => h2 i (List.mem_range.mp hi)
theorem Far.sufL (F : Far lim gs fs) (hx : xs.length = gs.length) : sufL lim (gs ++ fs) (xs ++ ys) = sufL lim gs xs ++ sufL lim fs ys := by
  unfold WC.sufL
  rw [List.length_append]
  exact map_app (fun i hi => F.sufA hx hi) fun i hi => F.sufB hx hi
theorem Far.crL (F : Far lim gs fs) (hx : xs.length = gs.length) (hu : us.length = gs.length) : crL lim (gs ++ fs) (xs ++ ys) (us ++ vs) = crL lim gs xs us ++ crL lim fs ys vs := by
  unfold WC.crL
  rw [List.length_append]
  exact map_app (fun i hi => by rw [F.sufA hx hi, F.sufA hu hi]) fun i hi => by rw [F.sufB hx hi, F.sufB hu hi]
def shM (n : Nat) (p : Int × Int) : Int × Int := (p.1 + n, p.2 + n)
theorem Far.mem_all (F : Far lim gs fs) (W : Wl N m lim gs) {p : Int × Int} : p ∈ allM lim (gs ++ fs) ↔ p ∈ allM lim gs ∨ ∃ q ∈ allM lim fs, p = shM gs.length q := by
  rw [mem_allM, mem_allM, List.length_append]
  obtain ⟨d, u⟩ := p
  simp only
  constructor
  · rintro ⟨h1, h2, h3, h4⟩
    by_cases c : d < gs.length
    · left
      rw [wt_app1 c, wt_app1 (by omega)] at h4
      exact ⟨h1, h2, c, h4⟩
    · right
      obtain ⟨k, hk⟩ := Int.eq_ofNat_of_zero_le (show 0 ≤ d - gs.length by omega)
      have ed : d = ((gs.length + k : Nat) : Int) := by omega
      subst ed
      have hkl : k < fs.length := by omega
      rw [wt_app2] at h4
      by_cases c2 : u < gs.length
      · exfalso
        rw [wt_app1 c2] at h4
        by_cases c3 : u < 0
        · have : wt gs u = 0 := by unfold wt; rw [if_pos c3]
          have := F.gr k hkl
          omega
        · obtain ⟨i, rfl⟩ := Int.eq_ofNat_of_zero_le (show 0 ≤ u by omega)
          have := F.far i k (by omega) hkl
          omega
      · obtain ⟨j, hj⟩ := Int.eq_ofNat_of_zero_le (show 0 ≤ u - gs.length by omega)
        have eu : u = ((gs.length + j : Nat) : Int) := by omega
        subst eu
        rw [wt_app2] at h4
        refine ⟨((k : Nat), (j : Nat)), mem_allM.mpr ⟨by simp only; omega, by simp only; omega, by simp only; omega, h4⟩, ?_⟩
        simp only [shM, Prod.mk.injEq]
        omega
  · rintro (⟨h1, h2, h3, h4⟩ | ⟨q, hq, e⟩)
    · refine ⟨h1, h2, by omega, ?_⟩
      rw [wt_app1 h3, wt_app1 (by omega)]
      exact h4
    · obtain ⟨a, b⟩ := q
      simp only [shM, Prod.mk.injEq] at e
      obtain ⟨e1, e2⟩ := e
      obtain ⟨h1, h2, h3, h4⟩ := mem_allM.mp hq
      simp only at h1 h2 h3 h4
      obtain ⟨k, rfl⟩ := Int.eq_ofNat_of_zero_le (show 0 ≤ a by omega)
      by_cases c : b < 0
      · exfalso
        have : wt fs b = 0 := by unfold wt; rw [if_pos c]
        have := F.gr k (by omega)
        omega
      · obtain ⟨j, rfl⟩ := Int.eq_ofNat_of_zero_le (show 0 ≤ b by omega)
        have e1' : d = ((gs.length + k : Nat) : Int) := by omega
        have e2' : u = ((gs.length + j : Nat) : Int) := by omega
        subst e1' e2'
        rw [wt_app2, wt_app2]
        exact ⟨by omega, by omega, by omega, h4⟩
theorem Far.allM (F : Far lim gs fs) (W : Wl N m lim gs) : allM lim (gs ++ fs) = allM lim gs ++ (allM lim fs).map (shM gs.length) := by
  refine ascM_ext allM_sorted ?_ fun p => ?_
  · rw [List.pairwise_append]
    refine ⟨allM_sorted, ?_, ?_⟩
    · rw [List.pairwise_map]
      exact allM_sorted.imp fun h => by simp only [shM]; omega
    · intro a ha b hb
      obtain ⟨q, hq, rfl⟩ := List.mem_map.mp hb
      have h1 := mem_allM.mp ha
      have h2 := mem_allM.mp hq
      simp only [shM]
      omega
  · rw [F.mem_all W, List.mem_append, List.mem_map]
    constructor
    · rintro (h | ⟨q, h, e⟩)
      · exact .inl h
      · exact .inr ⟨q, h, e.symm⟩
    · rintro (h | ⟨q, h, e⟩)
      · exact .inl h
      · exact .inr ⟨q, h, e.symm⟩
theorem Far.up2 (F : Far lim gs fs) {p : Int × Int} (h : p ∈ WC.allM lim fs) : 0 ≤ p.2 := by
  have h1 := mem_allM.mp h
  by_cases c : p.2 < 0
  · exfalso
    have : wt fs p.2 = 0 := by unfold wt; rw [if_pos c]
    obtain ⟨k, hk⟩ := Int.eq_ofNat_of_zero_le (show 0 ≤ p.1 by omega)
    have := F.gr k (by omega)
    rw [hk] at h1
    omega
  · omega
theorem Far.legM (F : Far lim gs fs) (W : Wl N m lim gs) (hx : xs.length = gs.length) : legM lim (gs ++ fs) (xs ++ ys) = legM lim gs xs ++ (legM lim fs ys).map (shM gs.length) := by
  unfold WC.legM
  rw [F.allM W, List.filter_append, List.filter_map]
  congr 1
  · refine List.filter_congr fun p hp => ?_
    have h1 := mem_allM.mp hp
    obtain ⟨d, u⟩ := p
    simp only at h1
    obtain ⟨k, rfl⟩ := Int.eq_ofNat_of_zero_le (show 0 ≤ d by omega)
    unfold legB
    simp only
    rw [cn_app1 (by omega), grp_app1 (by omega)]
    congr 1
    by_cases c : u < 0
    · simp [c]
    · obtain ⟨j, rfl⟩ := Int.eq_ofNat_of_zero_le (show 0 ≤ u by omega)
      rw [cn_app1 (by omega)]
  · refine congrArg (List.map _) (List.filter_congr fun p hp => ?_)
    have h1 := mem_allM.mp hp
    have h2 := F.up2 hp
    obtain ⟨d, u⟩ := p
    simp only at h1 h2
    obtain ⟨k, rfl⟩ := Int.eq_ofNat_of_zero_le (show 0 ≤ d by omega)
    obtain ⟨j, rfl⟩ := Int.eq_ofNat_of_zero_le (show 0 ≤ u by omega)
    show legB (gs ++ fs) (xs ++ ys) (shM gs.length ((k : Int), (j : Int))) = legB fs ys ((k : Int), (j : Int))
    have e0 : shM gs.length ((k : Int), (j : Int)) = (((gs.length + k : Nat) : Int), ((gs.length + j : Nat) : Int)) := by simp only [shM, Prod.mk.injEq]; omega
    rw [e0]
    unfold legB
    simp only
    rw [cn_app2' hx, cn_app2' hx, grp_app2]
    have e3 : decide (((gs.length + j : Nat) : Int) < 0) = false := by simp; omega
    have e4 : decide ((j : Int) < 0) = false := by simp only [decide_eq_false_iff_not]; omega
    rw [e3, e4]
theorem segP_app1 : ∀ {k : Nat}, k ≤ gs.length → segP lim (gs ++ fs) k = segP lim gs k
  | 0, _ => rfl
  | k + 1, h => by
    rw [segP, segP, stt_app1 (by omega), segP_app1 (by omega)]
def shL (n : Nat) (l : List Int) : List Int := l.map fun k => k + n
theorem Far.segP2 (F : Far lim gs fs) : ∀ {k : Nat}, k ≤ fs.length → segP lim (gs ++ fs) (gs.length + k) = segP lim gs gs.length ++ (segP lim fs k).map (shL gs.length)
  | 0, _ => by rw [Nat.add_zero, segP_app1 (Nat.le_refl _), segP]; simp
  | k + 1, h => by
    have ih := F.segP2 (k := k) (by omega)
    rw [← Nat.add_assoc, segP, F.stt2 (by omega), ih, segP]
    by_cases c : stt lim fs k = k
    · rw [if_pos (by omega), if_pos c, List.map_append, ← List.append_assoc]
      congr 1
      simp [shL]
      omega
    · rw [if_neg (by omega), if_neg c]
      have hk : 0 < k := by
        cases k with
        | zero => exact absurd rfl c
        | succ k => omega
      have hne := (segP_ok (lim := lim) (gs := fs) k).1 hk
      have hp := List.length_pos_iff.mpr hne
      have e1 : (segP lim gs gs.length ++ (segP lim fs k).map (shL gs.length)).length - 1 = (segP lim gs gs.length).length + ((segP lim fs k).length - 1) := by
        rw [List.length_append, List.length_map]; omega
      rw [e1, List.set_append_right _ _ (by omega), Nat.add_sub_cancel_left]
      congr 1
      rw [List.map_set]
      congr 1
      rw [List.getD_eq_getElem?_getD, List.getElem?_append_right (by omega), Nat.add_sub_cancel_left, List.getElem?_map, List.getD_eq_getElem?_getD]
      have hlt : (segP lim fs k).length - 1 < (segP lim fs k).length := by omega
      rw [List.getElem?_eq_getElem hlt]
      simp [shL]
      omega
theorem Far.segL (F : Far lim gs fs) : segL lim (gs ++ fs) = segL lim gs ++ (segL lim fs).map (shL gs.length) := by
  unfold WC.segL
  rw [List.length_append]
  exact F.segP2 (Nat.le_refl _)
theorem full_app : fullL (gs ++ fs) = fullL gs ++ fullL fs := by simp [fullL]
theorem Far.trC1 (F : Far lim gs fs) (hx : xs.length = gs.length) {k : Nat} (h : k < gs.length) : trC lim (gs ++ fs) (xs ++ ys) k = trC lim gs xs k := by
  have hs := stt_le (lim := lim) (gs := gs) k
  unfold trC totS
  rw [stt_app1 h, full_app, F.sufA (by simp) h, F.sufA (by simp) (by omega), F.sufA hx (by omega)]
  have : grd lim (gs ++ fs) = grd lim gs := by unfold grd; rw [wt_app1 (by have := List.length_pos_iff.mpr F.ne; omega)]
  rw [this]
theorem Far.trC2 (F : Far lim gs fs) (hx : xs.length = gs.length) {k : Nat} (h : k < fs.length) : trC lim (gs ++ fs) (xs ++ ys) (gs.length + k) = trC lim fs ys k := by
  have hs := stt_le (lim := lim) (gs := fs) k
  have g2 := F.grd2 (List.ne_nil_of_length_pos (by omega))
  have hn : 0 < gs.length := List.length_pos_iff.mpr F.ne
  unfold trC totS
  rw [F.stt2 h, full_app, F.sufB (by simp) h, F.sufB (by simp) (by omega), F.sufB hx (by omega), g2, if_neg (by omega), if_neg (by simp)]
theorem Far.trL (F : Far lim gs fs) (hx : xs.length = gs.length) : trL lim (gs ++ fs) (xs ++ ys) = trL lim gs xs ++ trL lim fs ys := by
  refine cn_ext (by simp) fun k hk => ?_
  rw [trL_len, List.length_append] at hk
  rw [cn_trL (by rw [List.length_append]; exact hk), List.length_append]
  by_cases c : k < gs.length
  · rw [cn_app1 (by simpa using c), cn_trL c, F.trC1 hx c]
    by_cases c1 : k + 1 < gs.length
    · rw [F.trC1 hx c1, stt_app1 c1, stt_app1 c]
      congr 1
      by_cases d : stt lim gs (k + 1) = stt lim gs k
      · rw [if_pos ⟨by omega, d⟩, if_pos ⟨c1, d⟩]
      · rw [if_neg (fun h => d h.2), if_neg (fun h => d h.2)]
    · have e : k + 1 = gs.length := by omega
      congr 1
      rw [if_neg (fun h => ?_), if_neg (fun h => c1 h.1)]
      have s := F.stt2 (k := 0) (by omega)
      rw [Nat.add_zero, ← e] at s
      have s2 := stt_le (lim := lim) (gs := gs ++ fs) k
      have s3 : stt lim fs 0 = 0 := rfl
      omega
  · obtain ⟨j, rfl⟩ : ∃ j, k = gs.length + j := ⟨k - gs.length, by omega⟩
    rw [cn_app2' (by simp), cn_trL (by omega), F.trC2 hx (by omega)]
    congr 1
    by_cases c1 : j + 1 < fs.length
    · have e1 := F.stt2 (k := j + 1) c1
      have e2 := F.trC2 (ys := ys) hx (k := j + 1) c1
      rw [← Nat.add_assoc] at e1 e2
      rw [e1, e2, F.stt2 (by omega)]
      by_cases d : stt lim fs (j + 1) = stt lim fs j
      · rw [if_pos ⟨by omega, by omega⟩, if_pos ⟨c1, d⟩]
      · rw [if_neg (fun h => d (by omega)), if_neg (fun h => d h.2)]
    · rw [if_neg (fun h => c1 (by omega)), if_neg (fun h => c1 h.1)]
theorem Far.jn (F : Far lim gs fs) {j : Bool} (hx : xs.length = gs.length) (hu : us.length = gs.length) : jn lim (gs ++ fs) j (xs ++ ys) (us ++ vs) = jn lim gs j xs us ++ jn lim fs j ys vs := by
  refine suf_inj (lim := lim) (gs := gs ++ fs) jn_len (by simp) fun k hk => ?_
  rw [suf_jn hk]
  rw [List.length_append] at hk
  by_cases c : k < gs.length
  · rw [F.sufA hx c, F.sufA hu c, F.sufA jn_len c, suf_jn c]
  · obtain ⟨i, rfl⟩ : ∃ i, k = gs.length + i := ⟨k - gs.length, by omega⟩
    rw [F.sufB hx (by omega), F.sufB hu (by omega), F.sufB jn_len (by omega), suf_jn (by omega)]
theorem fmap_congr {α β : Type} {f g : α → Option β} : ∀ {l : List α}, (∀ x ∈ l, f x = g x) → l.filterMap f = l.filterMap g
  | [], _ => rfl
  | x :: l, h => by
    have ih := fmap_congr (l := l) fun y hy => h y (List.mem_cons_of_mem _ hy)
    rw [List.filterMap_cons, List.filterMap_cons, h x List.mem_cons_self, ih]
def shO (n : Nat) (p : Bool × Int) : Bool × Int := (p.1, p.2 + n)
theorem Far.obsL (F : Far lim gs fs) (hx : xs.length = gs.length) (hu : us.length = gs.length) : obsL lim (gs ++ fs) (xs ++ ys) (us ++ vs) = obsL lim gs xs us ++ (obsL lim fs ys vs).map (shO gs.length) := by
  unfold WC.obsL obsP
  rw [List.length_append, range_add, List.filterMap_append, List.filterMap_map, List.map_filterMap]
  congr 1
  · refine fmap_congr fun k hk => ?_
    have c := List.mem_range.mp hk
    unfold obAt
    rw [F.sufA hx c, F.sufA hu c, F.consB1 c]
  · refine fmap_congr fun k hk => ?_
    have c := List.mem_range.mp hk
    simp only [Function.comp]
    unfold obAt
    rw [F.sufB hx c, F.sufB hu c, F.consB2 c]
    split
    · simp [shO]; omega
    · split
      · simp [shO]; omega
      · rfl
end
end WC
namespace WC
open WF PySem
open L2 (atI ixN)
section
variable {N : Nat} {m lim : Int} {gs : List (Int × Int)} {xs ys : List Int} {l : List Tr}
def dnT (l : List Tr) (g : Int) : Int := sm (fun x => decide (x.1 = g)) l
def upT (l : List Tr) (g : Int) : Int := sm (fun x => decide (x.2.1 = g)) l
theorem exists_min {α : Type} (f : α → Int) : ∀ {l : List α}, l ≠ [] → ∃ x ∈ l, ∀ y ∈ l, f x ≤ f y
  | [x], _ => ⟨x, by simp, by simp⟩
  | x :: y :: l, _ => by
    obtain ⟨z, hz, h⟩ := exists_min f (l := y :: l) (by simp)
    by_cases c : f x ≤ f z
    · refine ⟨x, by simp, fun w hw => ?_⟩
      rcases List.mem_cons.mp hw with rfl | hw
      · exact Int.le_refl _
      · exact Int.le_trans c (h w hw)
    · refine ⟨z, List.mem_cons_of_mem _ hz, fun w hw => ?_⟩
      rcases List.mem_cons.mp hw with rfl | hw
      · omega
      · exact h w hw
theorem sm_pos {p : Tr → Bool} (h0 : ∀ x ∈ l, 0 ≤ x.2.2) (h : 0 < sm p l) : ∃ x ∈ l, p x = true ∧ 0 < x.2.2 := by
  induction l with
  | nil => simp at h
  | cons x l ih =>
    rw [sm_cons] at h
    by_cases c : p x = true ∧ 0 < x.2.2
    · exact ⟨x, List.mem_cons_self, c⟩
    · have hx := h0 x List.mem_cons_self
      have : 0 < sm p l := by
        split at h
        · rename_i hp
          have : ¬ 0 < x.2.2 := fun z => c ⟨hp, z⟩
          omega
        · omega
      obtain ⟨y, hy, e⟩ := ih (fun z hz => h0 z (List.mem_cons_of_mem _ hz)) this
      exact ⟨y, List.mem_cons_of_mem _ hy, e⟩
theorem sm_mem_le {p : Tr → Bool} {x : Tr} (h0 : ∀ x ∈ l, 0 ≤ x.2.2) (hx : x ∈ l) (hp : p x = true) : x.2.2 ≤ sm p l := by
  induction l with
  | nil => cases hx
  | cons y l ih =>
    rw [sm_cons]
    have hy := h0 y List.mem_cons_self
    have hn : 0 ≤ sm p l := by
      have := sm_le (l := l) (p := fun _ => false) (q := p) (fun z hz => h0 z (List.mem_cons_of_mem _ hz)) (fun z _ h => by cases h)
      rw [sm_zero (fun _ _ => rfl)] at this
      exact this
    rcases List.mem_cons.mp hx with rfl | hx
    · rw [if_pos hp]; omega
    · have := ih (fun z hz => h0 z (List.mem_cons_of_mem _ hz)) hx
      split <;> omega
theorem crs_step (hm : ∀ x ∈ l, x.2.1 < x.1) {g : Int} : crsT l g - crsT l (g + 1) = dnT l g - upT l g := by
  unfold crsT dnT upT
  have a1 := sm_split (p := fun x : Tr => decide (x.2.1 < g) && decide (g ≤ x.1)) (l := l) (fun x => decide (x.1 = g))
  have a2 := sm_split (p := fun x : Tr => decide (x.2.1 < g + 1) && decide (g + 1 ≤ x.1)) (l := l) (fun x => decide (x.2.1 = g))
  have e1 : sm (fun x : Tr => (decide (x.2.1 < g) && decide (g ≤ x.1)) && decide (x.1 = g)) l = sm (fun x => decide (x.1 = g)) l := sm_congr fun x hx => by
    have := hm x hx
    by_cases c : x.1 = g
    · have c1 : x.2.1 < g := by omega
      have c2 : g ≤ x.1 := by omega
      simp [c, c1]
    · simp [c]
  have e2 : sm (fun x : Tr => (decide (x.2.1 < g + 1) && decide (g + 1 ≤ x.1)) && decide (x.2.1 = g)) l = sm (fun x => decide (x.2.1 = g)) l := sm_congr fun x hx => by
    have := hm x hx
    by_cases c : x.2.1 = g
    · have c1 : x.2.1 < g + 1 := by omega
      have c2 : g + 1 ≤ x.1 := by omega
      simp [c, c2]; omega
    · simp [c]
  have e3 : sm (fun x : Tr => (decide (x.2.1 < g) && decide (g ≤ x.1)) && !decide (x.1 = g)) l = sm (fun x : Tr => (decide (x.2.1 < g + 1) && decide (g + 1 ≤ x.1)) && !decide (x.2.1 = g)) l := sm_congr fun x hx => by
    rw [Bool.eq_iff_iff]
    simp
    omega
  omega
theorem Cov.net (hx : xs.length = gs.length) (hy : ys.length = gs.length) (ho : obsL lim gs xs ys = []) (L : Cov lim gs (crL lim gs xs ys) l) {g : Nat} (hg : g < gs.length) : cn ys g - cn xs g = dnT l g - upT l g := by
  have hm : ∀ x ∈ l, x.2.1 < x.1 := fun x h => by have := mem_allM.mp (L.mv x h); simp only at this; omega
  rw [← crs_step hm]
  have r1 := suf_rec (lim := lim) (xs := xs) hg
  have r2 := suf_rec (lim := lim) (xs := ys) hg
  have c1 := L.cr g hg
  rw [cn_crL hg] at c1
  have e : ((g : Int) + 1) = ((g + 1 : Nat) : Int) := by omega
  rw [e]
  unfold nxt at r1 r2
  by_cases c : g + 1 < gs.length
  · have c2 := L.cr (g + 1) c
    rw [cn_crL c] at c2
    by_cases d : stt lim gs (g + 1) = stt lim gs g
    · rw [if_pos ⟨c, d⟩] at r1 r2
      omega
    · rw [if_neg (fun z => d z.2)] at r1 r2
      have hc : consB lim gs (g + 1) = true := by
        unfold consB
        have : stt lim gs (g + 1) = g + 1 := stt_up.resolve_left d
        rw [this]
        simp
      have := (obsL_nil.mp ho (g + 1) c).2 hc
      omega
  · rw [if_neg (fun z => c z.1)] at r1 r2
    have : crsT l ((g + 1 : Nat) : Int) = 0 := sm_zero fun x h => by
      have := mem_allM.mp (L.mv x h)
      simp only at this
      simp; omega
    omega
theorem Cov.legal (W : Wl N m lim gs) (hx : StOk gs xs) (hy : StOk gs ys) (ho : obsL lim gs xs ys = []) (L : Cov lim gs (crL lim gs xs ys) l) (hp : ∀ x ∈ l, 0 < x.2.2) (hne : l ≠ []) : ∃ x ∈ l, (x.1, x.2.1) ∈ legM lim gs xs := by
  have key : ∀ x ∈ l, -1 ≤ x.2.1 ∧ x.2.1 < x.1 ∧ x.1 < gs.length ∧ wt gs x.1 - wt gs x.2.1 ≤ lim := fun x h => mem_allM.mp (L.mv x h)
  have hA : (l.filter fun x => decide (x.2.1 < 0 ∨ 0 < cn xs x.2.1)) ≠ [] := by
    obtain ⟨x, h1, h2⟩ := exists_min (fun x : Tr => x.2.1) hne
    refine List.ne_nil_of_mem (a := x) (List.mem_filter.mpr ⟨h1, ?_⟩)
    simp only [decide_eq_true_eq]
    have kx := key x h1
    by_cases c : x.2.1 < 0
    · exact .inl c
    · right
      obtain ⟨g, hg⟩ := Int.eq_ofNat_of_zero_le (show 0 ≤ x.2.1 by omega)
      have hgl : g < gs.length := by omega
      have n := L.net hx.len hy.len ho hgl
      have b1 := hx.at (k := (g : Int)) (by omega) (by omega)
      have b2 := hy.at (k := (g : Int)) (by omega) (by omega)
      have b3 := sm_mem_le (p := fun y => decide (y.2.1 = (g : Int))) L.nn h1 (by simp; exact hg)
      have b4 := hp x h1
      rw [hg]
      by_cases d : 0 < cn xs (g : Int)
      · exact d
      · exfalso
        have : 0 < dnT l g := by unfold upT at n; omega
        obtain ⟨y, hy1, hy2, _⟩ := sm_pos L.nn this
        have ky := key y hy1
        have := h2 y hy1
        simp only [decide_eq_true_eq] at hy2
        omega
  obtain ⟨x, h1, h2⟩ := exists_min (fun x : Tr => -x.1) hA
  obtain ⟨hxl, hxa⟩ := List.mem_filter.mp h1
  simp only [decide_eq_true_eq] at hxa
  refine ⟨x, hxl, mem_legM.mpr ⟨key x hxl, ?_, hxa⟩⟩
  have kx := key x hxl
  simp only
  obtain ⟨g, hg⟩ := Int.eq_ofNat_of_zero_le (show 0 ≤ x.1 by omega)
  have hgl : g < gs.length := by omega
  have n := L.net hx.len hy.len ho hgl
  have b1 := hx.at (k := (g : Int)) (by omega) (by omega)
  have b2 := hy.at (k := (g : Int)) (by omega) (by omega)
  have b3 := sm_mem_le (p := fun y => decide (y.1 = (g : Int))) L.nn hxl (by simp; exact hg)
  have b4 := hp x hxl
  have b5 := W.size (k := (g : Int)) (by omega) (by omega)
  rw [hg]
  by_cases d : cn xs (g : Int) < (grp gs (g : Int)).2
  · exact d
  · exfalso
    have : 0 < upT l g := by unfold dnT at n; omega
    obtain ⟨y, hy1, hy2, _⟩ := sm_pos L.nn this
    have ky := key y hy1
    simp only [decide_eq_true_eq] at hy2
    have := h2 y (List.mem_filter.mpr ⟨hy1, by simp only [decide_eq_true_eq]; right; rw [hy2]; omega⟩)
    omega
def dec1 (l : List Tr) (x : Tr) : List Tr := match l with
  | [] => []
  | y :: r => if y = x then (y.1, y.2.1, y.2.2 - 1) :: r else y :: dec1 r x
theorem sm_dec {p : Tr → Bool} {x : Tr} (hp : ∀ a b c c', p (a, b, c) = p (a, b, c')) : ∀ {l : List Tr}, x ∈ l → sm p (dec1 l x) = sm p l - (if p x = true then 1 else 0)
  | [], h => by cases h
  | y :: r, h => by
    rw [dec1]
    by_cases c : y = x
    · subst c
      rw [if_pos rfl, sm_cons, sm_cons]
      have : p (y.1, y.2.1, y.2.2 - 1) = p y := hp _ _ _ _
      rw [this]
      simp only
      split <;> omega
    · rw [if_neg c, sm_cons, sm_cons, sm_dec hp ((List.mem_cons.mp h).resolve_left (fun e => c e.symm))]
      omega
theorem dec_mem {x z : Tr} : ∀ {l : List Tr}, z ∈ dec1 l x → z ∈ l ∨ z = (x.1, x.2.1, x.2.2 - 1)
  | [], h => by cases h
  | y :: r, h => by
    rw [dec1] at h
    by_cases c : y = x
    · rw [if_pos c] at h
      rcases List.mem_cons.mp h with e | h
      · right; rw [e, c]
      · exact .inl (List.mem_cons_of_mem _ h)
    · rw [if_neg c] at h
      rcases List.mem_cons.mp h with e | h
      · exact .inl (by rw [e]; exact List.mem_cons_self)
      · rcases dec_mem h with h | h
        · exact .inl (List.mem_cons_of_mem _ h)
        · exact .inr h
theorem Cov.pos (L : Cov lim gs cs l) : Cov lim gs cs (l.filter fun x => decide (0 < x.2.2)) ∧ tot3 (l.filter fun x => decide (0 < x.2.2)) = tot3 l := by
  have key : ∀ p : Tr → Bool, sm p (l.filter fun x => decide (0 < x.2.2)) = sm p l := fun p => by
    have nn := L.nn
    clear L
    induction l with
    | nil => rfl
    | cons x l ih =>
      have ih := ih fun y hy => nn y (List.mem_cons_of_mem _ hy)
      have hx := nn x List.mem_cons_self
      rw [List.filter_cons, sm_cons]
      by_cases c : 0 < x.2.2
      · rw [if_pos (by simpa using c), sm_cons, ih]
      · rw [if_neg (by simpa using c), ih]
        have : x.2.2 = 0 := by omega
        split <;> omega
  refine ⟨⟨fun x hx => L.mv x (List.mem_filter.mp hx).1, fun x hx => L.nn x (List.mem_filter.mp hx).1, fun g hg => ?_⟩, ?_⟩
  · unfold crsT
    rw [key]
    exact L.cr g hg
  · rw [tot3_sm, tot3_sm, key]
theorem Cov.step (W : Wl N m lim gs) (hx : StOk gs xs) (L : Cov lim gs (crL lim gs xs ys) l) {x : Tr} (hm : x ∈ l) (hc : 0 < x.2.2) (hl : (x.1, x.2.1) ∈ legM lim gs xs) : Cov lim gs (crL lim gs (apm xs x.1 x.2.1 1) ys) (dec1 l x) ∧ tot3 (dec1 l x) = tot3 l - 1 := by
  refine ⟨⟨fun z hz => ?_, fun z hz => ?_, fun g hg => ?_⟩, ?_⟩
  · rcases dec_mem hz with h | h
    · exact L.mv z h
    · rw [h]; exact L.mv x hm
  · rcases dec_mem hz with h | h
    · exact L.nn z h
    · rw [h]; simp only; omega
  · unfold crsT
    rw [sm_dec (fun _ _ _ _ => rfl) hm]
    have := L.cr g hg
    unfold crsT at this
    rw [this, cn_crL hg, cn_crL hg, (W.suf_move hx.len (t := 1) (L.mv x hm) hg).1]
    have e : (decide (x.2.1 < (g : Int)) && decide ((g : Int) ≤ x.1)) = true ↔ x.2.1 < (g : Int) ∧ (g : Int) ≤ x.1 := by simp
    by_cases c : x.2.1 < (g : Int) ∧ (g : Int) ≤ x.1
    · rw [if_pos (e.mpr c), if_pos (by omega)]; omega
    · rw [if_neg (fun z => c (e.mp z)), if_neg (by omega)]; omega
  · rw [tot3_sm, tot3_sm, sm_dec (fun _ _ _ _ => rfl) hm]
    simp
end
end WC
namespace WC
open WF PySem
open L2 (atI ixN)
section
variable {N : Nat} {m lim : Int} {gs : List (Int × Int)} {xs ys : List Int} {l : List Tr}
theorem Jmp.cov (W : Wl N m lim gs) : ∀ {js : List Tr} {xs ys : List Int}, xs.length = gs.length → Jmp lim gs xs js ys → Cov lim gs (crL lim gs xs ys) js
  | [], xs, ys, _, h => by
    cases h
    exact ⟨fun x hx => (by cases hx), fun x hx => (by cases hx), fun g hg => (by rw [cn_crL hg]; show (0 : Int) = _; omega)⟩
  | (d, u, t) :: r, xs, ys, hl, ⟨h1, h2⟩ => by
    have ih := Jmp.cov W (xs := apm xs d u t) (by rw [apm_len]; exact hl) h2
    have hm : (d, u) ∈ allM lim gs := (List.mem_filter.mp h1.1).1
    refine ⟨fun x hx => ?_, fun x hx => ?_, fun g hg => ?_⟩
    · rcases List.mem_cons.mp hx with rfl | hx
      · exact hm
      · exact ih.mv x hx
    · rcases List.mem_cons.mp hx with rfl | hx
      · have := h1.2.1; simp only; omega
      · exact ih.nn x hx
    · have e := ih.cr g hg
      unfold crsT at e ⊢
      rw [sm_cons, e, cn_crL hg, cn_crL hg, (W.suf_move hl (t := t) hm hg).1]
      by_cases c : u < (g : Int) ∧ (g : Int) ≤ d
      · rw [if_pos (by simp [c]), if_pos (by omega)]
        simp only
        omega
      · rw [if_neg (by simpa using c), if_neg (by omega)]
        omega
theorem Pth.jmp1 : ∀ {n : Nat} {ys : List Int}, Pth lim gs n xs ys → ∃ js, Jmp lim gs xs js ys ∧ tot3 js = n
  | 0, _, h => ⟨[], h, rfl⟩
  | n + 1, _, ⟨z, p, h, hp, e⟩ => by
    obtain ⟨js, J, e2⟩ := Pth.jmp1 h
    have hl := mem_legM.mp hp
    subst e
    refine ⟨js ++ [(p.1, p.2, 1)], Jmp.snoc ⟨hp, by omega, by omega, fun _ => by omega⟩ J, ?_⟩
    rw [tot3_app, e2]
    show (n : Int) + (1 + 0) = _
    omega
theorem Pth.cov (W : Wl N m lim gs) (hx : StOk gs xs) {n : Nat} (h : Pth lim gs n xs ys) : ∃ l, Cov lim gs (crL lim gs xs ys) l ∧ tot3 l = n := by
  obtain ⟨js, J, e⟩ := h.jmp1
  exact ⟨js, J.cov W hx.len, e⟩
end
end WC
namespace WC
open WF PySem
open L2 (atI ixN)
def posT (l : List Tr) : List Tr := l.filter fun x => decide (0 < x.2.2)
section
variable {d u n e : Int}
end
def addT : List Tr → Tr → List Tr
  | [], t => [t]
  | x :: l, t => if x.1 = t.1 ∧ x.2.1 = t.2.1 then (x.1, x.2.1, x.2.2 + t.2.2) :: l else x :: addT l t
def mvs (l : List Tr) : List (Int × Int) := l.map fun x => (x.1, x.2.1)
theorem mvs_add {l : List Tr} {t : Tr} : mvs (addT l t) = if (t.1, t.2.1) ∈ mvs l then mvs l else mvs l ++ [(t.1, t.2.1)] := by
  induction l with
  | nil => rfl
  | cons x l ih =>
    unfold addT
    by_cases c : x.1 = t.1 ∧ x.2.1 = t.2.1
    · rw [if_pos c, if_pos (by simp [mvs, c])]; rfl
    · rw [if_neg c]
      have h1 : ¬ ((t.1, t.2.1) = (x.1, x.2.1)) := fun z => c ⟨(Prod.mk.inj z).1.symm, (Prod.mk.inj z).2.symm⟩
      show (x.1, x.2.1) :: mvs (addT l t) = _
      rw [ih]
      have em : mvs (x :: l) = (x.1, x.2.1) :: mvs l := rfl
      rw [em]
      by_cases d : (t.1, t.2.1) ∈ mvs l
      · rw [if_pos d, if_pos (List.mem_cons_of_mem _ d)]
      · rw [if_neg d, if_neg (fun z => (List.mem_cons.mp z).elim h1 d)]; rfl
theorem nd_add {l : List Tr} {t : Tr} (h : (mvs l).Nodup) : (mvs (addT l t)).Nodup := by
  rw [mvs_add]
  split
  · exact h
  · rename_i c
    exact List.nodup_append.mpr ⟨h, by simp, fun a ha b hb e => c (by simp at hb; rw [← hb, ← e]; exact ha)⟩
theorem sm_add {p : Int → Int → Bool} {l : List Tr} {t : Tr} : sm (fun x => p x.1 x.2.1) (addT l t) = sm (fun x => p x.1 x.2.1) l + sm (fun x => p x.1 x.2.1) [t] := by
  induction l with
  | nil => simp [addT]
  | cons x l ih =>
    unfold addT
    by_cases c : x.1 = t.1 ∧ x.2.1 = t.2.1
    · rw [if_pos c, sm_cons, sm_cons, sm_cons, sm_nil]
      simp only [c.1, c.2]
      split <;> omega
    · rw [if_neg c, sm_cons, ih, sm_cons (x := x) (l := l)]; omega
def capT (l : List Tr) : Int := (l.map fun t => (t.1 - t.2.1 - 1) * t.2.2).sum
structure LenOk (P : Int → Int → Prop) (l : List Tr) (e : Int) (acc out : List Tr) : Prop where
  cr : ∀ g, crsT out g = crsT acc g + crsT l g
  tt : tot3 out = tot3 acc + tot3 l + min e (capT l)
  nd : (mvs acc).Nodup → (mvs out).Nodup
  mem : (∀ x ∈ acc, 0 < x.2.2 ∧ P x.1 x.2.1) → ∀ x ∈ out, 0 < x.2.2 ∧ P x.1 x.2.1
end WC
namespace WC
open WF PySem
open L2 (atI ixN Key)
def kS (ys : List Int) : List Key := ys.map Sum.inl
theorem kS_inj {x y : List Int} (h : kS x = kS y) : x = y := List.map_inj_right (fun _ _ e => Sum.inl.inj e) |>.mp h
def dsD (L : List (List Int × Int)) : D := .dtk true (L.map fun p => kS p.1) (L.map fun p => .int p.2)
def dsF (L : List (List Int × Int)) : D := .dtk false (L.map fun p => kS p.1) (L.map fun p => .int p.2)
def fnd (L : List (List Int × Int)) (y : List Int) : Option Int := (L.find? fun p => decide (p.1 = y)).map Prod.snd
section
variable {L : List (List Int × Int)} {y : List Int} {v : Int}
@[simp] theorem isUn_dsD : isUn (dsD L) = false := rfl
@[simp] theorem isUn_dsF : isUn (dsF L) = false := rfl
@[simp] theorem asDic_dsD : asDic (dsD L) = some (dsD L) := rfl
@[simp] theorem asDic_dsF : asDic (dsF L) = some (dsF L) := rfl
@[simp] theorem frz_dsD : D.frz (dsD L) = dsF L := by
  show D.dtk false _ (D.frzs _) = _
  rw [frzs_id (fun _ => rfl)]
  rfl
@[simp] theorem frz_dsF : D.frz (dsF L) = dsF L := by
  show D.dtk false _ (D.frzs _) = _
  rw [frzs_id (fun _ => rfl)]
  rfl
@[simp] theorem imms_ints {α : Type} {f : α → Int} {l : List α} : D.imms (l.map fun x => .int (f x)) = true := imms_map (fun _ => rfl) l
theorem keysD_ints {ys : List Int} : keysD (ys.map D.int) = some (kS ys) := by
  induction ys with
  | nil => rfl
  | cons y ys ih => rw [List.map_cons, keysD_cons, ih]; rfl
@[simp] theorem keyT_st : keyT (sq true (y.map D.int)) = some (kS y) := keysD_ints
theorem lk_ds : lk (L.map fun p => kS p.1) (L.map fun p => D.int p.2) (kS y) = (fnd L y).map D.int := by
  induction L with
  | nil => rfl
  | cons p L ih =>
    rw [List.map_cons, List.map_cons, lk, ih]
    unfold fnd
    rw [List.find?_cons]
    by_cases e : p.1 = y
    · rw [if_pos (by rw [e])]; simp [e]
    · rw [if_neg (fun z => e (kS_inj z))]; simp [e]
@[simp] theorem dsD_get : dGetD (dsD L) (sq true (y.map D.int)) = some ((fnd L y).map D.int) := by
  show (if D.imms _ = true then (keyT _).map _ else none) = _
  rw [if_pos imms_ints, keyT_st, Option.map_some, lk_ds]
@[simp] theorem dsF_get : dGetD (dsF L) (sq true (y.map D.int)) = some ((fnd L y).map D.int) := by
  show (if D.imms _ = true then (keyT _).map _ else none) = _
  rw [if_pos imms_ints, keyT_st, Option.map_some, lk_ds]
end
section
variable {N : Nat} {m lim : Int} {gs : List (Int × Int)} {xs ys : List Int}
structure Bfs (lim : Int) (gs : List (Int × Int)) (xs : List Int) (n : Nat) (L : List (List Int × Int)) (ly : List (List Int)) : Prop where
  nd : (L.map Prod.fst).Nodup
  ok : ∀ p ∈ L, ∃ k : Nat, p.2 = k ∧ k ≤ n ∧ Pth lim gs k xs p.1
  all : ∀ k, k ≤ n → ∀ y, Pth lim gs k xs y → ∃ p ∈ L, p.1 = y ∧ p.2 ≤ k
  lay : ∀ y ∈ ly, (y, (n : Int)) ∈ L
  top : ∀ p ∈ L, p.2 = n → p.1 ∈ ly
structure Mid (lim : Int) (gs : List (Int × Int)) (L : List (List Int × Int)) (ly : List (List Int)) (F : List (List Int)) : Prop where
  nd : F.Nodup
  dj : ∀ y ∈ F, y ∉ L.map Prod.fst
  fr : ∀ y ∈ F, ∃ z ∈ ly, ∃ p ∈ legM lim gs z, y = apm z p.1 p.2 1
structure Wk2 (lim : Int) (gs : List (Int × Int)) (K : List (List Int)) (pre : List (List Int)) (z : List Int) (pre2 : List (Int × Int)) : Prop where
  hd : ∀ z ∈ pre, ∀ p ∈ legM lim gs z, apm z p.1 p.2 1 ∈ K
  hd2 : ∀ p ∈ pre2, apm z p.1 p.2 1 ∈ K
def nxtL (L : List (List Int × Int)) (n : Nat) (F : List (List Int)) : List (List Int × Int) := L ++ F.map fun y => (y, ((n + 1 : Nat) : Int))
theorem Bfs.next {n : Nat} {L : List (List Int × Int)} {ly F : List (List Int)} (B : Bfs lim gs xs n L ly) (M : Mid lim gs L ly F) (hd : ∀ z ∈ ly, ∀ p ∈ legM lim gs z, apm z p.1 p.2 1 ∈ (nxtL L n F).map Prod.fst) : Bfs lim gs xs (n + 1) (nxtL L n F) F := by
  refine ⟨?_, fun p hp => ?_, fun k hk y hy => ?_, fun y hy => ?_, fun p hp e => ?_⟩
  · unfold nxtL
    rw [List.map_append, List.map_map]
    have : F.map (Prod.fst ∘ fun y => (y, ((n + 1 : Nat) : Int))) = F := by simp [Function.comp_def]
    rw [this, List.nodup_append]
    exact ⟨B.nd, M.nd, fun a ha b hb e => M.dj b hb (e ▸ ha)⟩
  · rcases List.mem_append.mp hp with h | h
    · obtain ⟨k, e1, e2, e3⟩ := B.ok p h
      exact ⟨k, e1, by omega, e3⟩
    · obtain ⟨y, hy, rfl⟩ := List.mem_map.mp h
      obtain ⟨z, hz, q, hq, e⟩ := M.fr y hy
      obtain ⟨k, e1, e2, e3⟩ := B.ok _ (B.lay z hz)
      have : k = n := by simp only at e1; omega
      subst this
      exact ⟨k + 1, rfl, Nat.le_refl _, z, q, e3, hq, e⟩
  · by_cases c : k ≤ n
    · obtain ⟨p, hp, e⟩ := B.all k c y hy
      exact ⟨p, List.mem_append_left _ hp, e⟩
    · have : k = n + 1 := by omega
      subst this
      obtain ⟨z, q, hz, hq, e⟩ := hy
      obtain ⟨p, hp, e1, e2⟩ := B.all n (Nat.le_refl _) z hz
      obtain ⟨j, f1, f2, f3⟩ := B.ok p hp
      by_cases cj : j = n
      · have hm := hd z (by rw [← e1]; exact B.top p hp (by omega)) q hq
        rw [← e] at hm
        obtain ⟨p', hp', e'⟩ := List.mem_map.mp hm
        refine ⟨p', hp', e', ?_⟩
        rcases List.mem_append.mp hp' with h | h
        · obtain ⟨k, g1, g2, _⟩ := B.ok p' h; omega
        · obtain ⟨y', _, rfl⟩ := List.mem_map.mp h
          exact Int.le_refl _
      · obtain ⟨p', hp', e1', e2'⟩ := B.all (j + 1) (by omega) y ⟨z, q, by rw [← e1]; exact f3, hq, e⟩
        exact ⟨p', List.mem_append_left _ hp', e1', by omega⟩
  · exact List.mem_append_right _ (List.mem_map.mpr ⟨y, hy, rfl⟩)
  · rcases List.mem_append.mp hp with h | h
    · obtain ⟨k, e1, e2, e3⟩ := B.ok p h; omega
    · obtain ⟨y, hy, rfl⟩ := List.mem_map.mp h
      exact hy
structure Dst (lim : Int) (gs : List (Int × Int)) (xs : List Int) (L : List (List Int × Int)) : Prop where
  nd : (L.map Prod.fst).Nodup
  ok : ∀ p ∈ L, ∃ k : Nat, p.2 = k ∧ Pth lim gs k xs p.1
  le : ∀ k y, Pth lim gs k xs y → ∃ p ∈ L, p.1 = y ∧ p.2 ≤ k
end
end WC
namespace WC
open WF PySem
open L2 (atI ixN)
section
variable {t t' t2 o : Bool} {lim : Int} {gs : List (Int × Int)} {xs ys cs : List Int} {d u n e : Int} {Q : D → List D → Prop}
def kTr (x : Tr) : List L2.Key := [.inl x.1, .inl x.2.1]
def mdD (l : List Tr) : D := .dtk true (l.map kTr) (l.map fun x => .int x.2.2)
def gT : List Tr → Int → Int → Int
  | [], _, _ => 0
  | x :: l, a, b => if x.1 = a ∧ x.2.1 = b then x.2.2 else gT l a b
@[simp] theorem isUn_mdD {l : List Tr} : isUn (mdD l) = false := rfl
@[simp] theorem asDic_mdD {l : List Tr} : asDic (mdD l) = some (mdD l) := rfl
theorem kTr_iff {x : Tr} {a b : Int} : kTr x = [.inl a, .inl b] ↔ x.1 = a ∧ x.2.1 = b := by simp [kTr]
end
end WC
namespace WC
open WF PySem
open L2 (atI ixN)
section
variable {t t' t2 o : Bool} {lim : Int} {gs : List (Int × Int)} {xs ys cs : List Int} {d u n e : Int} {Q : D → List D → Prop}
end
end WC
namespace WC
open WF PySem
open L2 (atI ixN)
section
variable {t t' t2 o : Bool} {N : Nat} {m lim : Int} {gs : List (Int × Int)} {xs ys cs : List Int} {d u n e : Int} {Q : D → List D → Prop}
def minL (lim : Int) (gs : List (Int × Int)) (cs : List Int) : List Tr := sort3 (sw lim gs cs (gs.length + 1)).1
theorem Cov.perm {l l' : List Tr} (L : Cov lim gs cs l) (p : l'.Perm l) : Cov lim gs cs l' :=
  ⟨fun x h => L.mv x (p.mem_iff.mp h), fun x h => L.nn x (p.mem_iff.mp h), fun g hg => by unfold crsT; rw [sm_perm p]; exact L.cr g hg⟩
theorem minL_cov (W : Wl N m lim gs) (C : CrOk lim gs cs) : Cov lim gs cs (minL lim gs cs) := (sw_cov W C).perm sort3_perm
theorem LenOk.cov {l out : List Tr} (L : Cov lim gs cs l) (K : LenOk (fun a b => (a, b) ∈ allM lim gs) l e [] out) : Cov lim gs cs out :=
  ⟨fun x h => (K.mem (fun _ h => nomatch h) x h).2, fun x h => Int.le_of_lt (K.mem (fun _ h => nomatch h) x h).1, fun g hg => by rw [K.cr, L.cr g hg]; simp [crsT]⟩
end
end WC
namespace WC
open WF PySem
open L2 (atI ixN)
section
variable {t t' t2 o : Bool} {N : Nat} {m lim : Int} {gs : List (Int × Int)} {xs ys cs : List Int} {d u n e : Int} {Q : D → List D → Prop} {l : List Tr}
def ltB (x y : Tr) : Bool := if x.1 = y.1 then decide (x.2.1 < y.2.1) else decide (x.1 < y.1)
def ascB : List Tr → Bool
  | x :: y :: r => ltB x y && ascB (y :: r)
  | _ => true
end
end WC
namespace WC
open WF PySem
open L2 (atI ixN)
section
variable {t t' t2 o : Bool} {N : Nat} {m lim : Int} {gs : List (Int × Int)} {xs ys cs : List Int} {d u n e : Int} {Q : D → List D → Prop} {l : List Tr}
def nb0 (cs : List Int) (g v : Int) (n : Nat) : List Tr := (List.range n).map fun (k : Nat) => ((k : Int), (k : Int) - 1, if (k : Int) = g ∨ (k : Int) = g + 1 then cn cs k - v else cn cs k)
def stepsL (cs : List Int) (g v : Int) : List Tr := sort3 (posT (nb0 cs g v cs.length ++ [(g + 1, g - 1, v)]))
structure StepOk (lim : Int) (gs : List (Int × Int)) (cs : List Int) (g : Nat) (v : Int) : Prop where
  cov : Cov lim gs cs (stepsL cs g v)
  pos : ∀ x ∈ stepsL cs g v, 0 < x.2.2
  asc : ascB (stepsL cs g v) = true
  dn : dnT (stepsL cs g v) g = cn cs g - v
end
end WC
namespace WC
open WF PySem
open L2 (atI ixN)
section
variable {N : Nat} {m lim b : Int} {gs : List (Int × Int)} {xs ys cs : List Int} {l : List Tr} {s : Nat} {p : Int × Int}
theorem sw_nd (W : Wl N m lim gs) (C : CrOk lim gs cs) : ∀ k, k ≤ gs.length + 1 → (mvs (sw lim gs cs k).1).Nodup
  | 0, _ => List.nodup_nil
  | k + 1, hk => by
    have ih := sw_nd W C k (by omega)
    have S := swOk W C k (by omega)
    have hf := S.fmv
    have ha : Asc (posL (takeC (sw lim gs cs k).2 (amt lim gs k (cn cs k) (sw lim gs cs k)))) := posL_asc (asc_takeC S.asc)
    rw [sw, swS]
    unfold mvs at ih ⊢
    rw [List.map_append]
    refine List.nodup_append.mpr ⟨ih, ?_, fun a h1 c h2 e => ?_⟩
    · rw [List.map_map, List.nodup_iff_pairwise_ne, List.pairwise_map]
      exact ha.imp fun {x y} h e => by
        have := (Prod.mk.inj e).2
        simp only at this
        omega
    · obtain ⟨x, hx, rfl⟩ := List.mem_map.mp h1
      obtain ⟨y, hy, rfl⟩ := List.mem_map.mp h2
      obtain ⟨z, hz, rfl⟩ := List.mem_map.mp hy
      have h3 := (hf x hx).2
      have := (Prod.mk.inj e).1
      simp only at this
      omega
theorem minL_pos (W : Wl N m lim gs) (C : CrOk lim gs cs) : ∀ x ∈ minL lim gs cs, 0 < x.2.2 := fun x hx => (swOk W C _ (Nat.le_refl _)).fpos x (sort3_perm.mem_iff.mp hx)
def ins {α : Type} (s : Nat) (p : α) (l : List α) : List α := l.take s ++ [p] ++ l.drop s
def upI (s : Nat) (k : Int) : Int := k + if (s : Int) ≤ k then 1 else 0
def led (s : Nat) (x : Tr) : Tr := (upI s x.1, upI s x.2.1, x.2.2)
theorem ins_len {α : Type} {p : α} {l : List α} (h : s ≤ l.length) : (ins s p l).length = l.length + 1 := by simp [ins]; omega
theorem ins_lt {α : Type} {p d : α} {l : List α} {k : Nat} (hs : s ≤ l.length) (h : k < s) : (ins s p l).getD k d = l.getD k d := by
  unfold ins
  rw [List.getD_eq_getElem?_getD, List.getD_eq_getElem?_getD, List.append_assoc, List.getElem?_append_left (by simp; omega), List.getElem?_take_of_lt h]
theorem ins_at {α : Type} {p d : α} {l : List α} (hs : s ≤ l.length) : (ins s p l).getD s d = p := by
  unfold ins
  rw [List.getD_eq_getElem?_getD, List.append_assoc, List.getElem?_append_right (by simp; omega)]
  simp [Nat.min_eq_left hs]
theorem ins_gt {α : Type} {p d : α} {l : List α} {k : Nat} (hs : s ≤ l.length) (h : s ≤ k) : (ins s p l).getD (k + 1) d = l.getD k d := by
  unfold ins
  rw [List.getD_eq_getElem?_getD, List.getD_eq_getElem?_getD, List.getElem?_append_right (by simp; omega), List.getElem?_drop]
  simp [Nat.min_eq_left hs]
  congr 2
  omega
theorem ins_up {α : Type} {p d : α} {l : List α} {k : Int} (hs : s ≤ l.length) (h0 : 0 ≤ k) : (ins s p l).getD (upI s k).toNat d = l.getD k.toNat d := by
  unfold upI
  by_cases c : (s : Int) ≤ k
  · rw [if_pos c, show (k + 1).toNat = k.toNat + 1 by omega, ins_gt hs (by omega)]
  · rw [if_neg c, Int.add_zero, ins_lt hs (by omega)]
theorem cn_up {k : Int} (hs : s ≤ xs.length) (h0 : 0 ≤ k) : cn (ins s b xs) (upI s k) = cn xs k := ins_up hs h0
theorem cn_at (hs : s ≤ xs.length) : cn (ins s b xs) s = b := ins_at hs
theorem grp_up {k : Int} (hs : s ≤ gs.length) (h0 : 0 ≤ k) : grp (ins s p gs) (upI s k) = grp gs k := ins_up hs h0
theorem upI_neg {k : Int} (h : k < 0) : upI s k = k := by unfold upI; rw [if_neg (by omega)]; omega
theorem upI_nn {k : Int} (h : 0 ≤ k) : 0 ≤ upI s k := by unfold upI; split <;> omega
theorem wt_up {k : Int} (hs : s ≤ gs.length) : wt (ins s p gs) (upI s k) = wt gs k := by
  unfold wt
  by_cases c : k < 0
  · rw [upI_neg c, if_pos c, if_pos c]
  · rw [if_neg c, if_neg (by have := upI_nn (s := s) (k := k) (by omega); omega), grp_up hs (by omega)]
theorem ex_up {j : Int} (h0 : 0 ≤ j) (hn : j ≠ s) : ∃ k, 0 ≤ k ∧ j = upI s k := by
  unfold upI
  by_cases c : j < s
  · exact ⟨j, h0, by rw [if_neg (by omega)]; omega⟩
  · exact ⟨j - 1, by omega, by rw [if_pos (by omega)]; omega⟩
theorem upI_inj {i j : Int} (h : upI s i = upI s j) : i = j := by
  unfold upI at h
  split at h <;> split at h <;> omega
theorem upI_lt {i j : Int} : upI s i < upI s j ↔ i < j := by
  unfold upI
  split <;> split <;> omega
theorem upI_top {i : Int} {n : Nat} (hs : s ≤ n) (h : i < n) : upI s i < ((n + 1 : Nat) : Int) := by
  unfold upI
  split <;> omega
theorem upI_ne {i : Int} : upI s i ≠ s := by unfold upI; split <;> omega
theorem mv_up (hs : s ≤ gs.length) {d u : Int} (h : (d, u) ∈ allM lim gs) : (upI s d, upI s u) ∈ allM lim (ins s p gs) := by
  obtain ⟨h1, h2, h3, h4⟩ := mem_allM.mp h
  simp only at h1 h2 h3 h4
  refine mem_allM.mpr ⟨?_, upI_lt.mpr h2, by rw [ins_len hs]; exact upI_top hs h3, by rw [wt_up hs, wt_up hs]; exact h4⟩
  simp only
  by_cases c : u < 0
  · rw [upI_neg c]; exact h1
  · have := upI_nn (s := s) (k := u) (by omega); omega
theorem apm_up (hs : s ≤ xs.length) {d u t : Int} (h0 : 0 ≤ d) (h1 : d < xs.length) (h2 : u < d) : apm (ins s b xs) (upI s d) (upI s u) t = ins s b (apm xs d u t) := by
  have l1 : (ins s b xs).length = xs.length + 1 := ins_len hs
  have hs' : s ≤ (apm xs d u t).length := by rw [apm_len]; exact hs
  have l2 : (ins s b (apm xs d u t)).length = xs.length + 1 := by rw [ins_len hs', apm_len]
  refine cn_ext (by rw [apm_len, l1, l2]) fun j hj => ?_
  rw [cn_apm (upI_nn h0) (by rw [l1]; exact upI_top hs h1) (upI_lt.mpr h2) (by omega)]
  by_cases c : (j : Int) = s
  · rw [c, cn_at hs, cn_at hs', if_neg (fun z => upI_ne z.symm), if_neg (fun z => upI_ne z.symm)]; omega
  · obtain ⟨k, k0, e⟩ := ex_up (show 0 ≤ (j : Int) by omega) c
    rw [e, cn_up hs k0, cn_up hs' k0, cn_apm h0 h1 h2 k0]
    have e1 : (upI s k = upI s d) = (k = d) := propext ⟨upI_inj, fun h => by rw [h]⟩
    have e2 : (upI s k = upI s u) = (k = u) := propext ⟨upI_inj, fun h => by rw [h]⟩
    simp only [e1, e2]
theorem Jmp.up (hs : s ≤ gs.length) : ∀ {js : List Tr} {xs ys : List Int}, xs.length = gs.length → Jmp lim gs xs js ys → Jmp lim (ins s p gs) (ins s b xs) (js.map (led s)) (ins s b ys)
  | [], xs, ys, _, h => by cases h; exact rfl
  | (d, u, t) :: r, xs, ys, hl, h => by
    obtain ⟨⟨h1, h2, h3, h4⟩, h5⟩ := h
    obtain ⟨⟨a1, a2, a3, a4⟩, a5, a6⟩ := mem_legM.mp h1
    simp only at a1 a2 a3 a4 a5 a6
    have hs' : s ≤ xs.length := by omega
    refine ⟨⟨mem_legM.mpr ⟨mem_allM.mp (mv_up hs (mem_allM.mpr ⟨a1, a2, a3, a4⟩)), ?_, ?_⟩, h2, ?_, fun hu => ?_⟩, ?_⟩
    · simp only; rw [cn_up hs' (by omega), grp_up hs (by omega)]; exact a5
    · simp only
      rcases a6 with a6 | a6
      · exact .inl (by rw [upI_neg a6]; exact a6)
      · by_cases c : u < 0
        · exact .inl (by rw [upI_neg c]; exact c)
        · exact .inr (by rw [cn_up hs' (by omega)]; exact a6)
    · rw [cn_up hs' (by omega), grp_up hs (by omega)]; exact h3
    · by_cases c : u < 0
      · have hu : 0 ≤ upI s u := hu
        rw [upI_neg c] at hu; omega
      · show t ≤ cn (ins s b xs) (upI s u)
        rw [cn_up hs' (by omega)]; exact h4 (by omega)
    · rw [apm_up hs' (by omega) (by omega) a2]
      exact Jmp.up hs (by rw [apm_len]; exact hl) h5
structure InsOk (lim : Int) (gs : List (Int × Int)) (xs ys : List Int) (s : Nat) (p : Int × Int) (b : Int) : Prop where
  obs : obsL lim (ins s p gs) (ins s b xs) (ins s b ys) = []
  cr : crL lim (ins s p gs) (ins s b xs) (ins s b ys) = ins s (cn (crL lim gs xs ys) s) (crL lim gs xs ys)
  cov : ∀ {l : List Tr}, Cov lim gs (crL lim gs xs ys) l → Cov lim (ins s p gs) (crL lim (ins s p gs) (ins s b xs) (ins s b ys)) (l.map (led s))
end
end WC
namespace WC
open WF PySem
open L2 (atI ixN)
def scT (M : Int) (x : Tr) : Tr := (x.1, x.2.1, M * x.2.2)
section
variable {M : Int} {lim : Int} {gs : List (Int × Int)} {cs : List Int} {l : List (Int × Int)} {a b : Int}
theorem mul_pos_iff' (hM : 0 < M) : 0 < M * a ↔ 0 < a := by
  constructor
  · intro h
    by_cases c : 0 < a
    · exact c
    · have := Int.mul_le_mul_of_nonneg_left (show a ≤ 0 by omega) (show 0 ≤ M by omega)
      rw [Int.mul_zero] at this
      omega
  · exact fun h => Int.mul_pos hM h
def sc (M : Int) (cs : List Int) : List Int := cs.map fun c => M * c
theorem cn_sc {k : Int} : cn (sc M cs) k = M * cn cs k := by
  unfold cn sc
  rw [List.getD_eq_getElem?_getD, List.getD_eq_getElem?_getD, List.getElem?_map]
  cases cs[k.toNat]? <;> simp
theorem CrOk.sc (hM : 0 < M) (C : CrOk lim gs cs) : CrOk lim gs (sc M cs) :=
  ⟨by unfold WC.sc; rw [List.length_map]; exact C.len, fun g => by rw [cn_sc]; exact Int.mul_nonneg (by omega) (C.nn g), fun g hg h => C.st g hg ((mul_pos_iff' hM).mp (by rw [cn_sc] at h; exact h))⟩
end
abbrev Ed := Int × Int × Int
def Wk (E : Ed → Prop) : Int → List Ed → Int → Prop
  | a, [], b => a = b
  | a, e :: es, b => E e ∧ e.1 = a ∧ Wk E e.2.1 es b
def cost (es : List Ed) : Int := (es.map fun e => e.2.2).sum
def verts (a : Int) (es : List Ed) : List Int := a :: es.map fun e => e.2.1
section
variable {E : Ed → Prop} {a b c : Int}
theorem Wk.app : ∀ {es fs : List Ed} {a : Int}, Wk E a es c → Wk E c fs b → Wk E a (es ++ fs) b
  | [], _, _, h, h' => by cases h; exact h'
  | e :: es, _, _, h, h' => ⟨h.1, h.2.1, Wk.app h.2.2 h'⟩
theorem cost_app {es fs : List Ed} : cost (es ++ fs) = cost es + cost fs := by simp [cost]
theorem Wk.upto : ∀ {es : List Ed} {a x : Int}, Wk E a es b → x ∈ verts a es → ∃ p q, es = p ++ q ∧ Wk E a p x ∧ Wk E x q b
  | [], a, x, h, hx => by
    have : x = a := by simpa [verts] using hx
    subst this
    exact ⟨[], [], rfl, rfl, h⟩
  | e :: es, a, x, h, hx => by
    rcases List.mem_cons.mp hx with rfl | hx
    · exact ⟨[], e :: es, rfl, rfl, h⟩
    · obtain ⟨p, q, e1, h1, h2⟩ := Wk.upto (es := es) (a := e.2.1) h.2.2 hx
      exact ⟨e :: p, q, by rw [e1]; rfl, ⟨h.1, h.2.1, h1⟩, h2⟩
theorem Wk.loop : ∀ {es : List Ed} {a : Int}, Wk E a es b → (verts a es).Nodup ∨ ∃ p q r c, es = p ++ q ++ r ∧ q ≠ [] ∧ Wk E a p c ∧ Wk E c q c ∧ Wk E c r b
  | [], a, _ => .inl (by simp [verts])
  | e :: es, a, h => by
    rcases Wk.loop (es := es) h.2.2 with hn | ⟨p, q, r, c, e1, h1, h2, h3, h4⟩
    · by_cases hm : a ∈ verts e.2.1 es
      · obtain ⟨p, q, e1, h1, h2⟩ := Wk.upto h.2.2 hm
        exact .inr ⟨[], e :: p, q, a, by rw [e1]; rfl, by simp, rfl, ⟨h.1, h.2.1, h1⟩, h2⟩
      · exact .inl (List.nodup_cons.mpr ⟨hm, hn⟩)
    · exact .inr ⟨e :: p, q, r, c, by rw [e1]; rfl, h1, ⟨h.1, h.2.1, h2⟩, h3, h4⟩
theorem Wk.vert (V : List Int) (hE : ∀ e, E e → e.2.1 ∈ V) : ∀ {es : List Ed} {a : Int}, a ∈ V → Wk E a es b → ∀ x ∈ verts a es, x ∈ V
  | [], a, ha, _, x, hx => by
    have : x = a := by simpa [verts] using hx
    rw [this]; exact ha
  | e :: es, a, ha, h, x, hx => by
    rcases List.mem_cons.mp hx with rfl | hx
    · exact ha
    · exact Wk.vert V hE (hE e h.1) h.2.2 x hx
theorem cost_ge (hE : ∀ e, E e → -1 ≤ e.2.2) : ∀ {es : List Ed} {a : Int}, Wk E a es b → -(es.length : Int) ≤ cost es
  | [], _, _ => by simp [cost]
  | e :: es, a, h => by
    have := cost_ge hE h.2.2
    have := hE e h.1
    simp only [cost, List.map_cons, List.sum_cons, List.length_cons] at *
    omega
theorem Wk.bound (V : List Int) (hV : ∀ e, E e → e.2.1 ∈ V) (hE : ∀ e, E e → -1 ≤ e.2.2) (h0 : ∀ c es, Wk E c es c → 0 ≤ cost es) : ∀ (n : Nat) {es : List Ed} {a : Int}, es.length = n → a ∈ V → Wk E a es b → -(V.length : Int) ≤ cost es := by
  intro n
  induction n using Nat.strongRecOn with
  | ind n ih =>
    intro es a hl ha h
    rcases h.loop with hn | ⟨p, q, r, c, e1, h1, h2, h3, h4⟩
    · have := nodup_len hn (l' := V) (fun x hx => h.vert V hV ha x hx)
      have h5 := cost_ge hE h
      simp [verts] at this
      omega
    · have hq := List.length_pos_iff.mpr h1
      have h5 := ih (p ++ r).length (by rw [← hl, e1]; simp; omega) rfl ha (h2.app h4)
      have h6 := h0 c q h3
      rw [e1, cost_app, cost_app]
      rw [cost_app] at h5
      omega
end
end WC
namespace WC
open WF PySem
open L2 (atI ixN)
def hit (e : Ed) (d u : Int) : Int := if e.2.2 = -1 ∧ e.1 = d ∧ e.2.1 = u then 1 else 0
section
variable {N : Nat} {m lim L : Int} {gs : List (Int × Int)} {cs : List Int} {l : List Tr} {p : Int → Int → Bool} {es : List Ed} {a b : Int}
theorem Wk.all {E : Ed → Prop} : ∀ {es : List Ed} {a : Int}, Wk E a es b → ∀ e ∈ es, E e
  | [], _, _, e, h => nomatch h
  | x :: es, a, h, e, he => by
    rcases List.mem_cons.mp he with rfl | he
    · exact h.1
    · exact Wk.all h.2.2 e he
end
end WC
namespace WC
open WF PySem
open L2 (atI ixN Key)
@[simp] theorem wE_dcM {fi : IM} {v : Int} {S : S0} {Q : D → S0 → Prop} : wE (dcM fi v) S Q ↔ wI fi S fun ds lent S1 => lent = [] ∧ rd (intsD ds) fun ns => (ns.Nodup ∧ ns.length < 1000000) ∧ Q (.dic true (ns.map Sum.inl) (ns.map fun _ => .int v)) S1 := by
  unfold wE wI rd
  show WF0.oE (dcM fi v S) Q ↔ WF0.oI (fi S) _
  unfold dcM
  cases fi S with
  | none => simp [WF0.oE, WF0.oI]
  | some o =>
    obtain ⟨o, S1⟩ := o
    cases o with
    | ex x => simp [WF0.oE, WF0.oI]
    | ok ds lent =>
      cases lent with
      | cons y r => simp [WF0.oE, WF0.oI]
      | nil =>
        simp only [WF0.oI, WF0.rd, true_and]
        cases hd : intsD ds with
        | none => simp [WF0.oE]
        | some ns =>
          simp only [Option.bind_some, Option.some.injEq, exists_eq_left']
          by_cases h : ns.Nodup ∧ ns.length < 1000000
          · rw [if_pos h]; simp [WF0.oE, h]
          · rw [if_neg h]; simp [WF0.oE]; intro a b; exact absurd ⟨a, b⟩ h
section
variable {κ α : Type} [DecidableEq κ]
end
def zs (n : Nat) : List Int := (List.range (n + 1)).map fun (i : Nat) => -1 + (i : Int)
def dcD (n : Nat) (ds : List Int) : D := .dic true ((zs n).map Sum.inl) (ds.map .int)
section
variable {n : Nat} {ds : List Int} {v y : Int}
@[simp] theorem isUn_dcD : isUn (dcD n ds) = false := rfl
@[simp] theorem asDic_dcD : asDic (dcD n ds) = some (dcD n ds) := rfl
end
def vA (f : List Int) (k : Int) : Int := if k < 0 then 0 else cn f k
structure Pot (lim : Int) (gs : List (Int × Int)) (f : List Int) : Prop where
  len : f.length = gs.length
  le : ∀ d u, (d, u) ∈ allM lim gs → vA f d - vA f u ≤ 1
section
variable {N : Nat} {m lim : Int} {gs : List (Int × Int)} {cs ds xs ys : List Int} {l : List Tr} {t t' t2 : Bool} {Q : D → List D → Prop}
end
end WC
namespace WC
open WF PySem
open L2 (atI ixN Key)
section
variable {N : Nat} {m lim : Int} {gs : List (Int × Int)} {cs ds xs ys : List Int} {l : List Tr} {t t' t2 : Bool} {Q : D → List D → Prop}
end
end WC
namespace WC
open WF PySem
open L2 (atI ixN Key)
section
variable {N : Nat} {m lim : Int} {gs : List (Int × Int)} {cs f xs ys : List Int} {l : List Tr} {t t' t2 t3 : Bool} {Q : D → List D → Prop}
def potB (lim : Int) (gs : List (Int × Int)) (f : List Int) : Bool := (allM lim gs).all fun p => decide (vA f p.1 - vA f p.2 ≤ 1)
theorem Pot.bl (P : Pot lim gs f) : potB lim gs f = true := by
  unfold potB
  rw [List.all_eq_true]
  intro p hp
  exact decide_eq_true (P.le p.1 p.2 hp)
end
end WC
namespace WC
open WF PySem
open L2 (atI ixN Key)
structure Sim (lim : Int) (gs : List (Int × Int)) (lim' : Int) (gs' : List (Int × Int)) : Prop where
  len : gs'.length = gs.length
  le : ∀ i j : Int, -1 ≤ j → j < i → i < gs.length → (wt gs' i - wt gs' j ≤ lim' ↔ wt gs i - wt gs j ≤ lim)
section
variable {N : Nat} {m lim lim' M : Int} {gs gs' : List (Int × Int)} {cs xs ys f : List Int} {l : List Tr}
theorem Sim.mem (S : Sim lim gs lim' gs') {p : Int × Int} : p ∈ allM lim' gs' ↔ p ∈ allM lim gs := by
  rw [mem_allM, mem_allM, S.len]
  constructor
  · rintro ⟨a, b, c, d⟩
    exact ⟨a, b, c, (S.le p.1 p.2 a b c).mp d⟩
  · rintro ⟨a, b, c, d⟩
    exact ⟨a, b, c, (S.le p.1 p.2 a b c).mpr d⟩
theorem Sim.exp (S : Sim lim gs lim' gs') {k : Nat} {o : List (Int × Int)} (hk : k ≤ gs.length) (ho : ∀ p ∈ o, -1 ≤ p.1 ∧ p.1 < (k : Int) - 1) : expL lim' gs' k o = expL lim gs k o := by
  unfold expL
  rw [S.len]
  split
  · rfl
  · rename_i hn
    congr 1
    refine List.filter_congr fun p hp => ?_
    have h1 := ho p hp
    have h2 := S.le k p.1 h1.1 (by omega) (by omega)
    rw [Bool.eq_iff_iff]
    simp only [decide_eq_true_eq]
    omega
theorem Sim.sw (S : Sim lim gs lim' gs') : ∀ k, k ≤ gs.length + 1 → sw lim' gs' cs k = sw lim gs cs k
  | 0, _ => rfl
  | k + 1, hk => by
    have ih := Sim.sw S k (by omega)
    have hu := sw_up (lim := lim) (gs := gs) (cs := cs) k
    rw [WC.sw, ih, WC.sw]
    have ea : amt lim' gs' k (cn cs k) (WC.sw lim gs cs k) = amt lim gs k (cn cs k) (WC.sw lim gs cs k) := by
      unfold amt
      rw [S.exp (by omega) hu]
    unfold swS
    rw [ea]
theorem Sim.minL (S : Sim lim gs lim' gs') : minL lim' gs' cs = minL lim gs cs := by
  unfold WC.minL
  rw [S.len, S.sw _ (Nat.le_refl _)]
theorem Sim.cov (S : Sim lim gs lim' gs') : Cov lim' gs' cs l ↔ Cov lim gs cs l :=
  ⟨fun L => ⟨fun x h => S.mem.mp (L.mv x h), L.nn, fun g hg => L.cr g (by rw [S.len]; exact hg)⟩, fun L => ⟨fun x h => S.mem.mpr (L.mv x h), L.nn, fun g hg => L.cr g (by rw [← S.len]; exact hg)⟩⟩
def gsM (M : Int) (gs : List (Int × Int)) : List (Int × Int) := gs.map fun p => (p.1, p.2 * M)
theorem gsM_len : (gsM M gs).length = gs.length := by simp [gsM]
theorem grp_M {k : Int} (h0 : 0 ≤ k) (h1 : k < gs.length) : grp (gsM M gs) k = ((grp gs k).1, (grp gs k).2 * M) := by
  obtain ⟨n, rfl⟩ := Int.eq_ofNat_of_zero_le h0
  have : n < gs.length := by omega
  simp [grp, gsM, this]
theorem wt_M {k : Int} (h1 : k < gs.length) : wt (gsM M gs) k = wt gs k := by
  unfold wt
  split
  · rfl
  · rw [grp_M (by omega) h1]
theorem sim_M : Sim lim gs lim (gsM M gs) := ⟨gsM_len, fun i j h0 h1 h2 => by rw [wt_M h2, wt_M (by omega)]⟩
theorem rise_M (hM : 0 < M) : ∀ {gs : List (Int × Int)} {w : Int}, Rise m w gs → Rise (m * M) w (gsM M gs)
  | [], _, _ => trivial
  | p :: r, w, h => by
    have h1 := Int.mul_le_mul_of_nonneg_right h.2.2.1 (Int.le_of_lt hM)
    have h2 := Int.mul_le_mul h.2.1 (show 1 ≤ M by omega) (by omega) (show 0 ≤ p.2 by have := h.2.1; omega)
    exact ⟨h.1, by simpa using h2, h1, rise_M hM h.2.2.2⟩
theorem apm_sc {d u t : Int} (h0 : 0 ≤ d) (h1 : d < xs.length) (h2 : u < d) : apm (sc M xs) d u (M * t) = sc M (apm xs d u t) := by
  have ls : (sc M xs).length = xs.length := by simp [sc]
  refine cn_ext (by rw [apm_len, ls]; simp [sc, apm_len]) fun k hk => ?_
  rw [cn_apm h0 (by rw [ls]; exact h1) h2 (by omega), cn_sc, cn_sc, cn_apm h0 h1 h2 (by omega), Int.mul_sub, Int.mul_add]
  congr 1
  · congr 1
    split <;> simp
  · split <;> simp
theorem Jmp.sc (hM : 0 < M) : ∀ {js : List Tr} {xs ys : List Int}, xs.length = gs.length → Jmp lim gs xs js ys → Jmp lim (gsM M gs) (WC.sc M xs) (js.map (scT M)) (WC.sc M ys)
  | [], xs, ys, _, h => by cases h; exact rfl
  | (d, u, t) :: r, xs, ys, hl, h => by
    obtain ⟨⟨h1, h2, h3, h4⟩, h5⟩ := h
    obtain ⟨⟨a1, a2, a3, a4⟩, a5, a6⟩ := mem_legM.mp h1
    simp only at a1 a2 a3 a4 a5 a6
    have hg := grp_M (M := M) (gs := gs) (k := d) (by omega) a3
    refine ⟨⟨mem_legM.mpr ⟨mem_allM.mp (sim_M.mem.mpr (mem_allM.mpr ⟨a1, a2, a3, a4⟩)), ?_, ?_⟩, ?_, ?_, fun hu => ?_⟩, ?_⟩
    · simp only
      rw [cn_sc, hg, Int.mul_comm M]
      exact Int.mul_lt_mul_of_pos_right a5 hM
    · simp only
      rcases a6 with a6 | a6
      · exact .inl a6
      · exact .inr (by rw [cn_sc]; exact Int.mul_pos hM a6)
    · have := Int.mul_pos hM (show 0 < t by omega)
      show 1 ≤ M * t
      omega
    · show cn (WC.sc M xs) d + M * t ≤ (grp (gsM M gs) d).2
      rw [cn_sc, hg, ← Int.mul_add, Int.mul_comm M]
      exact Int.mul_le_mul_of_nonneg_right h3 (Int.le_of_lt hM)
    · show M * t ≤ cn (WC.sc M xs) u
      rw [cn_sc]
      exact Int.mul_le_mul_of_nonneg_left (h4 hu) (Int.le_of_lt hM)
    · show Jmp lim (gsM M gs) (apm (WC.sc M xs) d u (M * t)) (r.map (scT M)) (WC.sc M ys)
      rw [apm_sc (by omega) (by omega) a2]
      exact Jmp.sc hM (by rw [apm_len]; exact hl) h5
theorem Wl.gsM (hM : 0 < M) (W : Wl N m lim gs) : Wl N (m * M) lim (WC.gsM M gs) :=
  ⟨W.lim1, fun e => W.ne (List.length_eq_zero_iff.mp (by rw [← gsM_len (M := M), e]; rfl)), by rw [gsM_len]; exact W.len, rise_M hM W.rise⟩
end
end WC
namespace WC
open WF PySem
open L2 (atI ixN Key)
section
variable {N : Nat} {m lim : Int} {gs : List (Int × Int)} {cs f xs ys : List Int} {l : List Tr} {ms : List (Int × Int)} {t t' t2 t3 o : Bool} {Q : D → List D → Prop}
end
end WC
namespace WC
open WF PySem
open L2 (atI ixN Key)
section
variable {N : Nat} {m lim : Int} {gs : List (Int × Int)} {xs ys : List Int} {l : List Tr} {p : Int × Int} {t t' o : Bool} {Q : D → List D → Prop}
def keyL3 (l : List Tr) : List (Int × Int) := (sortT (l.map fun x => [x.1, x.2.1])).map fun k => (k.getD 0 0, k.getD 1 0)
theorem keyL3_perm : (sortT (l.map fun x => [x.1, x.2.1])).Perm (l.map fun x => [x.1, x.2.1]) := List.mergeSort_perm _ _
theorem keyL3_mem : p ∈ keyL3 l ↔ p ∈ mvs l := by
  unfold keyL3 mvs
  rw [List.mem_map, List.mem_map]
  constructor
  · rintro ⟨k, hk, rfl⟩
    obtain ⟨x, hx, rfl⟩ := List.mem_map.mp (keyL3_perm.mem_iff.mp hk)
    exact ⟨x, hx, rfl⟩
  · rintro ⟨x, hx, rfl⟩
    exact ⟨[x.1, x.2.1], keyL3_perm.mem_iff.mpr (List.mem_map.mpr ⟨x, hx, rfl⟩), rfl⟩
def rmT (l : List Tr) (p : Int × Int) : List Tr := l.filter fun x => decide (kTr x ≠ [.inl p.1, .inl p.2])
def stepT (l : List Tr) (p : Int × Int) : List Tr := if gT l p.1 p.2 = 1 then rmT (addT l (p.1, p.2, -1)) p else addT l (p.1, p.2, -1)
theorem gT_mem (hn : (mvs l).Nodup) {x : Tr} (h : x ∈ l) : gT l x.1 x.2.1 = x.2.2 := by
  induction l with
  | nil => cases h
  | cons y l ih =>
    have hn' : (y.1, y.2.1) ∉ mvs l ∧ (mvs l).Nodup := List.nodup_cons.mp hn
    rw [gT]
    rcases List.mem_cons.mp h with rfl | h
    · rw [if_pos ⟨rfl, rfl⟩]
    · have : ¬ (y.1 = x.1 ∧ y.2.1 = x.2.1) := fun z => hn'.1 (by rw [z.1, z.2]; exact List.mem_map.mpr ⟨x, h, rfl⟩)
      rw [if_neg this, ih hn'.2 h]
theorem sm_add1 {q : Int → Int → Bool} : sm (fun x => q x.1 x.2.1) (addT l (p.1, p.2, -1)) = sm (fun x => q x.1 x.2.1) l - if q p.1 p.2 = true then 1 else 0 := by
  rw [sm_add, sm_cons, sm_nil]
  simp only
  split <;> omega
theorem sm_rm {q : Int → Int → Bool} (h : ∀ x ∈ l, x.1 = p.1 ∧ x.2.1 = p.2 → x.2.2 = 0) : sm (fun x => q x.1 x.2.1) (rmT l p) = sm (fun x => q x.1 x.2.1) l := by
  induction l with
  | nil => rfl
  | cons x l ih =>
    have ih := ih fun y hy => h y (List.mem_cons_of_mem _ hy)
    have hx := h x List.mem_cons_self
    unfold rmT at ih ⊢
    rw [List.filter_cons, sm_cons]
    by_cases c : x.1 = p.1 ∧ x.2.1 = p.2
    · rw [if_neg (by simp [kTr_iff, c]), ih, hx c]
      split <;> omega
    · rw [if_pos (by simp only [ne_eq, kTr_iff, decide_eq_true_eq]; exact c), sm_cons, ih]
theorem rm_mem {x : Tr} (h : x ∈ rmT l p) : x ∈ l ∧ ¬ (x.1 = p.1 ∧ x.2.1 = p.2) := by
  obtain ⟨h1, h2⟩ := List.mem_filter.mp h
  exact ⟨h1, fun z => by simp [kTr_iff, z] at h2⟩
theorem rm_nd (h : (mvs l).Nodup) : (mvs (rmT l p)).Nodup := h.sublist ((List.filter_sublist).map _)
theorem add1_mem (hn : (mvs l).Nodup) (hp : p ∈ mvs l) {x : Tr} (h : x ∈ addT l (p.1, p.2, -1)) : (x.1 = p.1 ∧ x.2.1 = p.2 ∧ x.2.2 = gT l p.1 p.2 - 1) ∨ (x ∈ l ∧ ¬ (x.1 = p.1 ∧ x.2.1 = p.2)) := by
  induction l with
  | nil => cases hp
  | cons y l ih =>
    have hn' : (y.1, y.2.1) ∉ mvs l ∧ (mvs l).Nodup := List.nodup_cons.mp hn
    rw [addT] at h
    rw [gT]
    by_cases c : y.1 = p.1 ∧ y.2.1 = p.2
    · rw [if_pos c] at h
      rw [if_pos c]
      rcases List.mem_cons.mp h with rfl | h
      · exact .inl ⟨c.1, c.2, rfl⟩
      · refine .inr ⟨List.mem_cons_of_mem _ h, fun z => hn'.1 ?_⟩
        rw [c.1, c.2, ← z.1, ← z.2]
        exact List.mem_map.mpr ⟨x, h, rfl⟩
    · rw [if_neg c] at h
      rw [if_neg c]
      have hp' : p ∈ mvs l := by
        rcases List.mem_cons.mp hp with e | e
        · exact absurd ⟨(Prod.mk.inj (e.symm)).1, (Prod.mk.inj (e.symm)).2⟩ c
        · exact e
      rcases List.mem_cons.mp h with rfl | h
      · exact .inr ⟨List.mem_cons_self, c⟩
      · rcases ih hn'.2 hp' h with h | ⟨h, h2⟩
        · exact .inl h
        · exact .inr ⟨List.mem_cons_of_mem _ h, h2⟩
theorem step_nd (hn : (mvs l).Nodup) : (mvs (stepT l p)).Nodup := by
  unfold stepT
  split
  · exact rm_nd (nd_add hn)
  · exact nd_add hn
theorem step_sm (hn : (mvs l).Nodup) (hp : p ∈ mvs l) {q : Int → Int → Bool} : sm (fun x => q x.1 x.2.1) (stepT l p) = sm (fun x => q x.1 x.2.1) l - if q p.1 p.2 = true then 1 else 0 := by
  unfold stepT
  split
  · rename_i c
    rw [sm_rm fun x hx hxp => ?_, sm_add1]
    rcases add1_mem hn hp hx with h | h
    · rw [h.2.2, c]; rfl
    · exact absurd hxp h.2
  · exact sm_add1
theorem step_mem (hn : (mvs l).Nodup) (hp : p ∈ mvs l) (h0 : ∀ x ∈ l, 0 < x.2.2) {x : Tr} (h : x ∈ stepT l p) : 0 < x.2.2 ∧ (x.1, x.2.1) ∈ mvs l := by
  have hg : 0 < gT l p.1 p.2 := by
    obtain ⟨y, hy, rfl⟩ := List.mem_map.mp hp
    simp only
    rw [gT_mem hn hy]
    exact h0 y hy
  have key : ∀ x : Tr, x ∈ addT l (p.1, p.2, -1) → (gT l p.1 p.2 ≠ 1 ∨ ¬ (x.1 = p.1 ∧ x.2.1 = p.2)) → 0 < x.2.2 ∧ (x.1, x.2.1) ∈ mvs l := fun x hx hc => by
    rcases add1_mem hn hp hx with ⟨e1, e2, e3⟩ | h
    · refine ⟨?_, by rw [e1, e2]; exact hp⟩
      rcases hc with hc | hc
      · omega
      · exact absurd ⟨e1, e2⟩ hc
    · exact ⟨h0 x h.1, List.mem_map.mpr ⟨x, h.1, rfl⟩⟩
  unfold stepT at h
  split at h
  · obtain ⟨h1, h2⟩ := rm_mem h
    exact key x h1 (.inr h2)
  · rename_i c
    exact key x h (.inl c)
structure Ord (lim : Int) (gs : List (Int × Int)) (ys xs : List Int) (l : List Tr) : Prop where
  ok : StOk gs xs
  ob : obsL lim gs xs ys = []
  cov : Cov lim gs (crL lim gs xs ys) l
  pos : ∀ x ∈ l, 0 < x.2.2
  nd : (mvs l).Nodup
theorem Ord.step (W : Wl N m lim gs) (O : Ord lim gs ys xs l) (hp : p ∈ mvs l) (hl : p ∈ legM lim gs xs) : Ord lim gs ys (apm xs p.1 p.2 1) (stepT l p) ∧ tot3 (stepT l p) = tot3 l - 1 := by
  have hm := O.cov.mv
  have hpm := (mem_legM.mp hl).1
  have C : Cov lim gs (crL lim gs (apm xs p.1 p.2 1) ys) (stepT l p) := by
    refine ⟨fun z hz => ?_, fun z hz => Int.le_of_lt (step_mem O.nd hp O.pos hz).1, fun g hg => ?_⟩
    · obtain ⟨y, hy, e⟩ := List.mem_map.mp (step_mem O.nd hp O.pos hz).2
      rw [← e]; exact hm y hy
    · unfold crsT
      rw [step_sm (q := fun a b => decide (b < (g : Int)) && decide ((g : Int) ≤ a)) O.nd hp]
      have := O.cov.cr g hg
      unfold crsT at this
      rw [this, cn_crL hg, cn_crL hg, (W.suf_move O.ok.len (t := 1) (mem_allM.mpr hpm) hg).1]
      have e : (decide (p.2 < (g : Int)) && decide ((g : Int) ≤ p.1)) = true ↔ p.2 < (g : Int) ∧ (g : Int) ≤ p.1 := by simp
      by_cases c : p.2 < (g : Int) ∧ (g : Int) ≤ p.1
      · rw [if_pos (e.mpr c), if_pos (by omega)]; omega
      · rw [if_neg (fun z => c (e.mp z)), if_neg (by omega)]; omega
  refine ⟨⟨leg_ok O.ok hl, ?_, C, fun x hx => (step_mem O.nd hp O.pos hx).1, step_nd O.nd⟩, ?_⟩
  · refine obsL_nil.mpr fun k hk => ?_
    have := C.cr k hk
    rw [cn_crL hk] at this
    have nn : 0 ≤ crsT (stepT l p) (k : Int) := by
      have := sm_le (l := stepT l p) (p := fun _ => false) (q := fun x => decide (x.2.1 < (k : Int)) && decide ((k : Int) ≤ x.1)) C.nn (fun z _ h => by cases h)
      rw [sm_zero (fun _ _ => rfl)] at this
      exact this
    refine ⟨by omega, fun hc => ?_⟩
    have s := (W.suf_move O.ok.len (t := 1) (mem_allM.mpr hpm) hk)
    have o := (obsL_nil.mp O.ob k hk).2 hc
    have s2 := s.2 hc
    rw [s.1, if_neg s2]
    omega
  · rw [tot3_sm, tot3_sm, step_sm (q := fun _ _ => true) O.nd hp]
    simp
def legF (lim : Int) (gs : List (Int × Int)) (xs : List Int) (l : List Tr) : List (Int × Int) := (keyL3 l).filter (isLeg lim gs xs)
theorem legF_mem : p ∈ legF lim gs xs l ↔ p ∈ mvs l ∧ p ∈ legM lim gs xs := by
  unfold legF
  rw [List.mem_filter, keyL3_mem, isLeg_mem]
theorem Ord.some (W : Wl N m lim gs) (hy : StOk gs ys) (O : Ord lim gs ys xs l) (hne : l ≠ []) : legF lim gs xs l ≠ [] := by
  obtain ⟨x, h1, h2⟩ := O.cov.legal W O.ok hy O.ob O.pos hne
  exact List.ne_nil_of_mem (legF_mem.mpr ⟨List.mem_map.mpr ⟨x, h1, rfl⟩, h2⟩)
end
end WC
namespace WC
open WF PySem
open L2 (atI ixN Key)
section
variable {N : Nat} {m lim : Int} {gs : List (Int × Int)} {xs ys : List Int} {l : List Tr} {p : Int × Int} {t t' t2 o : Bool} {Q : D → List D → Prop}
@[simp] theorem wE_dpopK {i : Nat} {k : D} {S : S0} {Q : D → S0 → Prop} : wE (dpopK i k) S Q ↔ rd (S[i]?.bind fun d => match d with
  | .dtk true ks xs => if D.imms xs = true then (keyT k).bind fun q => (lk ks xs q).map fun x => (x, S.set i (.dtk true (drK ks q) (drV ks xs q))) else none
  | _ => none) fun p => Q p.1 p.2 := wE_pr
@[simp] theorem wE_dpop {i : Nat} {fk : EM} {S : S0} {Q : D → S0 → Prop} : wE (dpopM i fk) S Q ↔ wE (dtkS i (bindM fk (dpopK i))) S Q := Iff.rfl
end
end WC
namespace WC
open WF PySem
open L2 (atI ixN Key)
section
variable {N : Nat} {m lim L L' : Int} {gs : List (Int × Int)} {xs ys zs : List Int} {t t' t2 : Bool} {Q : D → List D → Prop}
def kD (ks : List Int) : D := .dic true (ks.map Sum.inl) (ks.map fun _ => .bl true)
@[simp] theorem isUn_kD {ks : List Int} : isUn (kD ks) = false := rfl
@[simp] theorem asDic_kD {ks : List Int} : asDic (kD ks) = some (kD ks) := rfl
end
end WC
namespace WC
open WF PySem
open L2 (atI ixN Key)
section
variable {N : Nat} {m lim L L' : Int} {gs : List (Int × Int)} {xs ys zs : List Int} {t t' t2 : Bool} {Q : D → List D → Prop}
def oiD : Option Int → D
  | none => .non
  | some v => .int v
@[simp] theorem oiD_none : oiD none = .non := rfl
@[simp] theorem oiD_some {v : Int} : oiD (some v) = .int v := rfl
@[simp] theorem isUn_oiD {o : Option Int} : isUn (oiD o) = false := by cases o <;> rfl
@[simp] theorem frz_oiD {o : Option Int} : D.frz (oiD o) = oiD o := by cases o <;> rfl
@[simp] theorem imm_oiD {o : Option Int} : D.imm (oiD o) = true := by cases o <;> rfl
theorem Wl.wlim (W : Wl N m lim gs) (h : 1 ≤ L) : Wl N m L gs := ⟨h, W.ne, W.len, W.rise⟩
structure Least (f : Int → Bool) (r : Option Int) : Prop where
  no : r = none → ∀ L, 1 ≤ L → f L = false
  at_ : ∀ v, r = some v → 1 ≤ v ∧ f v = true ∧ ∀ L, 1 ≤ L → L < v → f L = false
end
end WC
namespace WC
open WF PySem
open L2 (atI ixN Key)
section
variable {N : Nat} {m lim L L' : Int} {gs : List (Int × Int)} {xs ys zs : List Int} {t t' t2 : Bool} {Q : D → List D → Prop}
theorem lastW_eq : ∀ {gs : List (Int × Int)} {w : Int} (h : gs ≠ []), lastW w gs = (gs.getLast h).1
  | [p], w, _ => rfl
  | p :: q :: r, w, _ => by
    rw [List.getLast_cons (by simp)]
    exact lastW_eq (gs := q :: r) (w := p.1) (by simp)
theorem wt_last (h : gs ≠ []) : wt gs ((gs.length : Int) - 1) = lastW 0 gs := by
  have hp := List.length_pos_iff.mpr h
  rw [lastW_eq h, List.getLast_eq_getElem]
  unfold wt
  rw [if_neg (by omega)]
  obtain ⟨k, hk⟩ : ∃ k : Nat, gs.length = k + 1 := ⟨gs.length - 1, by omega⟩
  have e : ((gs.length : Int) - 1) = (k : Nat) := by omega
  rw [e]
  simp [grp, hk, show k < gs.length by omega]
theorem Wl.le_last (W : Wl N m lim gs) {k : Int} (h0 : -1 ≤ k) (h1 : k < gs.length) : wt gs k ≤ lastW 0 gs := by
  have hp := List.length_pos_iff.mpr W.ne
  rw [← wt_last W.ne]
  obtain ⟨n, hn⟩ : ∃ n : Nat, gs.length = n + 1 := ⟨gs.length - 1, by omega⟩
  have e : ((gs.length : Int) - 1) = (n : Nat) := by omega
  rw [e]
  have hpos := W.wt_pos (k := n) (by omega)
  by_cases c : k < 0
  · have : wt gs k = 0 := if_pos c
    omega
  · obtain ⟨j, rfl⟩ := Int.eq_ofNat_of_zero_le (show 0 ≤ k by omega)
    by_cases e2 : j = n
    · rw [e2]; omega
    · exact Int.le_of_lt (W.wt_lt (by omega) (by omega))
theorem Wl.last_pos (W : Wl N m lim gs) : 1 ≤ lastW 0 gs := by
  have hp := List.length_pos_iff.mpr W.ne
  have h1 := W.wt_pos (k := 0) (by omega)
  have h2 := W.le_last (k := ((0 : Nat) : Int)) (by omega) (by omega)
  omega
theorem Wl.free (W : Wl N m lim gs) : Wl N m (lastW 0 gs) gs := W.wlim W.last_pos
end
end WC
namespace WC
open WF PySem
open L2 (atI ixN Key)
section
variable {N : Nat} {m lim L L' : Int} {gs : List (Int × Int)} {xs ys zs : List Int} {t t' t2 : Bool} {Q : D → List D → Prop}
theorem Pth.app : ∀ {k : Nat} {zs : List Int} {n : Nat}, Pth L gs n xs ys → Pth L gs k ys zs → Pth L gs (n + k) xs zs
  | 0, _, n, h, h' => by cases h'; exact h
  | k + 1, zs, n, h, ⟨z, p, h1, h2, e⟩ => ⟨z, p, Pth.app h h1, h2, e⟩
end
end WC
namespace WC
open WF PySem
open L2 (atI ixN Key)
section
variable {N : Nat} {m lim L L' : Int} {gs : List (Int × Int)} {xs ys zs f : List Int} {t t' t2 : Bool} {Q : D → List D → Prop}
end
end WC
namespace WC
open WF PySem
open L2 (atI ixN Key)
section
variable {N : Nat} {m lim n : Int} {gs : List (Int × Int)} {xs ys zs : List Int} {l : List Tr} {p : Int × Int} {t t' t2 o : Bool} {Q : D → List D → Prop}
theorem mvs_perm {l l' : List Tr} (p : l'.Perm l) (h : (mvs l).Nodup) : (mvs l').Nodup := (p.map _).nodup_iff.mpr h
theorem Ord.min (W : Wl N m lim gs) (hx : StOk gs xs) (ho : obsL lim gs xs ys = []) : Ord lim gs ys xs (minL lim gs (crL lim gs xs ys)) :=
  have C := crL_ok ho
  ⟨hx, ho, minL_cov W C, minL_pos W C, mvs_perm sort3_perm (sw_nd W C _ (Nat.le_refl _))⟩
end
end WC
namespace WC
open WF PySem
open L2 (atI ixN)
section
variable {N : Nat} {m lim : Int} {gs : List (Int × Int)} {f xs ys zs : List Int} {js : List (Int × Int)} {Q : D → List D → Prop} {o : Bool}
end
end WC
namespace WC
open WF PySem
open L2 (atI ixN)
section
variable {N : Nat} {m lim : Int} {gs : List (Int × Int)} {xs ys zs : List Int} {d u : Int}
end
end WC
namespace WC
open WF PySem
open L2 (atI ixN)
section
variable {N : Nat} {m lim top : Int} {gs : List (Int × Int)} {xs ys zs : List Int} {d u : Int}
end
end WC
namespace WC
open WF PySem
open L2 (atI ixN)
section
variable {N : Nat} {m lim : Int} {gs : List (Int × Int)} {f xs ys zs cs ds es : List Int} {A B M : List Tr} {Q : D → List D → Prop} {o o' : Bool}
end
end WC
namespace WC
open WF PySem
open L2 (atI ixN)
section
variable {N : Nat} {m lim top : Int} {gs : List (Int × Int)} {xs ys zs : List Int} {d u : Int} {j : Bool}
end
end WC
namespace WC
open WF PySem
open L2 (atI ixN)
section
variable {N : Nat} {m lim top : Int} {gs : List (Int × Int)} {xs ys zs : List Int} {d u : Int} {j : Bool}
end
end WC
namespace WC
open WF PySem
open L2 (atI ixN)
def Shw (B n : Nat) (d : D) : Prop := ∃ y : PyData, d.py = some y ∧ y.showable = true ∧ y.hasDict = false ∧ y.depth ≤ n ∧ y.leavesShort 24 = true ∧ y.bulk ≤ B
def ShwA (B n m : Nat) (ds : List D) : Prop := ∃ ys : List PyData, D.pys ds = some ys ∧ PyData.showableAll ys = true ∧ PyData.hasDictAll ys = false ∧ PyData.depthAll ys ≤ n ∧ PyData.leavesShortAll 24 ys = true ∧ PyData.bulkAll ys ≤ m * (B + 1)
theorem Shw.mono {B B' n n' : Nat} {d : D} (s : Shw B n d) (h : B ≤ B') (h2 : n ≤ n') : Shw B' n' d := let ⟨y, a, b, c, e, f, g⟩ := s; ⟨y, a, b, c, Nat.le_trans e h2, f, Nat.le_trans g h⟩
theorem ShwA.lst {B n m : Nat} {o : Bool} {ds : List D} (s : ShwA B n m ds) : Shw (m * (B + 1)) (n + 1) (.lst o ds) := by
  obtain ⟨ys, b1, b2, b3, b4, b5, b6⟩ := s
  exact ⟨.list ys, by simp [D.py, b1], by simpa [PyData.showable] using b2, by simpa [PyData.hasDict] using b3, by simp only [PyData.depth]; omega, by simpa [PyData.leavesShort] using b5, by simpa [PyData.bulk] using b6⟩
theorem ShwA.tup {B n m : Nat} {ds : List D} (s : ShwA B n m ds) : Shw (m * (B + 1)) (n + 1) (.tup ds) := by
  obtain ⟨ys, b1, b2, b3, b4, b5, b6⟩ := s
  exact ⟨.tuple ys, by simp [D.py, b1], by simpa [PyData.showable] using b2, by simpa [PyData.hasDict] using b3, by simp only [PyData.depth]; omega, by simpa [PyData.leavesShort] using b5, by simpa [PyData.bulk] using b6⟩
@[simp] theorem reprD_lst {o : Bool} {xs : List D} : reprD [.lst o xs] = txtD (.lst o xs) := rfl
@[simp] theorem reprD_tup {xs : List D} : reprD [.tup xs] = txtD (.tup xs) := rfl
@[simp] theorem eqSD_str {n : Bool} {x y : Str} : eqSD n (.str x) (.str y) = some (.bl (if n then !decide (x = y) else decide (x = y))) := rfl
end WC
namespace Wk06
open WC
open WF PySem
open L2 (atI ixN Key)
section
variable {t t' t2 o : Bool} {N : Nat} {m lim n : Int} {gs : List (Int × Int)} {xs ys : List Int} {Q : D → List D → Prop}
theorem segP_one : segP lim gs 1 = [[0]] := by simp [segP, stt]
theorem stt_succ {k : Nat} : stt lim gs (k + 1) = k + 1 ↔ ¬ ((grp gs ((k : Int) + 1)).1 - (grp gs k).1 ≤ lim) := by
  have e1 : wt gs ((k + 1 : Nat) : Int) = (grp gs ((k : Int) + 1)).1 := by rw [wt_nat]; rfl
  have e2 : wt gs (k : Int) = (grp gs k).1 := wt_nat
  have h := stt_le (lim := lim) (gs := gs) k
  rw [stt, e1, e2]
  split <;> omega
theorem flights_eq (h0 : gs ≠ []) (hl : gs.length ≤ 100) : wF m__law_flights [wlD t lim gs] Q ↔ Q (.lst true ((segL lim gs).map ownL)) [wlD t lim gs] := by
  refine wF_iff fun Q q => ?_
  have hp := List.length_pos_iff.mpr h0
  rw [m__law_flights, wF_def]
  simp [b__law_flights]
  refine ⟨by omega, ?_⟩
  refine loop_rng (fun k S => ∃ x2, S = [wlD t lim gs, .lst true ((segP lim gs (k + 1)).map ownL), x2]) ?_ ⟨.un, by simp [segP_one, ownL]⟩ ?_
  · rintro k hk S ⟨x2, rfl⟩
    obtain ⟨h1, h2, hs, e1, e2⟩ := segP_ok (lim := lim) (gs := gs) (k + 1)
    have es : segP lim gs (k + 2) = if stt lim gs (k + 1) = k + 1 then segP lim gs (k + 1) ++ [[((k + 1 : Nat) : Int)]] else (segP lim gs (k + 1)).set ((segP lim gs (k + 1)).length - 1) ((segP lim gs (k + 1)).getD ((segP lim gs (k + 1)).length - 1) [] ++ [((k + 1 : Nat) : Int)]) := rfl
    rw [show k + 1 + 1 = k + 2 from rfl, es]
    have hne := h1 (by omega)
    have hls := segP_lens (lim := lim) (gs := gs) (k + 1)
    clear h1 es e1
    have ss := stt_succ (lim := lim) (gs := gs) (k := k)
    have c1 : ((k + 1 : Nat) : Int) = (k : Int) + 1 := by omega
    have c2 : (1 : Int) + (k : Int) = (k : Int) + 1 := by omega
    have c3 : (k : Int) + 1 - 1 = k := by omega
    have a1 : atI gs ((k : Int) + 1) = some (grp gs ((k : Int) + 1)) := at_grp (by omega) (by omega)
    have a2 : atI gs (k : Int) = some (grp gs k) := at_grp (by omega) (by omega)
    rw [c1, c2]
    generalize segP lim gs (k + 1) = sg at *
    by_cases hc : lim < (grp gs ((k : Int) + 1)).1 - (grp gs k).1
    · have hk : stt lim gs (k + 1) = k + 1 := ss.mpr (by omega)
      have e3 : ixN (sg.length + 1) (-1) = some sg.length := by
        unfold ixN
        rw [if_neg (by omega), if_pos (by omega)]
        congr 1
        omega
      have h3 : sg.length < 1000000 := by omega
      simp [atI_map, a1, a2, c3, hc, hk, e3, h3, ownL]
    · have hk : ¬ stt lim gs (k + 1) = k + 1 := fun h => ss.mp h (by omega)
      have h4 : 0 < sg.length := List.length_pos_iff.mpr hne
      have e3 : ixN sg.length (-1) = some (sg.length - 1) := by
        unfold ixN
        rw [if_neg (by omega), if_pos (by omega)]
        congr 1
        omega
      have e4 : sg[sg.length - 1]? = some sg[sg.length - 1] := List.getElem?_eq_getElem _
      have h5 : sg[sg.length - 1].length < 1000000 := by have := hls _ (List.getElem_mem (by omega : sg.length - 1 < sg.length)); omega
      simp [atI_map, a1, a2, c3, hc, hk, e3, e4, ownL, h5]
  · rintro S ⟨x2, rfl⟩
    simp
    rw [show gs.length - 1 + 1 = gs.length by omega]
    exact q
def sufS (xs : List Int) : List Int → List Int
  | [] => []
  | x :: r => ((x :: r).map (cn xs)).sum :: sufS xs r
theorem sufS_len : ∀ {l : List Int}, (sufS xs l).length = l.length
  | [] => rfl
  | x :: r => by simp [sufS, sufS_len (l := r)]
theorem seg_flat : ∀ k, (segP lim gs k).flatten = (List.range k).map fun (j : Nat) => (j : Int)
  | 0 => rfl
  | k + 1 => by
    have ih := seg_flat k
    obtain ⟨h1, _⟩ := segP_ok (lim := lim) (gs := gs) k
    have es : segP lim gs (k + 1) = if stt lim gs k = k then segP lim gs k ++ [[(k : Int)]] else (segP lim gs k).set ((segP lim gs k).length - 1) ((segP lim gs k).getD ((segP lim gs k).length - 1) [] ++ [(k : Int)]) := rfl
    rw [List.range_succ, List.map_append, ← ih, es]
    split
    · simp
    · rename_i hk
      have hk0 : 0 < k := by
        rcases Nat.eq_zero_or_pos k with rfl | h
        · exact absurd rfl hk
        · exact h
      have hne := h1 hk0
      generalize segP lim gs k = sg at hne
      obtain ⟨b, y, rfl⟩ : ∃ b y, sg = b ++ [y] := ⟨sg.dropLast, sg.getLast hne, (List.dropLast_concat_getLast hne).symm⟩
      simp
theorem sufS_rng {s0 : Nat} : ∀ (m a : Nat), (∀ j, a ≤ j → j < a + m → j < gs.length ∧ stt lim gs j = s0) → ¬ (a + m < gs.length ∧ stt lim gs (a + m) = s0) → sufS xs ((List.range' a m).map fun (j : Nat) => (j : Int)) = (List.range' a m).map fun (j : Nat) => suf lim gs xs j
  | 0, a, _, _ => rfl
  | m + 1, a, h, e => by
    have ih := sufS_rng m (a + 1) (fun j h1 h2 => h j (by omega) (by omega)) (fun z => e (by rw [show a + (m + 1) = a + 1 + m by omega]; exact z))
    obtain ⟨ha, hs⟩ := h a (Nat.le_refl _) (by omega)
    rw [List.range'_succ, List.map_cons, List.map_cons, sufS, ih, suf_rec ha]
    congr 1
    rw [List.map_cons, List.sum_cons]
    congr 1
    unfold nxt
    cases m with
    | zero =>
      rw [if_neg]
      · rfl
      · rw [hs]; exact e
    | succ m =>
      obtain ⟨ha1, hs1⟩ := h (a + 1) (by omega) (by omega)
      rw [if_pos ⟨ha1, hs1.trans hs.symm⟩]
      rw [List.range'_succ, List.map_cons, List.map_cons, sufS] at ih
      exact (List.cons.inj ih).1
theorem seg_suf {l : List Int} (hl : l ∈ segL lim gs) : sufS xs l = l.map fun j => suf lim gs xs j.toNat := by
  unfold segL at hl
  rw [segP_form] at hl
  obtain ⟨s, hs, rfl⟩ := List.mem_map.mp hl
  obtain ⟨h1, h2⟩ := mem_strP.mp hs
  have hf := sufI_form (lim := lim) (gs := gs) (n := gs.length) (s := s) (by omega)
  have hm : ∀ j, j ∈ sufI lim gs gs.length s ↔ j < gs.length ∧ s ≤ j ∧ stt lim gs j = stt lim gs s := fun j => by
    unfold sufI
    simp
  unfold segF
  generalize (sufI lim gs gs.length s).length = m at hf
  rw [hf] at hm ⊢
  rw [sufS_rng (s0 := stt lim gs s) (lim := lim) (gs := gs) m s (fun j h3 h4 => ?_) (fun z => ?_), List.map_map]
  · rfl
  · have := (hm j).mp (List.mem_range'.mpr ⟨j - s, by omega, by omega⟩)
    exact ⟨this.1, this.2.2⟩
  · have := (hm (s + m)).mpr ⟨z.1, by omega, z.2⟩
    obtain ⟨i, i1, i2⟩ := List.mem_range'.mp this
    omega
def flS (xs : List Int) (ls : List (List Int)) : List Int := (ls.map (sufS xs)).flatten
theorem flS_len : ∀ {ls : List (List Int)}, (flS xs ls).length = ls.flatten.length
  | [] => rfl
  | l :: ls => by
    have ih := flS_len (ls := ls)
    unfold flS at *
    simp only [List.map_cons, List.flatten_cons, List.length_append, sufS_len, ih]
theorem flS_seg : flS xs (segL lim gs) = sufL lim gs xs := by
  have key : ∀ ls : List (List Int), (∀ l ∈ ls, l ∈ segL lim gs) → flS xs ls = ls.flatten.map fun j => suf lim gs xs j.toNat := fun ls => by
    induction ls with
    | nil => intro _; rfl
    | cons l ls ih =>
      intro h
      have e := ih fun l m => h l (List.mem_cons_of_mem _ m)
      unfold flS at *
      rw [List.map_cons, List.flatten_cons, List.flatten_cons, List.map_append, e, seg_suf (h l List.mem_cons_self)]
  rw [key _ fun _ h => h]
  unfold segL sufL
  rw [seg_flat, List.map_map]
  rfl
theorem tally_eq (h0 : gs ≠ []) (hl : gs.length ≤ 100) (hx : xs.length = gs.length) : wF m__law_tally [wlD t lim gs, stS true xs] Q ↔ Q (stS true (sufL lim gs xs)) [wlD t lim gs, stS true xs] := by
  refine wF_iff fun Q q => ?_
  rw [m__law_tally, wF_def]
  simp [b__law_tally, flights_eq h0 hl]
  refine loop_pre frzL (fun pre S => ∃ x3 x4 x5 x6, S = [wlD t lim gs, stS true xs, .lst true ((flS xs pre).map .int), x3, x4, x5, x6]) (segL lim gs) ?_ ⟨_, _, _, _, rfl⟩ ?_
  · rintro pre l post hp S ⟨x3, x4, x5, x6, rfl⟩
    have ff : (segL lim gs).flatten = (List.range gs.length).map fun (j : Nat) => (j : Int) := seg_flat _
    have hb : ∀ j ∈ l, 0 ≤ j ∧ j < xs.length := fun j hj => by
      have : j ∈ (segL lim gs).flatten := by
        rw [hp]
        exact List.mem_flatten.mpr ⟨l, by simp, hj⟩
      rw [ff] at this
      obtain ⟨i, hi, rfl⟩ := List.mem_map.mp this
      have := List.mem_range.mp hi
      omega
    have ln : (flS xs pre).length + (sufS xs l).length ≤ 100 := by
      have := congrArg List.length ff
      rw [hp, List.length_map, List.length_range] at this
      simp only [List.flatten_append, List.flatten_cons, List.length_append] at this
      rw [flS_len, sufS_len]
      omega
    simp [frzL]
    have er : (l.map D.int).reverse = l.reverse.map D.int := by rw [List.map_reverse]
    have fz : D.frzs (l.reverse.map D.int) = l.reverse.map D.int := by
      rw [D.frzs_map, List.map_map]
      rfl
    rw [er, fz]
    refine loop_pre D.int (fun r S => ∃ x6, S = [wlD t lim gs, stS true xs, .lst true ((flS xs pre).map .int), .lst false (l.map .int), .int ((r.map (cn xs)).sum), .lst true ((sufS xs r.reverse).map .int), x6]) l.reverse ?_ ⟨_, rfl⟩ ?_
    · rintro r j post' hr S ⟨x6, rfl⟩
      have hj := hb j (List.mem_reverse.mp (by rw [hr]; simp))
      have a1 : atI xs j = some (cn xs j) := at_cn hj.1 hj.2
      simp [atI_map, a1]
      refine ⟨?_, ?_⟩
      · have : r.length ≤ l.length := by
          have := congrArg List.length hr
          simp at this
          omega
        rw [sufS_len] at ln
        rw [sufS_len, List.length_reverse]
        omega
      · rw [sufS, List.map_cons]
        congr 2
        rw [List.map_cons, List.sum_cons, List.map_reverse, List.sum_reverse]
        omega
    · rintro S ⟨x6, rfl⟩
      simp
      refine ⟨by omega, ?_⟩
      rw [← List.map_append]
      congr 1
      unfold flS
      simp
  · rintro S ⟨x3, x4, x5, x6, rfl⟩
    simp
    rw [flS_seg]
    exact q
theorem brw_same {n : Nat} {d d' : D} (h : Pl n d.frz) (e : d.frz = d'.frz) : brw (m__law_same n) [d, d'] = some (.bl true) :=
  brw_of (es := [lt' d'.frz, lt' d'.frz]) rfl (wF_eq fun Q => by
    rw [← e]
    show wF (m__law_same n) [d.frz, d'.frz] Q ↔ _
    rw [← e]
    exact same_eq h rfl)
theorem pl_own {n : Nat} {ls : List (List Int)} {o : Bool} (h : ls.length ≤ 1000000) (h2 : ∀ l ∈ ls, l.length ≤ 1000000) : Pl (n + 3) (.lst o (ls.map frzL)) := pl_lmap h fun l hl => pl_ints (h2 l hl)
theorem right_sp {a b : Int} (r : Rg 0 a b 0) (q : ∀ x, Q (.bl true) [x]) : wF m__law_right_v36 [rngE a b 0] Q := by
  rw [m__law_right_v36, wF_def]
  simp [b__law_right_v36]
  refine loop_rng (fun i S => ∃ c x1 x2 x3 x4 x5 x6 x7, ∃ a, S = [rngE a b c, x1, x2, x3, x4, x5, x6, x7] ∧ Rg (20000 * i) a b c) ?_ ⟨_, _, _, _, _, _, _, _, _, rfl, r⟩ ?_
  · rintro i hi S ⟨c, x1, x2, x3, x4, x5, x6, x7, a, rfl, r⟩
    simp
    refine pick_sp (ns := [3, 1000000000000]) r (by omega) (by simp) (by simp) fun g a c hg r => ?_
    have hg : 1 ≤ g ∧ g ≤ 1000000000000 := by simp at hg; omega
    simp
    refine rwell_sp (n := 12) r (by omega) (by omega) (by omega) hg.1 (by omega) fun lim gs a c W r => ?_
    have l1 : gs.length ≤ 12 := W.len
    have hl' : gs.length ≤ 100 := by omega
    have h0 := W.ne
    have hp := List.length_pos_iff.mpr h0
    obtain ⟨s1, s2, hs, e1, e2⟩ := segP_ok (lim := lim) (gs := gs) gs.length
    have sl := segP_lens (lim := lim) (gs := gs) gs.length
    have s1 := s1 hp
    rw [show segP lim gs gs.length = segL lim gs from rfl] at s1 s2 sl
    obtain ⟨sh, st, es⟩ := List.exists_cons_of_ne_nil s1
    have b1 : brw (m__law_same 8) [.lst true ((segL lim gs).map ownL), .lst true ((segL lim gs).map ownL)] = some (.bl true) := brw_same (by
      simp only [D.frz, frzs_ownL]
      exact pl_own (n := 5) (by omega) (fun l m => by have := sl l m; omega)) rfl
    have ap : apc 0 (.int 77) (.lst true ((segL lim gs).map ownL)) = some (.lst true (((segL lim gs).map ownL).set 0 (.lst true (sh.map .int ++ [.int 77])))) := apc_at (by rw [es]; rfl) (by
      have := sl sh (by rw [es]; simp)
      rw [List.length_map]; omega)
    have a0 : atI gs 0 = some (grp gs 0) := at_grp (by omega) (by omega)
    have hgd : grd lim gs = decide ((grp gs 0).1 ≤ lim) := by
      unfold grd
      rw [show wt gs 0 = (grp gs 0).1 from wt_nat (k := 0)]
    have b2 : ∀ x : Bool, brw (m__law_same 8) [.lst true [.lst true ((segL lim gs).map ownL), .bl x, .bl x], .lst true [.lst false ((segL lim gs).map frzL), .bl x, .bl x]] = some (.bl true) := fun x => brw_same (by
      simp only [D.frz, D.frzs, frzs_ownL]
      exact pl_lst.mpr ⟨fun d hd => by
        simp only [List.mem_cons, List.not_mem_nil, or_false] at hd
        rcases hd with rfl | rfl | rfl
        · exact pl_own (n := 4) (by omega) (fun l m => by have := sl l m; omega)
        · exact pl_bl
        · exact pl_bl, by simp⟩) (by simp only [D.frz, D.frzs, frzs_ownL, frzs_frzL])
    simp [aslW hl', flights_eq h0 hl', segments_eq hl', b1, ap]
    refine ⟨by omega, ?_⟩
    simp [atI_map, a0, gpD, wF_pick, segments_eq hl', is_grounded_eq h0, hgd, b2]
    refine rstate_sp r W (by omega) (by omega) (by omega) fun xs a c hx r => ?_
    have lx := hx.len
    simp
    refine rstate_sp r W (by omega) (by omega) (by omega) fun ys a c hy r => ?_
    have ly := hy.len
    simp
    rw [mulD2_one (by omega) (by omega)]
    simp
    have eL : [sq true (xs.map D.int), sq true (ys.map D.int), D.tup (List.replicate gs.length (D.int 0))] = [xs, ys, List.replicate gs.length 0].map (stS true) := by
      simp [sq]
    rw [eL]
    have hL : ∀ z ∈ [xs, ys, List.replicate gs.length 0], z.length = gs.length := fun z hz => by
      simp only [List.mem_cons, List.not_mem_nil, or_false] at hz
      rcases hz with rfl | rfl | rfl
      · exact lx
      · exact ly
      · exact List.length_replicate
    refine loop_pre (stS true) (fun pre S => ∃ x4 x5 x6 x7, S = [rngE a b c, .int (i : Int), wlD true lim gs, wlD false lim gs, x4, x5, x6, x7]) [xs, ys, List.replicate gs.length 0] ?_ ⟨_, _, _, _, rfl⟩ ?_
    · rintro pre z post hz S ⟨x4, x5, x6, x7, rfl⟩
      have lz := hL z (by rw [hz]; simp)
      have ls : (sufL lim gs z).length = gs.length := sufL_len
      have tl := fun {Q : D → List D → Prop} => tally_eq (t := true) (lim := lim) (Q := Q) h0 hl' lz
      have sc := fun {t t' : Bool} {Q : D → List D → Prop} => suffix_counts_eq (t := t) (t' := t') (lim := lim) (Q := Q) hl' lz
      have fc := fun {t t' : Bool} {Q : D → List D → Prop} => state_from_counts_eq (t := t) (t' := t') (lim := lim) (Q := Q) hl' ls
      have us : unsL lim gs (sufL lim gs z) = z := uns_suf lz
      have b3 : brw (m__law_same 8) [.lst true [stS true (sufL lim gs z), stS true (sufL lim gs z), stS true z, stS true z], .lst true [stS true (sufL lim gs z), stS true (sufL lim gs z), stS true z, stS true z]] = some (.bl true) := brw_same (by
        have p1 : Pl 7 (stS true (sufL lim gs z)) := pl_st (n := 5) (by omega)
        have p2 : Pl 7 (stS true z) := pl_st (n := 5) (by omega)
        have f1 : ∀ z : List Int, (stS true z).frz = stS true z := fun z => by simp
        simp only [D.frz, D.frzs, f1]
        refine pl_lst.mpr ⟨fun d hd => ?_, by simp⟩
        simp only [List.mem_cons, List.not_mem_nil, or_false] at hd
        rcases hd with rfl | rfl | rfl | rfl <;> assumption) rfl
      simp [tl, sc, fc, us, wF_pick, st_of, tp_of, b3]
    · rintro S ⟨x4, x5, x6, x7, rfl⟩
      exact ⟨_, _, _, _, _, _, _, _, _, rfl, r.mono (by omega)⟩
  · rintro S ⟨c, x1, x2, x3, x4, x5, x6, x7, a, rfl, r⟩
    simp
    exact q _
theorem law_true {ns : List Int} (h : ns.length ≤ 63) : ∃ d, m_law_v42 [.scr ns] = some (.ok (.bl true), [d]) := by
  rw [m_law_v42]
  exact law_shape (n := 3) (by omega) (by omega) (fun a b Q r q => right_sp r q) ns
end
end Wk06
namespace Wk06
open WF WC PySem PySem.Spec PyProof.Rows L2
def d__law_fold : He.DefD := ⟨("_law_fold", none), "_law_fold", "_law_fold", defArgs (top 9), defBody (top 9), defScope (top 9), [], []⟩
def d__law_draw : He.DefD := ⟨("_law_draw", none), "_law_draw", "_law_draw", defArgs (top 8), defBody (top 8), defScope (top 8), [], []⟩
def d__law_pick : He.DefD := ⟨("_law_pick", none), "_law_pick", "_law_pick", defArgs (top 11), defBody (top 11), defScope (top 11), [], []⟩
def d__law_random_well : He.DefD := ⟨("_law_random_well", none), "_law_random_well", "_law_random_well", defArgs (top 13), defBody (top 13), defScope (top 13), [], []⟩
def d_segment_starts : He.DefD := ⟨("segment_starts", none), "segment_starts", "segment_starts", defArgs (top 1), defBody (top 1), defScope (top 1), [], []⟩
def d_segments : He.DefD := ⟨("segments", none), "segments", "segments", defArgs (top 2), defBody (top 2), defScope (top 2), [], []⟩
def d__law_as_lists : He.DefD := ⟨("_law_as_lists", none), "_law_as_lists", "_law_as_lists", defArgs (top 12), defBody (top 12), defScope (top 12), [], []⟩
def d__law_flights : He.DefD := ⟨("_law_flights", none), "_law_flights", "_law_flights", defArgs (top 15), defBody (top 15), defScope (top 15), [], []⟩
def d__law_same : He.DefD := ⟨("_law_same", none), "_law_same", "_law_same", defArgs (top 10), defBody (top 10), defScope (top 10), [], []⟩
def d__law_random_state : He.DefD := ⟨("_law_random_state", none), "_law_random_state", "_law_random_state", defArgs (top 14), defBody (top 14), defScope (top 14), [], []⟩
def d__law_tally : He.DefD := ⟨("_law_tally", none), "_law_tally", "_law_tally", defArgs (top 16), defBody (top 16), defScope (top 16), [], []⟩
def d_suffix_counts : He.DefD := ⟨("suffix_counts", none), "suffix_counts", "suffix_counts", defArgs (top 4), defBody (top 4), defScope (top 4), [], []⟩
def d_is_grounded : He.DefD := ⟨("is_grounded", none), "is_grounded", "is_grounded", defArgs (top 3), defBody (top 3), defScope (top 3), [], []⟩
def d_state_from_counts : He.DefD := ⟨("state_from_counts", none), "state_from_counts", "state_from_counts", defArgs (top 5), defBody (top 5), defScope (top 5), [], []⟩
def d__law_right : He.DefD := ⟨("_law_right", none), "_law_right", "_law_right", defArgs (top 17), defBody (top 17), defScope (top 17), [], []⟩
def d__law_stream : He.DefD := ⟨("_law_stream", none), "_law_stream", "_law_stream", defArgs (top 7), defBody (top 7), defScope (top 7), [], []⟩
def d_law : He.DefD := ⟨("law", none), "law", "law", defArgs (top 18), defBody (top 18), defScope (top 18), [], []⟩
def fac0 : List He.Fa := [.glo "_law_fold", .glo "_law_draw", .glo "_law_pick", .glo "_law_random_well", .glo "segment_starts", .glo "segments", .glo "_law_as_lists", .glo "_law_flights", .glo "_law_same", .glo "_law_random_state", .glo "_law_tally", .glo "suffix_counts", .glo "is_grounded", .glo "state_from_counts", .glo "_law_right", .glo "_law_stream", .glo "law", .free "abs", .free "all", .free "bool", .free "divmod", .free "enumerate", .free "int", .free "isinstance", .free "len", .free "list", .free "max", .free "range", .free "str", .free "sum"]
def fac1 : List He.Fa := [.free "tuple", .free "zip"]
def fac : List He.Fa := fac0 ++ fac1
def fns0 : List He.DefD := [d__law_fold, d__law_draw, d__law_pick, d__law_random_well, d_segment_starts, d_segments, d__law_as_lists, d__law_flights, d__law_same, d__law_random_state, d__law_tally, d_suffix_counts, d_is_grounded, d_state_from_counts, d__law_right, d__law_stream, d_law]
def fns : List He.DefD := fns0
def loo0 : List Str := ["segment_starts", "segments", "is_grounded", "suffix_counts", "state_from_counts", "_law_stream", "_law_draw", "_law_fold", "_law_same", "_law_pick", "_law_as_lists", "_law_random_well", "_law_random_state", "_law_flights", "_law_tally", "_law_right"]
def loo : List Str := loo0
abbrev R : PySem.W.OpenRow := PySem.W.OpenLaw.row PySem.Challenge.rw_wellfolk_k06_segments_and_suffix_counts
abbrev hk : PySem.W.Hook := He.hookD 4 fac fns
def ob (s : PySem.W.SharedT) : He.AlD := He.obsDG 4 fac fns (HandSHeadRun.getT s)
theorem ob_eq (s : PySem.W.SharedT) : ob s = hk.obs s.abs := He.obsDG_eq (HandSHeadRun.getT_eq s)
theorem run (w : World) : HandSHeadRun.RunEq R (PySem.W.view R.prog [18]) hk ob 4000 loo w := by
  intro os
  kernel_rfl
def nm : Nat → Str
  | 1 => "segment_starts"
  | 2 => "segments"
  | 3 => "is_grounded"
  | 4 => "suffix_counts"
  | 5 => "state_from_counts"
  | 7 => "_law_stream"
  | 8 => "_law_draw"
  | 9 => "_law_fold"
  | 10 => "_law_same"
  | 11 => "_law_pick"
  | 12 => "_law_as_lists"
  | 13 => "_law_random_well"
  | 14 => "_law_random_state"
  | 15 => "_law_flights"
  | 16 => "_law_tally"
  | 17 => "_law_right"
  | 18 => "law"
  | _ => "law"
theorem tx_of {K : PySem.W.Frag} {h : Heap} {mg : Str → Option Value} (X : K.In h) (G : h.Ns mainGlobals mg) (c : He.SaysD fac fns K) : ∃ fdd : Nat → FuncData, Tx K mg (fun i => He.ga K (nm i)) fdd := by
  obtain ⟨fd9, F9⟩ := c.def_ 0 (d := d__law_fold) rfl
  obtain ⟨fd8, F8⟩ := c.def_ 1 (d := d__law_draw) rfl
  obtain ⟨fd11, F11⟩ := c.def_ 2 (d := d__law_pick) rfl
  obtain ⟨fd13, F13⟩ := c.def_ 3 (d := d__law_random_well) rfl
  obtain ⟨fd1, F1⟩ := c.def_ 4 (d := d_segment_starts) rfl
  obtain ⟨fd2, F2⟩ := c.def_ 5 (d := d_segments) rfl
  obtain ⟨fd12, F12⟩ := c.def_ 6 (d := d__law_as_lists) rfl
  obtain ⟨fd15, F15⟩ := c.def_ 7 (d := d__law_flights) rfl
  obtain ⟨fd10, F10⟩ := c.def_ 8 (d := d__law_same) rfl
  obtain ⟨fd14, F14⟩ := c.def_ 9 (d := d__law_random_state) rfl
  obtain ⟨fd16, F16⟩ := c.def_ 10 (d := d__law_tally) rfl
  obtain ⟨fd4, F4⟩ := c.def_ 11 (d := d_suffix_counts) rfl
  obtain ⟨fd3, F3⟩ := c.def_ 12 (d := d_is_grounded) rfl
  obtain ⟨fd5, F5⟩ := c.def_ 13 (d := d_state_from_counts) rfl
  obtain ⟨fd17, F17⟩ := c.def_ 14 (d := d__law_right) rfl
  obtain ⟨fd7, F7⟩ := c.def_ 15 (d := d__law_stream) rfl
  obtain ⟨fd18, F18⟩ := c.def_ 16 (d := d_law) rfl
  refine ⟨(fun i => match i with | 1 => fd1 | 2 => fd2 | 3 => fd3 | 4 => fd4 | 5 => fd5 | 7 => fd7 | 8 => fd8 | 9 => fd9 | 10 => fd10 | 11 => fd11 | 12 => fd12 | 13 => fd13 | 14 => fd14 | 15 => fd15 | 16 => fd16 | 17 => fd17 | _ => fd18), ?_⟩
  exact ⟨F9, He.glo_ok X G (c.fact 0 (f := .glo "_law_fold") rfl), F8, He.glo_ok X G (c.fact 1 (f := .glo "_law_draw") rfl), F11, He.glo_ok X G (c.fact 2 (f := .glo "_law_pick") rfl), F13, He.glo_ok X G (c.fact 3 (f := .glo "_law_random_well") rfl), F1, He.glo_ok X G (c.fact 4 (f := .glo "segment_starts") rfl), F2, He.glo_ok X G (c.fact 5 (f := .glo "segments") rfl), F12, He.glo_ok X G (c.fact 6 (f := .glo "_law_as_lists") rfl), F15, He.glo_ok X G (c.fact 7 (f := .glo "_law_flights") rfl), F10, He.glo_ok X G (c.fact 8 (f := .glo "_law_same") rfl), F14, He.glo_ok X G (c.fact 9 (f := .glo "_law_random_state") rfl), F16, He.glo_ok X G (c.fact 10 (f := .glo "_law_tally") rfl), F4, He.glo_ok X G (c.fact 11 (f := .glo "suffix_counts") rfl), F3, He.glo_ok X G (c.fact 12 (f := .glo "is_grounded") rfl), F5, He.glo_ok X G (c.fact 13 (f := .glo "state_from_counts") rfl), F17, He.glo_ok X G (c.fact 14 (f := .glo "_law_right") rfl), F7, He.glo_ok X G (c.fact 15 (f := .glo "_law_stream") rfl), F18, He.glo_ok X G (c.fact 16 (f := .glo "law") rfl), He.free_ok X G (c.fact 17 (f := .free "abs") rfl), He.free_ok X G (c.fact 18 (f := .free "all") rfl), He.free_ok X G (c.fact 19 (f := .free "bool") rfl), He.free_ok X G (c.fact 20 (f := .free "divmod") rfl), He.free_ok X G (c.fact 21 (f := .free "enumerate") rfl), He.free_ok X G (c.fact 22 (f := .free "int") rfl), He.free_ok X G (c.fact 23 (f := .free "isinstance") rfl), He.free_ok X G (c.fact 24 (f := .free "len") rfl), He.free_ok X G (c.fact 25 (f := .free "list") rfl), He.free_ok X G (c.fact 26 (f := .free "max") rfl), He.free_ok X G (c.fact 27 (f := .free "range") rfl), He.free_ok X G (c.fact 28 (f := .free "str") rfl), He.free_ok X G (c.fact 29 (f := .free "sum") rfl), He.free_ok X G (c.fact 30 (f := .free "tuple") rfl), He.free_ok X G (c.fact 31 (f := .free "zip") rfl)⟩
theorem facts {P : Program} {w : World} {K : PySem.W.Frag} {h : Heap} {mg : Str → Option Value} {f : Addr} (X : K.In h) (G : h.Ns mainGlobals mg) (hfa : mg ("law" : Str) = some (.ref f)) (c : He.SaysD fac fns K) :
    ∃ fd : FuncData, (∀ (s : Shared) (v : Value), BindsTo s fd ⟨[v], []⟩ [("_law_script", v)]) ∧ ∀ base : Heap, K.In base → base.Ns mainGlobals mg → FnOk P w K mg base (L2.CX P w) 16 f fd ["_law_script"] (spOf K 1 m_law_v42) := by
  obtain ⟨fdd, T⟩ := tx_of X G c
  have e := hfa.symm.trans T.g_law
  cases e
  have b := FunD.bindsA (ps := ["_law_script"]) T.F_law fun _ _ _ _ _ _ us hl => match us, hl with | [_], _ => rfl
  exact ⟨fdd 18, fun s v => b s [v] rfl, fun base _ _ => ok_law T⟩
theorem sp_law {K : PySem.W.Frag} {H : Hp} {a : Addr} {ns : List Int}  (h : ∃ d, m_law_v42 [.scr ns] = some (.ok (.bl true), [d])) (hS : SqL K H a (ns.map V.int)) : spOf K 1 m_law_v42 [.ref a] H (fun v _ => v = .bl true) fun _ _ _ => False := by
  obtain ⟨d, h⟩ := h
  refine ⟨rfl, [.scr ns], [], rfl, ⟨H, [], fun _ _ h => h, .scr hS .nil, .nil, fun _ m => nomatch m⟩, ?_⟩
  rw [h]
  exact ⟨rfl, fun v H' j => j.is_bl⟩
end Wk06
open PySem PySem.W PySem.Calls PyProof.Rows
theorem PySem.Challenge.cw_wellfolk_k06_segments_and_suffix_counts_holds : PySem.Challenge.rw_wellfolk_k06_segments_and_suffix_counts.Holds := by
  w_on; o_law
  refine HandSHeadRun.head_any (r := OpenLaw.row PySem.Challenge.rw_wellfolk_k06_segments_and_suffix_counts) (q := view (OpenLaw.row PySem.Challenge.rw_wellfolk_k06_segments_and_suffix_counts).prog [18]) (H := Wk06.hk) (ob := Wk06.ob) (M := 4000) (loose := Wk06.loo) (d := HandSHeadRun.topDef (OpenLaw.row PySem.Challenge.rw_wellfolk_k06_segments_and_suffix_counts).prog 18) (kwd := []) Wk06.ob_eq
    (by kernel_rfl) (fun s => by kernel_rfl) Wk06.run (by kernel_rfl) (by kernel_rfl) (by kernel_rfl) (by rfl) (by first | assumption | decide +kernel) (by decide +kernel) ⟨rfl, rfl, rfl, rfl, rfl, by decide +kernel⟩ ?hw ?hc
  case hw => w_witness2
  case hc =>
    refine L2.walk_ofE (l := PySem.Challenge.rw_wellfolk_k06_segments_and_suffix_counts) (n := 63) (k := 16) (x := "_law_script") (CX := L2.CX0) rfl (by decide) (by kernel_rfl) ⟨rfl, by decide, by decide⟩ ?F (fun _ _ _ _ z => z)
    intro w mg fa h Y G hmg0
    obtain ⟨K, KX, c⟩ := Y
    have hmg : mg ("law" : PySem.Str) = some (.ref fa) := by
      have e : (HandSHeadRun.topDef (OpenLaw.row PySem.Challenge.rw_wellfolk_k06_segments_and_suffix_counts).prog 18).name = ("law" : PySem.Str) := by kernel_rfl
      rw [← e]
      exact hmg0
    obtain ⟨fd, hb, hF⟩ := Wk06.facts (P := (PySem.Challenge.rw_wellfolk_k06_segments_and_suffix_counts).prog) (w := w) KX G hmg c
    exact ⟨K, fd, (fun vs H Q _ => WF.spOf K 1 WC.m_law_v42 vs H Q fun _ _ _ => False), KX, hb, fun H a ns hl _ hS => Wk06.sp_law (Wk06.law_true hl) hS, fun base h1 h2 => WF.fn_cx0 (hF base h1 h2)⟩
