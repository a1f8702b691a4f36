import PyProof.Rows.All
import Wide.All
import OpenK.AllK
import Wide.FinOn
import HandS.ForMost
import HandS.Walk
import HandS.Zip
import HandS.Wide
import HandS.WideBits
import HandS.TupAny
import HandS.TupMul
import HandS.IsInst
import HandS.Defaults
import HandS.Exc
import HandS.HeadEnd
import KE.GoesEnum
import HandS.Style
import HandS.HeadHook2
import HandS.HeadHook3
import HandS.HeadHook4
import KE.GoesMore
import HandS.Deep
import HandS.SetFor
import HandS.Conv
import HandS.Dict
import PyProof.FitsInt
import HandS.Head0
import HandS.Head1
import HandS.Head2
import HandS.HeadHook1
import PySem.Challenge.RW_fitpapers_k12_whole_means_and_product_su
set_option Elab.async false
set_option linter.all false
set_option maxRecDepth 100000
set_option maxHeartbeats 0
/-! Pv1: a layer of pure values over the hand layer: data, owned lists, states. -/
namespace Pv
open PySem PySem.Spec L2
open PyProof.Rows hiding St

/-- what a slot holds: data that never changes any more, or a list of our own -/
inductive AV where
  | fz (d : PyData)
  | ow (xs : List AV)
  | sc (ns : List Int)
  | odT (kvs : List (List Key × PyData))
  | odK (kvs : List (Key × PyData))

mutual
def AV.d : AV → PyData
  | .fz d => d
  | .ow xs => .list (AV.ds xs)
  | .sc _ => .none
  | .odT _ => .none
  | .odK _ => .none
def AV.ds : List AV → List PyData
  | [] => []
  | a :: r => AV.d a :: AV.ds r
end
mutual
/-- the script is nowhere in it -/
def AV.dat : AV → Bool
  | .fz _ => true
  | .ow xs => AV.dats xs
  | .sc _ => false
  | .odT _ => false
  | .odK _ => false
def AV.dats : List AV → Bool
  | [] => true
  | a :: r => AV.dat a && AV.dats r
end
abbrev En := List (Option AV)
abbrev Fz := Addr → Prop

section
variable (K : PySem.W.Frag)
def QL (F : Fz) (H : Hp) (a : Addr) (xs : List V) : Prop := (F a ∧ SqL K H a xs) ∨ ∀ H', SqL K H' a xs
def QT (F : Fz) (H : Hp) (a : Addr) (xs : List V) : Prop := (F a ∧ SqT K H a xs) ∨ ∀ H', SqT K H' a xs
def kD : Key → PyData
  | .inl i => .int i
  | .inr x => .str x
mutual
/-- the value v is the data d, in frozen objects -/
inductive RD (F : Fz) (H : Hp) : V → PyData → Prop
  | non : RD F H .non .none
  | bl (b : Bool) : RD F H (.bl b) (.bool b)
  | int (i : Int) : RD F H (.int i) (.int i)
  | str (x : Str) : RD F H (.str x) (.str x)
  | lst {a : Addr} {xs : List V} {ds : List PyData} : F a → H a = some (.lst xs) → RDs F H xs ds → RD F H (.ref a) (.list ds)
  | tup {a : Addr} {xs : List V} {ds : List PyData} : QT K F H a xs → RDs F H xs ds → RD F H (.ref a) (.tuple ds)
  | dct {a : Addr} {kvs : List (Key × V)} {ds : List (PyData × PyData)} : F a → H a = some (.dK kvs) → RDk F H kvs ds → RD F H (.ref a) (.dict ds)
inductive RDs (F : Fz) (H : Hp) : List V → List PyData → Prop
  | nil : RDs F H [] []
  | cons {v : V} {d : PyData} {vs : List V} {ds : List PyData} : RD F H v d → RDs F H vs ds → RDs F H (v :: vs) (d :: ds)
inductive RDk (F : Fz) (H : Hp) : List (Key × V) → List (PyData × PyData) → Prop
  | nil : RDk F H [] []
  | cons {k : Key} {v : V} {d : PyData} {vs : List (Key × V)} {ds : List (PyData × PyData)} : RD F H v d → RDk F H vs ds → RDk F H ((k, v) :: vs) ((kD k, d) :: ds)
end
inductive RKv {κ : Type} (F : Fz) (H : Hp) : List (κ × V) → List (κ × PyData) → Prop
  | nil : RKv F H [] []
  | cons {k : κ} {v : V} {d : PyData} {vs : List (κ × V)} {ds : List (κ × PyData)} : RD K F H v d → RKv F H vs ds → RKv F H ((k, v) :: vs) ((k, d) :: ds)
mutual
inductive RA (F : Fz) (H : Hp) : AV → V → List Addr → Prop
  | fz {d : PyData} {v : V} : RD K F H v d → RA F H (.fz d) v []
  | ow {p : Addr} {as : List AV} {vs : List V} {os : List Addr} : H p = some (.lst vs) → RAs F H as vs os → RA F H (.ow as) (.ref p) (p :: os)
  | sc {a : Addr} {ns : List Int} : QL K F H a (ns.map V.int) → RA F H (.sc ns) (.ref a) []
  | odT {p : Addr} {ks : List (List Key × V)} {kvs : List (List Key × PyData)} : H p = some (.dT ks) → RKv K F H ks kvs → RA F H (.odT kvs) (.ref p) [p]
  | odK {p : Addr} {ks : List (Key × V)} {kvs : List (Key × PyData)} : H p = some (.dK ks) → RKv K F H ks kvs → RA F H (.odK kvs) (.ref p) [p]
inductive RAs (F : Fz) (H : Hp) : List AV → List V → List Addr → Prop
  | nil : RAs F H [] [] []
  | cons {a : AV} {v : V} {o : List Addr} {as : List AV} {vs : List V} {os : List Addr} : RA F H a v o → RAs F H as vs os → RAs F H (a :: as) (v :: vs) (o ++ os)
end
inductive RE (F : Fz) (H : Hp) : En → St → List Addr → Prop
  | nil : RE F H [] [] []
  | non {x : Option V} {δ : En} {σ : St} {os : List Addr} : RE F H δ σ os → RE F H (none :: δ) (x :: σ) os
  | som {a : AV} {v : V} {o : List Addr} {δ : En} {σ : St} {os : List Addr} : RA K F H a v o → RE F H δ σ os → RE F H (some a :: δ) (some v :: σ) (o ++ os)
structure SR (δ : En) (σ : St) (H : Hp) (F : Fz) (os : List Addr) : Prop where
  env : RE K F H δ σ os
  nd : os.Nodup
  nf : ∀ p ∈ os, ¬ F p
  dom : ∀ p, F p → H p ≠ none
end
structure Step (H : Hp) (F : Fz) (os : List Addr) (H' : Hp) (F' : Fz) (os' : List Addr) : Prop where
  keep : ∀ q o, H q = some o → q ∉ os → H' q = some o
  mono : ∀ q, F q → F' q
  fnew : ∀ q, F' q → F q ∨ q ∈ os ∨ H q = none
  onew : ∀ q ∈ os', q ∈ os ∨ H q = none
  live : ∀ q, H q ≠ none → H' q ≠ none
structure Grow (H : Hp) (F : Fz) (H' : Hp) (F' : Fz) : Prop where
  keep : ∀ q o, H q = some o → H' q = some o
  mono : ∀ q, F q → F' q
  fnew : ∀ q, F' q → F q ∨ H q = none
  dom : ∀ q, F' q → H' q ≠ none

section
variable {K : PySem.W.Frag} {F F' F1 : Fz} {H H' H1 : Hp} {os os' os1 : List Addr} {δ δ' : En} {σ σ' : St}
theorem Step.refl : Step H F os H F os := ⟨fun _ _ h _ => h, fun _ h => h, fun _ h => .inl h, fun _ h => .inl h, fun _ h => h⟩
theorem Step.trans {H2 : Hp} {F2 : Fz} {os2 : List Addr} (a : Step H F os H1 F1 os1) (b : Step H1 F1 os1 H2 F2 os2) : Step H F os H2 F2 os2 := by
  have ne : ∀ q, H1 q = none → H q = none := fun q h => Classical.byContradiction fun n => a.live q n h
  refine ⟨fun q o h n => ?_, fun q h => b.mono q (a.mono q h), fun q h => ?_, fun q h => ?_, fun q h => b.live q (a.live q h)⟩
  · refine b.keep q o (a.keep q o h n) fun m => ?_
    rcases a.onew q m with z | z
    · exact n z
    · rw [h] at z; cases z
  · rcases b.fnew q h with z | z | z
    · exact a.fnew q z
    · rcases a.onew q z with y | y
      · exact .inr (.inl y)
      · exact .inr (.inr y)
    · exact .inr (.inr (ne q z))
  · rcases b.onew q h with z | z
    · exact a.onew q z
    · exact .inr (ne q z)
theorem Grow.refl (d : ∀ q, F q → H q ≠ none) : Grow H F H F := ⟨fun _ _ h => h, fun _ h => h, fun _ h => .inl h, d⟩
theorem Grow.trans {H2 : Hp} {F2 : Fz} (a : Grow H F H1 F1) (b : Grow H1 F1 H2 F2) : Grow H F H2 F2 := by
  refine ⟨fun q o h => b.keep q o (a.keep q o h), fun q h => b.mono q (a.mono q h), fun q h => ?_, b.dom⟩
  rcases b.fnew q h with z | z
  · exact a.fnew q z
  · refine .inr (Classical.byContradiction fun n => ?_)
    cases e : H q with
    | none => exact n e
    | some o => rw [a.keep q o e] at z; cases z
theorem Grow.step (g : Grow H F H' F') : Step H F os H' F' os :=
  ⟨fun q o h _ => g.keep q o h, g.mono, fun q h => (g.fnew q h).elim .inl fun z => .inr (.inr z), fun q h => .inl h, fun q h => by
    cases e : H q with
    | none => exact absurd e h
    | some o => rw [g.keep q o e]; intro z; cases z⟩
/-- a new object, frozen at once -/
theorem Grow.new {p : Addr} {o : HO} (d : ∀ q, F q → H q ≠ none) (h : H p = none) : Grow H F (upd H p o) (fun q => F q ∨ q = p) := by
  refine ⟨fun q u e => ?_, fun q h => .inl h, fun q z => ?_, fun q z => ?_⟩
  · rw [upd_ne (ne_of_none e h)]; exact e
  · rcases z with z | rfl
    · exact .inl z
    · exact .inr h
  · by_cases e : q = p
    · rw [e, upd_same]; intro y; cases y
    · rw [upd_ne e]
      rcases z with z | z
      · exact d q z
      · exact absurd z e
/-- a new object of our own -/
theorem Grow.own {p : Addr} {o : HO} (d : ∀ q, F q → H q ≠ none) (h : H p = none) : Grow H F (upd H p o) F := by
  refine ⟨fun q u e => ?_, fun q h => h, fun q z => .inl z, fun q z => ?_⟩
  · rw [upd_ne (ne_of_none e h)]; exact e
  · by_cases e : q = p
    · rw [e, upd_same]; intro y; cases y
    · rw [upd_ne e]; exact d q z

/-- frozen objects stay -/
def Ext (F : Fz) (H : Hp) (F' : Fz) (H' : Hp) : Prop := (∀ q, F q → F' q) ∧ ∀ q o, F q → H q = some o → H' q = some o
theorem Rd.ext {a : Addr} {u : HO} (h : ∀ o, H a = some o → H' a = some o) (r : Rd H a u) : Rd H' a u := by
  rcases r with r | ⟨o, r⟩
  · exact .inl (h _ r)
  · exact .inr ⟨o, h _ r⟩
theorem QL.ext {a : Addr} {xs : List V} (e : Ext F H F' H') (q : QL K F H a xs) : QL K F' H' a xs := by
  rcases q with ⟨f, q⟩ | q
  · refine .inl ⟨e.1 a f, ?_⟩
    rcases q with q | q
    · exact .inl (Rd.ext (fun o z => e.2 a o f z) q)
    · exact .inr q
  · exact .inr q
theorem QT.ext {a : Addr} {xs : List V} (e : Ext F H F' H') (q : QT K F H a xs) : QT K F' H' a xs := by
  rcases q with ⟨f, q⟩ | q
  · refine .inl ⟨e.1 a f, ?_⟩
    rcases q with q | q
    · exact .inl (Rd.ext (fun o z => e.2 a o f z) q)
    · exact .inr q
  · exact .inr q
theorem QL.sq {a : Addr} {xs : List V} (q : QL K F H a xs) : SqL K H a xs := q.elim (fun z => z.2) fun z => z H
theorem QT.sq {a : Addr} {xs : List V} (q : QT K F H a xs) : SqT K H a xs := q.elim (fun z => z.2) fun z => z H
mutual
theorem RD.ext (e : Ext F H F' H') : ∀ {v : V} {d : PyData}, RD K F H v d → RD K F' H' v d
  | _, _, .non => .non
  | _, _, .bl b => .bl b
  | _, _, .int i => .int i
  | _, _, .str x => .str x
  | _, _, .lst f h r => .lst (e.1 _ f) (e.2 _ _ f h) (RDs.ext e r)
  | _, _, .tup q r => .tup (QT.ext e q) (RDs.ext e r)
  | _, _, .dct f h r => .dct (e.1 _ f) (e.2 _ _ f h) (RDk.ext e r)
theorem RDs.ext (e : Ext F H F' H') : ∀ {v : List V} {d : List PyData}, RDs K F H v d → RDs K F' H' v d
  | _, _, .nil => .nil
  | _, _, .cons r t => .cons (RD.ext e r) (RDs.ext e t)
theorem RDk.ext (e : Ext F H F' H') : ∀ {v : List (Key × V)} {d : List (PyData × PyData)}, RDk K F H v d → RDk K F' H' v d
  | _, _, .nil => .nil
  | _, _, .cons r t => .cons (RD.ext e r) (RDk.ext e t)
end
theorem RKv.ext {κ : Type} (e : Ext F H F' H') : ∀ {v : List (κ × V)} {d : List (κ × PyData)}, RKv K F H v d → RKv K F' H' v d
  | _, _, .nil => .nil
  | _, _, .cons r t => .cons (RD.ext e r) (RKv.ext e t)
theorem Grow.ext (g : Grow H F H' F') : Ext F H F' H' := ⟨g.mono, fun q o _ h => g.keep q o h⟩
theorem Step.ext (s : Step H F os H' F' os') (nf : ∀ q ∈ os, ¬ F q) : Ext F H F' H' := ⟨s.mono, fun q o f h => s.keep q o h fun m => nf q m f⟩
/-- owned things beside what changes -/
structure Apart (F : Fz) (H : Hp) (F' : Fz) (H' : Hp) (o : List Addr) : Prop where
  ext : Ext F H F' H'
  own : ∀ q ∈ o, ∀ u, H q = some u → H' q = some u
mutual
theorem RA.apart : ∀ {a : AV} {v : V} {o : List Addr}, RA K F H a v o → Apart F H F' H' o → RA K F' H' a v o
  | _, _, _, .fz r, e => .fz (RD.ext e.ext r)
  | _, _, _, .ow h r, e => .ow (e.own _ (List.mem_cons_self ..) _ h) (RAs.apart r ⟨e.ext, fun q m u z => e.own q (List.mem_cons_of_mem _ m) u z⟩)
  | _, _, _, .sc q, e => .sc (QL.ext e.ext q)
  | _, _, _, .odT h r, e => .odT (e.own _ (List.mem_cons_self ..) _ h) (RKv.ext e.ext r)
  | _, _, _, .odK h r, e => .odK (e.own _ (List.mem_cons_self ..) _ h) (RKv.ext e.ext r)
theorem RAs.apart : ∀ {a : List AV} {v : List V} {o : List Addr}, RAs K F H a v o → Apart F H F' H' o → RAs K F' H' a v o
  | _, _, _, .nil, _ => .nil
  | _, _, _, .cons r t, e => .cons (RA.apart r ⟨e.ext, fun q m u z => e.own q (List.mem_append_left _ m) u z⟩) (RAs.apart t ⟨e.ext, fun q m u z => e.own q (List.mem_append_right _ m) u z⟩)
end
theorem RE.apart : ∀ {δ : En} {σ : St} {o : List Addr}, RE K F H δ σ o → Apart F H F' H' o → RE K F' H' δ σ o
  | _, _, _, .nil, _ => .nil
  | _, _, _, .non t, e => .non (RE.apart t e)
  | _, _, _, .som r t, e => .som (RA.apart r ⟨e.ext, fun q m u z => e.own q (List.mem_append_left _ m) u z⟩) (RE.apart t ⟨e.ext, fun q m u z => e.own q (List.mem_append_right _ m) u z⟩)
mutual
theorem RA.there : ∀ {a : AV} {v : V} {o : List Addr}, RA K F H a v o → ∀ q ∈ o, H q ≠ none
  | _, _, _, .fz _, _, m => absurd m (List.not_mem_nil)
  | _, _, _, .ow h r, q, m => by
    rcases List.mem_cons.mp m with e | m
    · rw [e, h]; intro z; cases z
    · exact RAs.there r q m
  | _, _, _, .sc _, _, m => absurd m (List.not_mem_nil)
  | _, _, _, .odT h r, q, m => by
    rcases List.mem_cons.mp m with e | m
    · rw [e, h]; intro z; cases z
    · cases m
  | _, _, _, .odK h r, q, m => by
    rcases List.mem_cons.mp m with e | m
    · rw [e, h]; intro z; cases z
    · cases m
theorem RAs.there : ∀ {a : List AV} {v : List V} {o : List Addr}, RAs K F H a v o → ∀ q ∈ o, H q ≠ none
  | _, _, _, .nil, _, m => absurd m (List.not_mem_nil)
  | _, _, _, .cons r t, q, m => (List.mem_append.mp m).elim (RA.there r q) (RAs.there t q)
end
theorem RE.there : ∀ {δ : En} {σ : St} {o : List Addr}, RE K F H δ σ o → ∀ q ∈ o, H q ≠ none
  | _, _, _, .nil, _, m => absurd m (List.not_mem_nil)
  | _, _, _, .non t, q, m => RE.there t q m
  | _, _, _, .som r t, q, m => (List.mem_append.mp m).elim (RA.there r q) (RE.there t q)
theorem SR.grow (S : SR K δ σ H F os) (g : Grow H F H' F') : SR K δ σ H' F' os :=
  ⟨S.env.apart ⟨g.ext, fun q _ u h => g.keep q u h⟩, S.nd, fun p m f => (g.fnew p f).elim (S.nf p m) (S.env.there p m), g.dom⟩
theorem SR.len (S : SR K δ σ H F os) : δ.length = σ.length := by
  have go : ∀ {δ : En} {σ : St} {o : List Addr}, RE K F H δ σ o → δ.length = σ.length := by
    intro δ σ o r
    induction r with
    | nil => rfl
    | non _ ih => exact congrArg (· + 1) ih
    | som _ _ ih => exact congrArg (· + 1) ih
  exact go S.env
/-- the first thing is put aside; what becomes of the rest; it is taken up again -/
theorem SR.frame {a : AV} {v : V} (S : SR K (some a :: δ) (some v :: σ) H F os) : ∃ os1, (∀ q ∈ os1, q ∈ os) ∧ SR K δ σ H F os1 ∧
    ∀ (H' : Hp) (F' : Fz) (os2 : List Addr) (δ' : En) (σ' : St), Step H F os1 H' F' os2 → SR K δ' σ' H' F' os2 →
      ∃ os3, SR K (some a :: δ') (some v :: σ') H' F' os3 ∧ Step H F os H' F' os3 := by
  obtain ⟨env, nd, nf, dom⟩ := S
  cases env with
  | @som _ _ o _ _ os1 r t =>
    obtain ⟨n1, n2, n3⟩ := List.nodup_append.mp nd
    refine ⟨os1, fun q m => List.mem_append_right _ m, ⟨t, n2, fun p m => nf p (List.mem_append_right _ m), dom⟩, fun H' F' os2 δ' σ' st S' => ⟨o ++ os2, ⟨.som (r.apart ⟨st.ext fun q m => nf q (List.mem_append_right _ m), fun q m u h => ?_⟩) S'.env, ?_, ?_, S'.dom⟩, ?_⟩⟩
    · exact st.keep q u h fun m' => n3 q m q m' rfl
    · refine List.nodup_append.mpr ⟨n1, S'.nd, fun x hx y hy e => ?_⟩
      subst e
      rcases st.onew x hy with z | z
      · exact n3 x hx x z rfl
      · exact r.there x hx z
    · intro p m f
      rcases List.mem_append.mp m with m | m
      · rcases st.fnew p f with z | z | z
        · exact nf p (List.mem_append_left _ m) z
        · exact n3 p m p z rfl
        · exact r.there p m z
      · exact S'.nf p m f
    · refine ⟨fun q u h m => st.keep q u h fun z => m (List.mem_append_right _ z), st.mono, fun q f => ?_, fun q m => ?_, st.live⟩
      · rcases st.fnew q f with z | z | z
        · exact .inl z
        · exact .inr (.inl (List.mem_append_right _ z))
        · exact .inr (.inr z)
      · rcases List.mem_append.mp m with m | m
        · exact .inl (List.mem_append_left _ m)
        · rcases st.onew q m with z | z
          · exact .inl (List.mem_append_right _ z)
          · exact .inr z
/-- fewer things of our own -/
theorem Step.less (s : Step H F os H' F' os') (h : ∀ q ∈ os1, q ∈ os') : Step H F os H' F' os1 := ⟨s.keep, s.mono, s.fnew, fun q m => s.onew q (h q m), s.live⟩
theorem Step.more (s : Step H F os H' F' os') (h : ∀ q ∈ os, q ∈ os1) : Step H F os1 H' F' os' :=
  ⟨fun q o e m => s.keep q o e fun z => m (h q z), s.mono, fun q f => (s.fnew q f).imp id fun z => z.imp (h q) id, fun q m => (s.onew q m).imp (h q) id, s.live⟩
theorem SR.drop {x : Option AV} {v : Option V} (S : SR K (x :: δ) (v :: σ) H F os) : ∃ os1, (∀ q ∈ os1, q ∈ os) ∧ SR K δ σ H F os1 := by
  obtain ⟨env, nd, nf, dom⟩ := S
  cases env with
  | non t => exact ⟨os, fun _ m => m, ⟨t, nd, nf, dom⟩⟩
  | @som _ _ o _ _ os1 r t =>
    exact ⟨os1, fun q m => List.mem_append_right _ m, ⟨t, (List.nodup_append.mp nd).2.1, fun p m => nf p (List.mem_append_right _ m), dom⟩⟩
mutual
theorem RA.frozen (hF : ∀ q, F q → F' q) : ∀ (a : AV) (v : V) (o : List Addr), RA K F H a v o → a.dat = true → (∀ q ∈ o, F' q) → RD K F' H v a.d
  | .fz d, v, o, r, _, _ => by
    cases r with
    | fz r => exact RD.ext ⟨hF, fun _ _ _ h => h⟩ r
  | .ow xs, v, o, r, p, m => by
    cases r with
    | ow h r => exact .lst (m _ (List.mem_cons_self ..)) h (RAs.frozen hF xs _ _ r p fun q z => m q (List.mem_cons_of_mem _ z))
  | .sc _, v, o, r, p, m => by cases p
  | .odT _, v, o, r, p, m => by cases p
  | .odK _, v, o, r, p, m => by cases p
theorem RAs.frozen (hF : ∀ q, F q → F' q) : ∀ (a : List AV) (v : List V) (o : List Addr), RAs K F H a v o → AV.dats a = true → (∀ q ∈ o, F' q) → RDs K F' H v (AV.ds a)
  | [], v, o, r, _, _ => by
    cases r
    exact .nil
  | x :: xs, v, o, r, p, m => by
    cases r with
    | cons r t =>
      have p1 := (Bool.and_eq_true_iff.mp (show (AV.dat x && AV.dats xs) = true from p))
      exact .cons (RA.frozen hF x _ _ r p1.1 fun q z => m q (List.mem_append_left _ z)) (RAs.frozen hF xs _ _ t p1.2 fun q z => m q (List.mem_append_right _ z))
end
/-- the first thing is frozen -/
theorem SR.freeze {a : AV} {v : V} (S : SR K (some a :: δ) (some v :: σ) H F os) (hp : a.dat = true) : ∃ F' os', Step H F os H F' os' ∧ SR K δ σ H F' os' ∧ RD K F' H v a.d ∧ (∀ q ∈ os', q ∈ os) := by
  obtain ⟨env, nd, nf, dom⟩ := S
  cases env with
  | @som _ _ o _ _ os1 r t =>
    obtain ⟨n1, n2, n3⟩ := List.nodup_append.mp nd
    refine ⟨fun q => F q ∨ q ∈ o, os1, ⟨fun _ _ h _ => h, fun _ h => .inl h, fun q h => ?_, fun q m => .inl (List.mem_append_right _ m), fun _ h => h⟩,
      ⟨t.apart ⟨⟨fun _ h => .inl h, fun _ _ _ h => h⟩, fun _ _ _ h => h⟩, n2, fun p m f => ?_, fun p f => ?_⟩, RA.frozen (fun _ h => .inl h) _ _ _ r hp (fun q m => .inr m), fun q m => List.mem_append_right _ m⟩
    · rcases h with h | h
      · exact .inl h
      · exact .inr (.inl (List.mem_append_left _ h))
    · rcases f with f | f
      · exact nf p (List.mem_append_right _ m) f
      · exact n3 p f p m rfl
    · rcases f with f | f
      · exact dom p f
      · exact r.there p f
/-- a frozen thing is put in front -/
theorem SR.cons {d : PyData} {v : V} (S : SR K δ σ H F os) (r : RD K F H v d) : SR K (some (.fz d) :: δ) (some v :: σ) H F os :=
  ⟨.som (.fz r) S.env, S.nd, S.nf, S.dom⟩
theorem SR.emp {x : Option V} (S : SR K δ σ H F os) : SR K (none :: δ) (x :: σ) H F os := ⟨.non S.env, S.nd, S.nf, S.dom⟩
end
end Pv

namespace Pv
open PySem PySem.Spec L2
open PyProof.Rows hiding St
/-! Pv2: what an expression is worth, purely -/
abbrev M (α : Type) := En → Option (α × En)
def ret {α : Type} (a : α) : M α := fun δ => some (a, δ)
def bnd {α β : Type} (x : M α) (k : α → M β) : M β := fun δ => match x δ with
  | some (a, δ') => k a δ'
  | none => none
def opt {α : Type} (o : Option α) : M α := fun δ => match o with
  | some a => some (a, δ)
  | none => none
def dOf (f : M AV) : M PyData := fun δ => match f δ with
  | some (.fz d, δ') => some (d, δ')
  | some (.ow xs, δ') => if AV.dats xs = true then some (.list (AV.ds xs), δ') else none
  | _ => none
def aOf (f : M PyData) : M AV := bnd f fun d => ret (.fz d)

section
variable (K : PySem.W.Frag)
def EJ (f : M AV) (t : TE) : Prop := ∀ δ a δ', f δ = some (a, δ') → ∀ (σ : St) (H : Hp) (F : Fz) (os : List Addr) (Q : VK), SR K δ σ H F os →
  (∀ v H' F' os', Step H F os H' F' os' → SR K (some a :: δ') (some v :: σ) H' F' os' → Q v H') → t σ H Q
def DJ (f : M PyData) (t : TE) : Prop := ∀ δ d δ', f δ = some (d, δ') → ∀ (σ : St) (H : Hp) (F : Fz) (os : List Addr) (Q : VK), SR K δ σ H F os →
  (∀ v H' F' os', Step H F os H' F' os' → SR K δ' σ H' F' os' → RD K F' H' v d → Q v H') → t σ H Q
def LJ (f : M (List PyData)) (t : TA) : Prop := ∀ δ ds δ', f δ = some (ds, δ') → ∀ (σ : St) (H : Hp) (F : Fz) (os : List Addr) (Q : List V → Hp → Prop), SR K δ σ H F os →
  (∀ vs H' F' os', Step H F os H' F' os' → SR K δ' σ H' F' os' → RDs K F' H' vs ds → Q vs H') → t σ H Q
def TJ (f : M Bool) (t : TT) : Prop := ∀ δ b δ', f δ = some (b, δ') → ∀ (σ : St) (H : Hp) (F : Fz) (os : List Addr) (Q : Bool → Hp → Prop), SR K δ σ H F os →
  (∀ H' F' os', Step H F os H' F' os' → SR K δ' σ H' F' os' → Q b H') → t σ H Q
/-- what an operation hands out: a thing in new objects -/
structure Out (F : Fz) (H : Hp) (a : AV) (v : V) (H' : Hp) (F' : Fz) (o : List Addr) : Prop where
  g : Grow H F H' F'
  r : RA K F' H' a v o
  nd : o.Nodup
  new : ∀ q ∈ o, H q = none ∧ ¬ F' q
end
structure AOk (X : Cx) (e : Expr) (f : M AV) : Prop where
  ex : ∃ t, PE X e t ∧ EJ X.K f t
structure DOk (X : Cx) (e : Expr) (f : M PyData) : Prop where
  ex : ∃ t, PE X e t ∧ DJ X.K f t
structure LOk (X : Cx) (es : List Expr) (f : M (List PyData)) : Prop where
  ex : ∃ t, PA X es t ∧ LJ X.K f t
structure TOk (X : Cx) (e : Expr) (f : M Bool) : Prop where
  ex : ∃ t, PT X e t ∧ TJ X.K f t
structure WOk (X : Cx) (e : Expr) (f : M Bool) : Prop where
  ex : ∃ t, PW X e t ∧ TJ X.K f t

section
variable {K : PySem.W.Frag} {F F' F1 : Fz} {H H' H1 : Hp} {os os' os1 : List Addr} {δ δ' δ1 : En} {σ σ' : St} {α β : Type}
theorem bnd_some {x : M α} {k : α → M β} {b : β} (h : bnd x k δ = some (b, δ')) : ∃ a δ1, x δ = some (a, δ1) ∧ k a δ1 = some (b, δ') := by
  unfold bnd at h
  cases e : x δ with
  | none => rw [e] at h; cases h
  | some p =>
    obtain ⟨a, δ1⟩ := p
    rw [e] at h
    exact ⟨a, δ1, rfl, h⟩
theorem opt_some {o : Option α} {a : α} (h : opt o δ = some (a, δ')) : o = some a ∧ δ' = δ := by
  unfold opt at h
  cases o with
  | none => cases h
  | some b => cases h; exact ⟨rfl, rfl⟩
theorem ret_some {a b : α} (h : ret a δ = some (b, δ')) : b = a ∧ δ' = δ := by
  cases h; exact ⟨rfl, rfl⟩
theorem dOf_some {f : M AV} {d : PyData} (h : dOf f δ = some (d, δ')) : ∃ a, f δ = some (a, δ') ∧ a.dat = true ∧ a.d = d := by
  unfold dOf at h
  split at h
  · next e => cases h; exact ⟨_, e, rfl, rfl⟩
  · next e =>
    split at h
    · next q => cases h; exact ⟨_, e, q, rfl⟩
    · cases h
  · cases h
theorem SR.ne (S : SR K δ σ H F os) : ∀ q ∈ os, ¬ F q := S.nf
/-- behind an operation -/
theorem SR.out {a : AV} {v : V} {o : List Addr} (S : SR K δ σ H F os) (x : Out K F H a v H' F' o) : SR K (some a :: δ) (some v :: σ) H' F' (o ++ os) ∧ Step H F os H' F' (o ++ os) := by
  have S' := S.grow x.g
  refine ⟨⟨.som x.r S'.env, List.nodup_append.mpr ⟨x.nd, S'.nd, fun p hp q hq e => ?_⟩, fun p m => ?_, S'.dom⟩, ?_⟩
  · subst e
    exact S.env.there p hq (x.new p hp).1
  · rcases List.mem_append.mp m with m | m
    · exact (x.new p m).2
    · exact S'.nf p m
  · have st : Step H F os H' F' os := x.g.step
    exact ⟨st.keep, st.mono, st.fnew, fun q m => (List.mem_append.mp m).elim (fun z => .inr (x.new q z).1) fun z => .inl z, st.live⟩
theorem RD.step {v : V} {d : PyData} (r : RD K F H v d) (S : SR K δ σ H F os) (st : Step H F os H' F' os') : RD K F' H' v d := r.ext (st.ext S.nf)
theorem RDs.step {v : List V} {d : List PyData} (r : RDs K F H v d) (S : SR K δ σ H F os) (st : Step H F os H' F' os') : RDs K F' H' v d := r.ext (st.ext S.nf)
theorem Out.fz {d : PyData} {v : V} (dom : ∀ q, F q → H q ≠ none) (r : RD K F H v d) : Out K F H (.fz d) v H F [] := ⟨.refl dom, .fz r, .nil, fun _ m => absurd m List.not_mem_nil⟩
theorem RDs.length {v : List V} {d : List PyData} (r : RDs K F H v d) : v.length = d.length := by
  have go : ∀ (d : List PyData) (v : List V), RDs K F H v d → v.length = d.length := by
    intro d
    induction d with
    | nil => intro v r; cases r; rfl
    | cons x xs ih => intro v r; cases r with | cons _ t => exact congrArg (· + 1) (ih _ t)
  exact go d v r
def fzs (ds : List PyData) : List AV := ds.map .fz
theorem ras_fzs : ∀ (ds : List PyData) (vs : List V), RDs K F H vs ds → RAs K F H (fzs ds) vs []
  | [], _, .nil => .nil
  | d :: ds, _, .cons r t => .cons (.fz r) (ras_fzs ds _ t)
/-- a new list of frozen things -/
theorem Out.lst {ds : List PyData} {vs : List V} {p : Addr} (dom : ∀ q, F q → H q ≠ none) (h : H p = none) (r : RDs K F H vs ds) : Out K F H (.ow (fzs ds)) (.ref p) (upd H p (.lst vs)) F [p] := by
  have g : Grow H F (upd H p (.lst vs)) F := Grow.own dom h
  refine ⟨g, .ow upd_same (ras_fzs ds vs (r.ext g.ext)), List.nodup_cons.mpr ⟨List.not_mem_nil, .nil⟩, fun q m => ?_⟩
  have e : q = p := by simpa using m
  subst e
  exact ⟨h, fun f => dom q f h⟩
/-- a new tuple -/
theorem Out.tup {ds : List PyData} {vs : List V} {p : Addr} (dom : ∀ q, F q → H q ≠ none) (h : H p = none) (r : RDs K F H vs ds) : Out K F H (.fz (.tuple ds)) (.ref p) (upd H p (.tup vs)) (fun q => F q ∨ q = p) [] := by
  have g : Grow H F (upd H p (.tup vs)) (fun q => F q ∨ q = p) := Grow.new dom h
  exact ⟨g, .fz (.tup (.inl ⟨.inr rfl, SqT.of upd_same⟩) (r.ext g.ext)), .nil, fun _ m => absurd m List.not_mem_nil⟩
end

section
variable {X : Cx} {e a b : Expr} {pos : Pos}
theorem DOk.of {f : M AV} (h : AOk X e f) : DOk X e (dOf f) := by
  obtain ⟨t, hp, hj⟩ := h.ex
  refine ⟨t, hp, fun δ d δ' hf σ H F os Q S k => ?_⟩
  obtain ⟨x, hx, hd, rfl⟩ := dOf_some hf
  refine hj δ x δ' hx σ H F os Q S fun v H' F' os' st S' => ?_
  obtain ⟨F2, os2, st2, S2, r, _⟩ := S'.freeze hd
  exact k v H' F2 os2 (st.trans st2) S2 r
theorem AOk.of {f : M PyData} (h : DOk X e f) : AOk X e (aOf f) := by
  obtain ⟨t, hp, hj⟩ := h.ex
  refine ⟨t, hp, fun δ x δ' hf σ H F os Q S k => ?_⟩
  obtain ⟨d, δ1, h1, h2⟩ := bnd_some hf
  obtain ⟨rfl, rfl⟩ := ret_some h2
  exact hj δ d δ' h1 σ H F os Q S fun v H' F' os' st S' r => k v H' F' os' st (S'.cons r)
theorem AOk.cast {f g : M AV} (h : AOk X e f) (q : f = g) : AOk X e g := q ▸ h

/-! ### names, constants -/
def gVar (i : Nat) : M PyData := fun δ => match δ[i]? with
  | some (some (.fz d)) => some (d, δ)
  | some (some (.ow xs)) => if AV.dats xs = true then some (.list (AV.ds xs), δ.set i (some (.fz (.list (AV.ds xs))))) else none
  | _ => none
section
variable {K : PySem.W.Frag} {F F' F1 : Fz} {H H' H1 : Hp} {os os' os1 : List Addr} {δ δ' δ1 : En} {σ σ' : St}
/-- a slot's thing is looked at -/
theorem SR.at_ : ∀ {i : Nat} {δ : En} {σ : St} {os : List Addr} {a : AV}, SR K δ σ H F os → δ[i]? = some (some a) →
    ∃ v o, σ[i]? = some (some v) ∧ RA K F H a v o ∧ ∀ q ∈ o, q ∈ os
  | i, [], σ, os, a, S, h => by simp at h
  | 0, x :: δ, σ, os, a, S, h => by
    have e : x = some a := by simpa using h
    subst e
    obtain ⟨env, nd, nf, dom⟩ := S
    cases env with
    | som r t => exact ⟨_, _, rfl, r, fun q m => List.mem_append_left _ m⟩
  | i + 1, x :: δ, σ, os, a, S, h => by
    cases σ with
    | nil => cases S.env
    | cons y σ =>
      obtain ⟨os1, h1, S1⟩ := S.drop
      obtain ⟨v, o, h2, r, h3⟩ := SR.at_ (i := i) S1 (by simpa using h)
      exact ⟨v, o, by simpa using h2, r, fun q m => h1 q (h3 q m)⟩
/-- a slot's thing is changed for another one (of the same value) -/
theorem SR.freezeAt : ∀ {i : Nat} {δ : En} {σ : St} {os : List Addr} {a : AV}, SR K δ σ H F os → δ[i]? = some (some a) → a.dat = true →
    ∃ v F' os', σ[i]? = some (some v) ∧ Step H F os H F' os' ∧ SR K (δ.set i (some (.fz a.d))) σ H F' os' ∧ RD K F' H v a.d
  | i, [], σ, os, a, S, h, _ => by simp at h
  | 0, x :: δ, σ, os, a, S, h, p => by
    have e : x = some a := by simpa using h
    subst e
    cases σ with
    | nil => cases S.env
    | cons y σ =>
      have hy : ∃ v, y = some v := by
        cases S.env with
        | som r t => exact ⟨_, rfl⟩
      obtain ⟨v, rfl⟩ := hy
      obtain ⟨F2, os2, st, S2, r, _⟩ := S.freeze p
      exact ⟨v, F2, os2, rfl, st, S2.cons r, r⟩
  | i + 1, none :: δ, σ, os, a, S, h, p => by
    cases σ with
    | nil => cases S.env
    | cons y σ =>
      obtain ⟨env, nd, nf, dom⟩ := S
      cases env with
      | non t =>
        obtain ⟨v, F2, os2, h2, st, S2, r⟩ := SR.freezeAt (i := i) (δ := δ) (σ := σ) ⟨t, nd, nf, dom⟩ (by simpa using h) p
        exact ⟨v, F2, os2, by simpa using h2, st, S2.emp, r⟩
  | i + 1, some b :: δ, σ, os, a, S, h, p => by
    cases σ with
    | nil => cases S.env
    | cons y σ =>
      have hy : ∃ v, y = some v := by
        cases S.env with
        | som r t => exact ⟨_, rfl⟩
      obtain ⟨w, rfl⟩ := hy
      obtain ⟨os1, m1, S1, back⟩ := S.frame
      obtain ⟨v, F2, os2, h2, st, S2, r⟩ := SR.freezeAt (i := i) S1 (by simpa using h) p
      obtain ⟨os3, S3, st3⟩ := back H F2 os2 _ _ st S2
      exact ⟨v, F2, os3, by simpa using h2, st3, S3, r⟩
end
theorem d_var (i : Nat) {x : Str} (hN : X.N[i]? = some x := by rfl) (hv : Vis X.env.scope x := by first | exact Or.inl rfl | exact Or.inr (Or.inl rfl) | exact Or.inr (Or.inr rfl)) (hd : (x == ("__debug__" : Str)) = false := by decide)
    (hcd : (x == ("__classdict__" : Str)) = false := by decide) : DOk X (.Name x pos) (gVar i) := by
  refine ⟨tVar i, pe_var hN hv hd hcd, fun δ d δ' hf σ H F os Q S k => ?_⟩
  unfold gVar at hf
  split at hf
  · next h =>
    cases hf
    obtain ⟨v, o, h1, r, _⟩ := S.at_ h
    cases r with
    | fz r => exact ⟨v, h1, k v H F os .refl S r⟩
  · next h =>
    split at hf
    · next p =>
      cases hf
      obtain ⟨v, F2, os2, h1, st, S2, r⟩ := S.freezeAt h p
      exact ⟨v, h1, k v H F2 os2 st S2 r⟩
    · cases hf
  · cases hf
/-- a local list moved out of its slot (return x) -/
def mVar (i : Nat) : M AV := fun δ => match δ[i]? with
  | some (some a) => some (a, δ.set i none)
  | _ => none
section
variable {K : PySem.W.Frag} {F F' F1 : Fz} {H H' H1 : Hp} {os os' os1 : List Addr} {δ δ' δ1 : En} {σ σ' : St}
theorem SR.move : ∀ {i : Nat} {δ : En} {σ : St} {os : List Addr} {a : AV}, SR K δ σ H F os → δ[i]? = some (some a) →
    ∃ v os', σ[i]? = some (some v) ∧ SR K (some a :: δ.set i none) (some v :: σ) H F os' ∧ ∀ q, q ∈ os' ↔ q ∈ os
  | i, [], σ, os, a, S, h => by simp at h
  | 0, x :: δ, σ, os, a, S, h => by
    have e : x = some a := by simpa using h
    subst e
    obtain ⟨env, nd, nf, dom⟩ := S
    cases env with
    | som r t => exact ⟨_, _, rfl, ⟨.som r (.non t), nd, nf, dom⟩, fun _ => Iff.rfl⟩
  | i + 1, none :: δ, σ, os, a, S, h => by
    obtain ⟨env, nd, nf, dom⟩ := S
    cases env with
    | non t =>
      obtain ⟨v, os2, h2, S2, m⟩ := SR.move (i := i) (δ := δ) ⟨t, nd, nf, dom⟩ (by simpa using h)
      refine ⟨v, os2, by simpa using h2, ?_, m⟩
      obtain ⟨env2, nd2, nf2, dom2⟩ := S2
      cases env2 with
      | som r t2 => exact ⟨.som r (.non t2), nd2, nf2, dom2⟩
  | i + 1, some b :: δ, σ, os, a, S, h => by
    obtain ⟨env, nd, nf, dom⟩ := S
    cases env with
    | @som _ w o _ σ2 os1 rb t =>
      obtain ⟨n1, n2, n3⟩ := List.nodup_append.mp nd
      obtain ⟨v, os2, h2, S2, m⟩ := SR.move (i := i) (δ := δ) ⟨t, n2, fun p z => nf p (List.mem_append_right _ z), dom⟩ (by simpa using h)
      obtain ⟨env2, nd2, nf2, dom2⟩ := S2
      cases env2 with
      | @som _ _ oa _ _ ot r t2 =>
        obtain ⟨k1, k2, k3⟩ := List.nodup_append.mp nd2
        have mb : ∀ q ∈ o, q ∉ oa ++ ot := fun q hq z => n3 q hq q ((m q).mp z) rfl
        refine ⟨v, oa ++ (o ++ ot), by simpa using h2, ⟨.som r (.som rb t2), ?_, fun p z => ?_, dom⟩, fun q => ?_⟩
        · refine List.nodup_append.mpr ⟨k1, List.nodup_append.mpr ⟨n1, k2, fun x hx y hy e => mb x hx (List.mem_append_right _ (e ▸ hy))⟩, fun x hx y hy e => ?_⟩
          subst e
          rcases List.mem_append.mp hy with hy | hy
          · exact mb x hy (List.mem_append_left _ hx)
          · exact k3 x hx x hy rfl
        · rcases List.mem_append.mp z with z | z
          · exact nf2 p (List.mem_append_left _ z)
          · rcases List.mem_append.mp z with z | z
            · exact nf p (List.mem_append_left _ z)
            · exact nf2 p (List.mem_append_right _ z)
        · have mq := m q
          simp only [List.mem_append] at mq ⊢
          constructor
          · rintro (z | z | z)
            · exact .inr (mq.mp (.inl z))
            · exact .inl z
            · exact .inr (mq.mp (.inr z))
          · rintro (z | z)
            · exact .inr (.inl z)
            · exact (mq.mpr z).imp id .inr
end
theorem a_mv (i : Nat) {x : Str} (hN : X.N[i]? = some x := by rfl) (hv : Vis X.env.scope x := by first | exact Or.inl rfl | exact Or.inr (Or.inl rfl) | exact Or.inr (Or.inr rfl)) (hd : (x == ("__debug__" : Str)) = false := by decide)
    (hcd : (x == ("__classdict__" : Str)) = false := by decide) : AOk X (.Name x pos) (mVar i) := by
  refine ⟨tVar i, pe_var hN hv hd hcd, fun δ a δ' hf σ H F os Q S k => ?_⟩
  unfold mVar at hf
  split at hf
  · next h =>
    cases hf
    obtain ⟨v, os2, h1, S2, m⟩ := S.move h
    exact ⟨v, h1, k v H F os2 (Step.refl.less fun q z => (m q).mp z) S2⟩
  · cases hf
theorem d_con {v : V} {d : PyData} (h : PE X e (tC v)) (r : ∀ F H, RD X.K F H v d) : DOk X e (ret d) :=
  ⟨tC v, h, fun δ d' δ' hf σ H F os Q S k => by obtain ⟨rfl, rfl⟩ := ret_some hf; exact k v H F os .refl S (r F H)⟩
theorem d_int {i : Int} {j : Nat} : DOk X (.Constant (.int i) j pos) (ret (.int i)) := d_con pe_int fun _ _ => .int i
theorem d_bl {i : Bool} {j : Nat} : DOk X (.Constant (.bool i) j pos) (ret (.bool i)) := d_con pe_bl fun _ _ => .bl i
theorem d_non {j : Nat} : DOk X (.Constant .none j pos) (ret .none) := d_con pe_non fun _ _ => .non
theorem d_str {i : Str} {j : Nat} : DOk X (.Constant (.str i) j pos) (ret (.str i)) := d_con pe_str fun _ _ => .str i
/-- a module's int, text, tuple of them -/
theorem d_glob {x : Str} {v : V} {u : Value} {d : PyData} (hg : Gl X x) (hm : X.mg x = some u) (r : RelV v u) (rd : ∀ F H, RD X.K F H v d) (hd : (x == ("__debug__" : Str)) = false := by decide) : DOk X (.Name x pos) (ret d) := d_con (pe_glob hg hm r hd) rd

/-! ### arguments, displays -/
theorem l_nil : LOk X [] (ret []) := ⟨tNil, pa_nil, fun δ d δ' hf σ H F os Q S k => by obtain ⟨rfl, rfl⟩ := ret_some hf; exact k [] H F os .refl S .nil⟩
def lcons (f : M PyData) (g : M (List PyData)) : M (List PyData) := bnd f fun d => bnd g fun ds => ret (d :: ds)
theorem l_cons {es : List Expr} {f : M PyData} {g : M (List PyData)} (ha : DOk X e f) (hr : LOk X es g) (hs : starEach (e :: es) X.env = (false, eval e X.env) :: starEach es X.env := by rfl) : LOk X (e :: es) (lcons f g) := by
  obtain ⟨ta, pa, ja⟩ := ha.ex
  obtain ⟨tr, pr, jr⟩ := hr.ex
  refine ⟨tCons ta tr, pa_cons pa pr hs, fun δ ds δ' hf σ H F os Q S k => ?_⟩
  obtain ⟨d, δ1, h1, h2⟩ := bnd_some hf
  obtain ⟨dr, δ2, h3, h4⟩ := bnd_some h2
  obtain ⟨rfl, rfl⟩ := ret_some h4
  refine ja δ d δ1 h1 σ H F os _ S fun v H1 F1 os1 st1 S1 r1 => ?_
  refine jr δ1 dr _ h3 σ H1 F1 os1 _ S1 fun vs H2 F2 os2 st2 S2 r2 => ?_
  exact k (v :: vs) H2 F2 os2 (st1.trans st2) S2 (.cons (r1.step S1 st2) r2)
def lim : Nat := 1000000
theorem lim_line : lim ≤ sizeLine := by decide
def gTup' (ds : List PyData) : Option PyData := if ds.length ≤ lim then some (.tuple ds) else none
def gTupE (g : M (List PyData)) : M PyData := bnd g fun ds => opt (gTup' ds)
theorem d_tup {es : List Expr} {k : Nat} {g : M (List PyData)} (h : LOk X es g) : DOk X (.Tuple es k pos) (gTupE g) := by
  obtain ⟨tr, pr, jr⟩ := h.ex
  refine ⟨tTup tr, pe_tup pr, fun δ d δ' hf σ H F os Q S k => ?_⟩
  obtain ⟨ds, δ1, h1, h2⟩ := bnd_some hf
  have oh2 := opt_some h2; obtain ⟨qh2, rfl⟩ := oh2
  unfold gTup' at qh2
  split at qh2
  · next hl =>
    cases qh2
    refine jr δ ds _ h1 σ H F os _ S fun vs H2 F2 os2 st2 S2 r2 => ⟨by rw [r2.length]; exact Nat.le_trans hl lim_line, fun p hp => ?_⟩
    have x := Out.tup (K := X.K) S2.dom hp r2
    obtain ⟨S3, st3⟩ := S2.out x
    obtain ⟨F4, os4, st4, S4, r4, _⟩ := S3.freeze rfl
    exact k _ _ F4 os4 ((st2.trans st3).trans st4) S4 r4
  · cases qh2
def gLst' (ds : List PyData) : Option AV := if ds.length ≤ lim then some (.ow (fzs ds)) else none
def gLstE (g : M (List PyData)) : M AV := bnd g fun ds => opt (gLst' ds)
theorem a_lst {es : List Expr} {g : M (List PyData)} (h : LOk X es g) : AOk X (.List es pos) (gLstE g) := by
  obtain ⟨tr, pr, jr⟩ := h.ex
  refine ⟨tLst tr, pe_lst pr, fun δ d δ' hf σ H F os Q S k => ?_⟩
  obtain ⟨ds, δ1, h1, h2⟩ := bnd_some hf
  have oh2 := opt_some h2; obtain ⟨qh2, rfl⟩ := oh2
  unfold gLst' at qh2
  split at qh2
  · next hl =>
    cases qh2
    refine jr δ ds _ h1 σ H F os _ S fun vs H2 F2 os2 st2 S2 r2 => ⟨by rw [r2.length]; exact Nat.le_trans hl lim_line, fun p hp => ?_⟩
    obtain ⟨S3, st3⟩ := S2.out (Out.lst S2.dom hp r2)
    exact k _ _ _ _ (st2.trans st3) S3
  · cases qh2

/-! ### operations by values -/
def OJ (K : PySem.W.Frag) (op : PyData → PyData → Option AV) (r : R2) : Prop := ∀ d e z, op d e = some z → ∀ (x y : V) (H : Hp) (F : Fz) (Q : VK), (∀ q, F q → H q ≠ none) → RD K F H x d → RD K F H y e →
  (∀ v H' F' o, Out K F H z v H' F' o → Q v H') → r x y H Q
structure OpA (X : Cx) (f : Value → Value → Sem Value) (op : PyData → PyData → Option AV) : Prop where
  ex : ∃ r, OpR X f r ∧ OJ X.K op r
def gBin (op : PyData → PyData → Option AV) (f g : M PyData) : M AV := bnd f fun x => bnd g fun y => opt (op x y)
theorem EJ.two {op : PyData → PyData → Option AV} {f g : M PyData} {r : R2} {ta tb : TE} (ho : OJ X.K op r) (ja : DJ X.K f ta) (jb : DJ X.K g tb) : EJ X.K (gBin op f g) (tOp r ta tb) := by
  intro δ z δ' hf σ H F os Q S k
  obtain ⟨x, δ1, h1, h2⟩ := bnd_some hf
  obtain ⟨y, δ2, h3, h4⟩ := bnd_some h2
  have oh4 := opt_some h4; obtain ⟨qh4, rfl⟩ := oh4
  refine ja δ x δ1 h1 σ H F os _ S fun v1 H1 F1 os1 st1 S1 r1 => ?_
  refine jb δ1 y _ h3 σ H1 F1 os1 _ S1 fun v2 H2 F2 os2 st2 S2 r2 => ?_
  refine ho x y z qh4 v1 v2 H2 F2 _ S2.dom (r1.step S1 st2) r2 fun v H' F' o out => ?_
  obtain ⟨S3, st3⟩ := S2.out out
  exact k v H' F' _ ((st1.trans st2).trans st3) S3
theorem a_bin {o : Operator} {op : PyData → PyData → Option AV} {f g : M PyData} (ho : OpA X (binaryOp o) op) (ha : DOk X a f) (hb : DOk X b g) : AOk X (.BinOp a o b pos) (gBin op f g) := by
  obtain ⟨r, hr, jr⟩ := ho.ex
  obtain ⟨ta, pa, ja⟩ := ha.ex
  obtain ⟨tb, pb, jb⟩ := hb.ex
  exact ⟨tOp r ta tb, pe_op hr pa pb, EJ.two jr ja jb⟩
/-- comparisons hand out a bool -/
def CJ (K : PySem.W.Frag) (op : PyData → PyData → Option Bool) (r : R2) : Prop := ∀ d e z, op d e = some z → ∀ (x y : V) (H : Hp) (F : Fz) (Q : VK), RD K F H x d → RD K F H y e → Q (.bl z) H → r x y H Q
structure CmA (X : Cx) (f : Value → Value → Sem Value) (op : PyData → PyData → Option Bool) : Prop where
  ex : ∃ r, OpR X f r ∧ CJ X.K op r
def gCmp (op : PyData → PyData → Option Bool) (f g : M PyData) : M Bool := bnd f fun x => bnd g fun y => opt (op x y)
def gBl (f : M Bool) : M PyData := bnd f fun b => ret (.bool b)
theorem cmp_two {op : PyData → PyData → Option Bool} {f g : M PyData} {r : R2} {ta tb : TE} {δ δ' : En} {z : Bool} (ho : CJ X.K op r) (ja : DJ X.K f ta) (jb : DJ X.K g tb) (hf : gCmp op f g δ = some (z, δ'))
    {σ : St} {H : Hp} {F : Fz} {os : List Addr} {Q : VK} (S : SR X.K δ σ H F os) (k : ∀ H' F' os', Step H F os H' F' os' → SR X.K δ' σ H' F' os' → Q (.bl z) H') : tOp r ta tb σ H Q := by
  obtain ⟨x, δ1, h1, h2⟩ := bnd_some hf
  obtain ⟨y, δ2, h3, h4⟩ := bnd_some h2
  have oh4 := opt_some h4; obtain ⟨qh4, rfl⟩ := oh4
  refine ja δ x δ1 h1 σ H F os _ S fun v1 H1 F1 os1 st1 S1 r1 => ?_
  refine jb δ1 y _ h3 σ H1 F1 os1 _ S1 fun v2 H2 F2 os2 st2 S2 r2 => ?_
  exact ho x y z qh4 v1 v2 H2 F2 _ (r1.step S1 st2) r2 (k H2 F2 os2 (st1.trans st2) S2)
theorem t_cmp {o : CmpOp} {op : PyData → PyData → Option Bool} {f g : M PyData} (ho : CmA X (compareOp o) op) (ha : DOk X a f) (hb : DOk X b g) (hm : behindInMarks o b = false := by rfl) : TOk X (.Compare a [o] [b] pos) (gCmp op f g) := by
  obtain ⟨r, hr, jr⟩ := ho.ex
  obtain ⟨ta, pa, ja⟩ := ha.ex
  obtain ⟨tb, pb, jb⟩ := hb.ex
  exact ⟨tTest (tOp r ta tb), pt_cmpR hr pa pb hm, fun δ z δ' hf σ H F os Q S k => cmp_two jr ja jb hf S fun H' F' os' st S' => ⟨z, rfl, k H' F' os' st S'⟩⟩
theorem d_cmp {o : CmpOp} {op : PyData → PyData → Option Bool} {f g : M PyData} (ho : CmA X (compareOp o) op) (ha : DOk X a f) (hb : DOk X b g) (hm : behindInMarks o b = false := by rfl) : DOk X (.Compare a [o] [b] pos) (gBl (gCmp op f g)) := by
  obtain ⟨r, hr, jr⟩ := ho.ex
  obtain ⟨ta, pa, ja⟩ := ha.ex
  obtain ⟨tb, pb, jb⟩ := hb.ex
  refine ⟨tOp r ta tb, pe_cmpR hr pa pb hm, fun δ d δ' hf σ H F os Q S k => ?_⟩
  obtain ⟨z, δ1, h1, h2⟩ := bnd_some hf
  obtain ⟨rfl, rfl⟩ := ret_some h2
  exact cmp_two jr ja jb h1 S fun H' F' os' st S' => k _ H' F' os' st S' (.bl z)
/-- a < b < c -/
def gChn (op op' : PyData → PyData → Option Bool) (f g h : M PyData) : M Bool := bnd f fun x => bnd g fun y => bnd (opt (op x y)) fun b => if b = true then bnd h fun z => opt (op' y z) else ret false
theorem chn_three {c : Expr} {op op' : PyData → PyData → Option Bool} {f g h : M PyData} {r r' : R2} {ta tb tc : TE} {δ δ' : En} {z : Bool} (ho : CJ X.K op r) (ho' : CJ X.K op' r') (ja : DJ X.K f ta) (jb : DJ X.K g tb) (jc : DJ X.K h tc) (hf : gChn op op' f g h δ = some (z, δ'))
    {σ : St} {H : Hp} {F : Fz} {os : List Addr} {Q : VK} (S : SR X.K δ σ H F os) (k : ∀ H' F' os', Step H F os H' F' os' → SR X.K δ' σ H' F' os' → Q (.bl z) H') : tChain r r' ta tb tc σ H Q := by
  obtain ⟨x, δ1, h1, h2⟩ := bnd_some hf
  obtain ⟨y, δ2, h3, h4⟩ := bnd_some h2
  obtain ⟨b, δ3, h5, h6⟩ := bnd_some h4
  have oh5 := opt_some h5; obtain ⟨qh5, rfl⟩ := oh5
  refine ja δ x δ1 h1 σ H F os _ S fun v1 H1 F1 os1 st1 S1 r1 => ?_
  refine jb δ1 y _ h3 σ H1 F1 os1 _ S1 fun v2 H2 F2 os2 st2 S2 r2 => ?_
  refine ho x y b qh5 v1 v2 H2 F2 _ (r1.step S1 st2) r2 ⟨b, rfl, ?_⟩
  cases b with
  | true =>
    simp only [if_true] at h6 ⊢
    obtain ⟨w, δ4, h7, h8⟩ := bnd_some h6
    have oh8 := opt_some h8; obtain ⟨qh8, rfl⟩ := oh8
    refine jc _ w _ h7 σ H2 F2 os2 _ S2 fun v3 H3 F3 os3 st3 S3 r3 => ?_
    exact ho' y w z qh8 v2 v3 H3 F3 _ (r2.step S2 st3) r3 (k H3 F3 os3 ((st1.trans st2).trans st3) S3)
  | false =>
    simp only [Bool.false_eq_true, if_false] at h6 ⊢
    obtain ⟨rfl, rfl⟩ := ret_some h6
    exact k H2 F2 os2 (st1.trans st2) S2
end
end Pv

namespace Pv
open PySem PySem.Spec L2
open PyProof.Rows hiding St
/-! Pv3: tests, operations by their values -/
def gAnd (f g : M Bool) : M Bool := bnd f fun b => if b = true then g else ret false
def gOr (f g : M Bool) : M Bool := bnd f fun b => if b = true then ret true else g
def gNot (f : M Bool) : M Bool := bnd f fun b => ret (!b)
def tB (f : M PyData) : M Bool := bnd f fun d => match d with
  | .bool b => ret b
  | _ => fun _ => none
def gIf {α : Type} (c : M Bool) (f g : M α) : M α := bnd c fun b => if b = true then f else g
def gAndV (f g : M PyData) : M PyData := bnd f fun d => match d with
  | .bool true => g
  | .bool false => ret (.bool false)
  | _ => fun _ => none
def gOrV (f g : M PyData) : M PyData := bnd f fun d => match d with
  | .bool false => g
  | .bool true => ret (.bool true)
  | _ => fun _ => none
section
variable {X : Cx} {e a b : Expr} {rest : List Expr} {pos : Pos} {f g : M Bool} {u v : M PyData}
theorem t_w (h : WOk X e f) : TOk X e f := let ⟨t, p, j⟩ := h.ex; ⟨t, p.pt, j⟩
theorem w_and1 (h : TOk X a f) : WOk X (.BoolOp .And [a] pos) f := let ⟨t, p, j⟩ := h.ex; ⟨t, pw_and1 p, j⟩
theorem w_or1 (h : TOk X a f) : WOk X (.BoolOp .Or [a] pos) f := let ⟨t, p, j⟩ := h.ex; ⟨t, pw_or1 p, j⟩
theorem w_and (h : TOk X a f) (h' : WOk X (.BoolOp .And (b :: rest) pos) g) : WOk X (.BoolOp .And (a :: b :: rest) pos) (gAnd f g) := by
  obtain ⟨t, p, j⟩ := h.ex
  obtain ⟨t', p', j'⟩ := h'.ex
  refine ⟨tAnd t t', pw_and p p', fun δ z δ' hf σ H F os Q S k => ?_⟩
  obtain ⟨c, δ1, h1, h2⟩ := bnd_some hf
  refine j δ c δ1 h1 σ H F os _ S fun H1 F1 os1 st1 S1 => ?_
  cases c with
  | true =>
    simp only [if_true] at h2 ⊢
    exact j' δ1 z δ' h2 σ H1 F1 os1 Q S1 fun H' F' os' st S' => k H' F' os' (st1.trans st) S'
  | false =>
    simp only [Bool.false_eq_true, if_false] at h2 ⊢
    obtain ⟨rfl, rfl⟩ := ret_some h2
    exact k H1 F1 os1 st1 S1
theorem w_or (h : TOk X a f) (h' : WOk X (.BoolOp .Or (b :: rest) pos) g) : WOk X (.BoolOp .Or (a :: b :: rest) pos) (gOr f g) := by
  obtain ⟨t, p, j⟩ := h.ex
  obtain ⟨t', p', j'⟩ := h'.ex
  refine ⟨tOr t t', pw_or p p', fun δ z δ' hf σ H F os Q S k => ?_⟩
  obtain ⟨c, δ1, h1, h2⟩ := bnd_some hf
  refine j δ c δ1 h1 σ H F os _ S fun H1 F1 os1 st1 S1 => ?_
  cases c with
  | true =>
    simp only [if_true] at h2 ⊢
    obtain ⟨rfl, rfl⟩ := ret_some h2
    exact k H1 F1 os1 st1 S1
  | false =>
    simp only [Bool.false_eq_true, if_false] at h2 ⊢
    exact j' δ1 z δ' h2 σ H1 F1 os1 Q S1 fun H' F' os' st S' => k H' F' os' (st1.trans st) S'
theorem t_not (h : TOk X a f) : TOk X (.UnaryOp .Not a pos) (gNot f) := by
  obtain ⟨t, p, j⟩ := h.ex
  refine ⟨tNot t, pt_not p, fun δ z δ' hf σ H F os Q S k => ?_⟩
  obtain ⟨c, δ1, h1, h2⟩ := bnd_some hf
  obtain ⟨rfl, rfl⟩ := ret_some h2
  exact j δ c _ h1 σ H F os _ S k
theorem t_val (h : DOk X e u) (he : ∀ whole, isTrue e X.env whole = (do let v ← whole; standAt e.pos; holding [v] (truthy v)) := by intro _; rfl) : TOk X e (tB u) := by
  obtain ⟨t, p, j⟩ := h.ex
  refine ⟨L2.tB t, pt_val p he, fun δ z δ' hf σ H F os Q S k => ?_⟩
  obtain ⟨d, δ1, h1, h2⟩ := bnd_some hf
  split at h2
  · obtain ⟨rfl, rfl⟩ := ret_some h2
    refine j δ _ _ h1 σ H F os _ S fun v H' F' os' st S' r => ?_
    cases r
    exact ⟨z, rfl, k H' F' os' st S'⟩
  · cases h2
theorem d_one {op} (h : DOk X a u) : DOk X (.BoolOp op [a] pos) u := let ⟨t, p, j⟩ := h.ex; ⟨t, pe_one p, j⟩
theorem d_and (h : DOk X a u) (h' : DOk X (.BoolOp .And (b :: rest) pos) v) : DOk X (.BoolOp .And (a :: b :: rest) pos) (gAndV u v) := by
  obtain ⟨t, p, j⟩ := h.ex
  obtain ⟨t', p', j'⟩ := h'.ex
  refine ⟨tAndV t t', pe_and p p', fun δ z δ' hf σ H F os Q S k => ?_⟩
  obtain ⟨c, δ1, h1, h2⟩ := bnd_some hf
  refine j δ c δ1 h1 σ H F os _ S fun v H1 F1 os1 st1 S1 r => ?_
  split at h2
  · cases r
    exact ⟨true, rfl, iteT (j' δ1 z δ' h2 σ H1 F1 os1 Q S1 fun v H' F' os' st S' => k v H' F' os' (st1.trans st) S')⟩
  · cases r
    obtain ⟨rfl, rfl⟩ := ret_some h2
    exact ⟨false, rfl, iteF (k _ H1 F1 os1 st1 S1 (.bl false))⟩
  · cases h2
theorem d_or (h : DOk X a u) (h' : DOk X (.BoolOp .Or (b :: rest) pos) v) : DOk X (.BoolOp .Or (a :: b :: rest) pos) (gOrV u v) := by
  obtain ⟨t, p, j⟩ := h.ex
  obtain ⟨t', p', j'⟩ := h'.ex
  refine ⟨tOrV t t', pe_or p p', fun δ z δ' hf σ H F os Q S k => ?_⟩
  obtain ⟨c, δ1, h1, h2⟩ := bnd_some hf
  refine j δ c δ1 h1 σ H F os _ S fun v H1 F1 os1 st1 S1 r => ?_
  split at h2
  · cases r
    exact ⟨false, rfl, iteF (j' δ1 z δ' h2 σ H1 F1 os1 Q S1 fun v H' F' os' st S' => k v H' F' os' (st1.trans st) S')⟩
  · cases r
    obtain ⟨rfl, rfl⟩ := ret_some h2
    exact ⟨true, rfl, iteT (k _ H1 F1 os1 st1 S1 (.bl true))⟩
  · cases h2
def gNotV (f : M PyData) : M PyData := bnd f fun d => match d with
  | .bool b => ret (.bool (!b))
  | _ => fun _ => none
theorem d_not (h : DOk X a u) : DOk X (.UnaryOp .Not a pos) (gNotV u) := by
  obtain ⟨t, p, j⟩ := h.ex
  refine ⟨tNotV t, pe_not p, fun δ z δ' hf σ H F os Q S k => ?_⟩
  obtain ⟨c, δ1, h1, h2⟩ := bnd_some hf
  refine j δ c δ1 h1 σ H F os _ S fun v H1 F1 os1 st1 S1 r => ?_
  split at h2
  · cases r
    obtain ⟨rfl, rfl⟩ := ret_some h2
    exact ⟨_, rfl, k _ H1 F1 os1 st1 S1 (.bl _)⟩
  · cases h2
theorem d_ifExp {c : Expr} (hc : TOk X c f) (ha : DOk X a u) (hb : DOk X b v) : DOk X (.IfExp c a b pos) (gIf f u v) := by
  obtain ⟨t, p, j⟩ := hc.ex
  obtain ⟨ta, pa, ja⟩ := ha.ex
  obtain ⟨tb, pb, jb⟩ := hb.ex
  refine ⟨tIf t ta tb, pe_ifExp p pa pb, fun δ z δ' hf σ H F os Q S k => ?_⟩
  obtain ⟨c, δ1, h1, h2⟩ := bnd_some hf
  refine j δ c δ1 h1 σ H F os _ S fun H1 F1 os1 st1 S1 => ?_
  cases c with
  | true => exact iteT (ja δ1 z δ' h2 σ H1 F1 os1 Q S1 fun v H' F' os' st S' => k v H' F' os' (st1.trans st) S')
  | false => exact iteF (jb δ1 z δ' h2 σ H1 F1 os1 Q S1 fun v H' F' os' st S' => k v H' F' os' (st1.trans st) S')
theorem a_ifExp {c : Expr} {u v : M AV} (hc : TOk X c f) (ha : AOk X a u) (hb : AOk X b v) : AOk X (.IfExp c a b pos) (gIf f u v) := by
  obtain ⟨t, p, j⟩ := hc.ex
  obtain ⟨ta, pa, ja⟩ := ha.ex
  obtain ⟨tb, pb, jb⟩ := hb.ex
  refine ⟨tIf t ta tb, pe_ifExp p pa pb, fun δ z δ' hf σ H F os Q S k => ?_⟩
  obtain ⟨c, δ1, h1, h2⟩ := bnd_some hf
  refine j δ c δ1 h1 σ H F os _ S fun H1 F1 os1 st1 S1 => ?_
  cases c with
  | true => exact iteT (ja δ1 z δ' h2 σ H1 F1 os1 Q S1 fun v H' F' os' st S' => k v H' F' os' (st1.trans st) S')
  | false => exact iteF (jb δ1 z δ' h2 σ H1 F1 os1 Q S1 fun v H' F' os' st S' => k v H' F' os' (st1.trans st) S')

/-! ### operators -/
def iOp (g : Int → Int → Option Int) : PyData → PyData → Option AV := fun x y => match x, y with
  | .int i, .int j => (g i j).map fun z => .fz (.int z)
  | _, _ => none
theorem oj_int {op : Value → Value → Sem Value} {C : Int → Int → Prop} {h : Int → Int → Int} {g : Int → Int → Option Int} (ho : OpR X op (rI C fun i j => .int (h i j))) (hg : ∀ i j z, g i j = some z → C i j ∧ z = h i j) : OpA X op (iOp g) := by
  refine ⟨_, ho, fun d e z hz x y H F Q dom rx ry k => ?_⟩
  unfold iOp at hz
  split at hz
  · next i j =>
    cases rx
    cases ry
    cases q : g i j with
    | none => rw [q] at hz; cases hz
    | some w =>
      rw [q] at hz
      cases hz
      obtain ⟨c, rfl⟩ := hg i j w q
      exact ⟨i, j, rfl, rfl, c, k _ _ _ _ (Out.fz dom (.int _))⟩
  · cases hz
theorem rI0_rI {op : Value → Value → Sem Value} {h : Int → Int → V} (ho : OpR X op (rI0 h)) : OpR X op (rI (fun _ _ => True) h) := by
  intro pins s σ H x y v u Q I rx ry ⟨i, j, e1, e2, _, q⟩
  exact ho pins s σ H x y v u Q I rx ry ⟨i, j, e1, e2, q⟩
abbrev subD := iOp fun i j => some (i - j)
theorem o_sub : OpA X (binaryOp .Sub) subD := oj_int (rI0_rI op_sub) fun i j z h => ⟨trivial, (Option.some.inj h).symm⟩
def divI (i j : Int) : Option Int := if 0 < j ∧ j.natAbs.log2 < 9000 then some (i / j) else none
abbrev divD := iOp divI
theorem o_div : OpA X (binaryOp .FloorDiv) divD := oj_int op_fdivW fun i j z h => by
  unfold divI at h
  split at h
  · next c => exact ⟨c, (Option.some.inj h).symm⟩
  · cases h
def modI (i j : Int) : Option Int := if 0 < j then some (i % j) else none
abbrev modD := iOp modI
theorem o_mod : OpA X (binaryOp .Mod) modD := oj_int op_mod fun i j z h => by
  unfold modI at h
  split at h
  · next c => exact ⟨c, (Option.some.inj h).symm⟩
  · cases h
def powI (i j : Int) : Option Int := if 0 ≤ j ∧ j ≤ 1000000 ∧ i.natAbs < 2 ^ 64 then some (i ^ j.toNat) else none
abbrev powD := iOp powI
theorem o_pow : OpA X (binaryOp .Pow) powD := oj_int op_pow fun i j z h => by
  unfold powI at h
  split at h
  · next c => exact ⟨c, (Option.some.inj h).symm⟩
  · cases h
theorem rds_append {K : PySem.W.Frag} {F : Fz} {H : Hp} : ∀ {xs ys : List V} {ds es : List PyData}, RDs K F H xs ds → RDs K F H ys es → RDs K F H (xs ++ ys) (ds ++ es)
  | _, _, _, _, .nil, s => s
  | _, _, _, _, .cons r t, s => .cons r (rds_append t s)
def addD : PyData → PyData → Option AV := fun x y => match x, y with
  | .int i, .int j => some (.fz (.int (i + j)))
  | .str a, .str b => if a.length + b.length ≤ lim then some (.fz (.str (a ++ b))) else none
  | .tuple xs, .tuple ys => if xs.length + ys.length ≤ lim then some (.fz (.tuple (xs ++ ys))) else none
  | .list xs, .list ys => if xs.length + ys.length ≤ lim then some (.ow (fzs (xs ++ ys))) else none
  | _, _ => none
theorem rd_tup {K : PySem.W.Frag} {F : Fz} {H : Hp} {v : V} {ds : List PyData} (r : RD K F H v (.tuple ds)) : ∃ a xs, v = .ref a ∧ QT K F H a xs ∧ RDs K F H xs ds := by
  cases r with
  | tup q r => exact ⟨_, _, rfl, q, r⟩
theorem rd_lst {K : PySem.W.Frag} {F : Fz} {H : Hp} {v : V} {ds : List PyData} (r : RD K F H v (.list ds)) : ∃ a xs, v = .ref a ∧ F a ∧ H a = some (.lst xs) ∧ RDs K F H xs ds := by
  cases r with
  | lst f h r => exact ⟨_, _, rfl, f, h, r⟩
theorem rds_nil {K : PySem.W.Frag} {F : Fz} {H : Hp} {ds : List PyData} (r : RDs K F H [] ds) : ds = [] := by cases r; rfl
theorem o_add : OpA X (binaryOp .Add) addD := by
  refine ⟨_, op_add.or (op_add_str.or (op_catA.or op_cat)), fun d e z hz x y H F Q dom rx ry k => ?_⟩
  unfold addD at hz
  split at hz
  · cases rx
    cases ry
    cases hz
    exact .inl ⟨_, _, rfl, rfl, k _ _ _ _ (Out.fz dom (.int _))⟩
  · split at hz
    · next h =>
      cases rx
      cases ry
      cases hz
      exact .inr (.inl ⟨_, _, rfl, rfl, Nat.le_trans h lim_line, k _ _ _ _ (Out.fz dom (.str _))⟩)
    · cases hz
  · split at hz
    · next xs ys h =>
      cases hz
      obtain ⟨p, vs, rfl, q1, r1⟩ := rd_tup rx
      obtain ⟨p2, ws, rfl, q2, r2⟩ := rd_tup ry
      have e1 := r1.length
      have e2 := r2.length
      refine .inr (.inr (.inl ⟨p, p2, vs, ws, rfl, rfl, q1.sq, q2.sq, by rw [e1, e2]; exact Nat.le_trans h lim_line, fun c => ?_, fun _ c => ?_, fun _ _ n hn => ?_⟩))
      · subst c
        have e := rds_nil r1
        subst e
        exact k _ _ _ _ (Out.fz dom (.tup q2 r2))
      · subst c
        have e := rds_nil r2
        subst e
        rw [List.append_nil] at k
        exact k _ _ _ _ (Out.fz dom (.tup q1 r1))
      · exact k _ _ _ _ (Out.tup dom hn (rds_append r1 r2))
    · cases hz
  · split at hz
    · next xs ys h =>
      cases hz
      obtain ⟨p, vs, rfl, f1, q1, r1⟩ := rd_lst rx
      obtain ⟨p2, ws, rfl, f2, q2, r2⟩ := rd_lst ry
      have e1 := r1.length
      have e2 := r2.length
      refine .inr (.inr (.inr ⟨p, p2, vs, ws, rfl, rfl, q1, q2, by rw [e1, e2]; exact Nat.le_trans h lim_line, fun n hn => ?_⟩))
      exact k _ _ _ _ (Out.lst dom hn (rds_append r1 r2))
    · cases hz
  · cases hz
theorem rds_rep {K : PySem.W.Frag} {F : Fz} {H : Hp} {xs : List V} {ds : List PyData} (r : RDs K F H xs ds) : ∀ n : Nat, RDs K F H (List.replicate n xs).flatten (List.replicate n ds).flatten
  | 0 => .nil
  | n + 1 => by
    rw [List.replicate_succ, List.replicate_succ, List.flatten_cons, List.flatten_cons]
    exact rds_append r (rds_rep r n)
/-- t * 1 is t -/
theorem tuple_mul1 (l : Addr) (items : Array Value) (n : Nat) (dd : Option Addr) (sl : Array (Option Value)) (u : Tok) :
    Meets (Builtin.«tuple.__mul__» ⟨[.ref l, .int 1 u], []⟩) (fun _ R s => s.heap.get? l = some { cls := .type "tuple", dict := dd, data := .seq items n, slots := sl } ∧ R (.ok (.ret (Value.ref l))) s) :=
  .of_wp fun prog w A R s h => by
    obtain ⟨hp, g, d, tk, os⟩ := s
    obtain ⟨hl, h⟩ := h
    have f1 := AutoSeq1.idx_int
    have c1 : (items.isEmpty || (1 : Int) == 1) = true := by simp
    wp_walk using wpAny_loadPart' hl
    repeat (first
      | (refine wpAny_ite_false (decide_eq_false (by decide)) ?_; wp_walk using wpAny_loadPart' hl)
      | (refine wpAny_ite_true (decide_eq_true (by rw [c1])) ?_; wp_walk using wpAny_loadPart' hl))
    exact ⟨_, rfl, h⟩
end
end Pv

namespace Pv
open PySem PySem.Spec L2
open PyProof.Rows hiding St
/-! Pv4: more operations by their values: products, comparisons, built-ins, subscripts -/
section
variable {X : Cx}
def rRep1 (K : PySem.W.Frag) : R2 := fun x y H Q => ∃ l xs, x = .ref l ∧ y = .int 1 ∧ SqT K H l xs ∧ Q (.ref l) H
theorem op_rep1 : OpR X (binaryOp .Mult) (rRep1 X.K) := by
  intro pins s σ H x y v u Q I rx ry h
  obtain ⟨l, xs, rfl, rfl, hT, q⟩ := h
  cases rx
  obtain ⟨t, rfl⟩ := ry
  obtain ⟨its, r, ⟨⟨cls, dd, data, sl⟩, ho, hc, n, hd⟩, hs⟩ := I.tuple hT
  simp only at hc hd
  subst hc hd
  exact wpAny_binaryOp_repeat_ref (T := "tuple") (U := "int") (by decide) ⟨_, ho, rfl⟩ (fun s' => typeIs_int s' 1 t) noFill_tuple_mul F.fills_int_mul F.slot_int_rmul repeat_tuple F.slot_int_index.lookup
    (call_meets F.slot_int_rmul (typeIs_int s 1 t) F.entry_int_rmul (F.args_int_rmul_2 _ _) (int_rmul_tuple 1 t l its.toArray n dd sl)
      ⟨ho, rfl, ⟨_, ho, rfl⟩, call_meets F.slot_tuple_mul ⟨_, ho, rfl⟩ F.entry_tuple_mul (F.args_tuple_mul_2 _ _) (tuple_mul1 l its.toArray n dd sl t)
        ⟨ho, ⟨.ref l, H, I, rfl, q⟩⟩⟩)
def mulI (i j : Int) : Option Int := if i.natAbs.log2 + j.natAbs.log2 < 1000000 then some (i * j) else none
def mulD : PyData → PyData → Option AV := fun x y => match x, y with
  | .int i, .int j => (mulI i j).map fun z => .fz (.int z)
  | .tuple ds, .int k => if k = 1 then some (.fz (.tuple ds)) else if ds ≠ [] ∧ 2 ≤ k ∧ k ≤ 1000 ∧ ds.length ≤ 1000 then some (.fz (.tuple (List.replicate k.toNat ds).flatten)) else none
  | .list ds, .int k => if -1000 ≤ k ∧ k ≤ 1000 ∧ ds.length ≤ 1000 then some (.ow (fzs (List.replicate k.toNat ds).flatten)) else none
  | _, _ => none
theorem o_mul : OpA X (binaryOp .Mult) mulD := by
  refine ⟨_, op_mulW.or (op_rep1.or (op_repT.or op_rep)), fun d e z hz x y H F Q dom rx ry k => ?_⟩
  unfold mulD at hz
  split at hz
  · next i j =>
    cases rx
    cases ry
    unfold mulI at hz
    split at hz
    · next c =>
      cases hz
      exact .inl ⟨i, j, rfl, rfl, c, k _ _ _ _ (Out.fz dom (.int _))⟩
    · cases hz
  · next ds c =>
    obtain ⟨p, vs, rfl, q1, r1⟩ := rd_tup rx
    cases ry
    split at hz
    · next e1 =>
      subst e1
      cases hz
      exact .inr (.inl ⟨p, vs, rfl, rfl, q1.sq, k _ _ _ _ (Out.fz dom (.tup q1 r1))⟩)
    · split at hz
      · next e1 e2 =>
        cases hz
        refine .inr (.inr (.inl ⟨p, c, vs, rfl, rfl, q1.sq, fun q => ?_, e2.2.1, e2.2.2.1, by rw [r1.length]; exact e2.2.2.2, fun n hn => k _ _ _ _ (Out.tup dom hn (rds_rep r1 _))⟩))
        subst q
        exact e2.1 (rds_nil r1)
      · cases hz
  · next ds c =>
    obtain ⟨p, vs, rfl, f1, q1, r1⟩ := rd_lst rx
    cases ry
    split at hz
    · next e1 =>
      cases hz
      obtain ⟨e2, e3, e4⟩ := e1
      refine .inr (.inr (.inr ⟨p, c, vs, rfl, rfl, q1, by omega, by omega, ?_, fun n hn => k _ _ _ _ (Out.lst dom hn (rds_rep r1 _))⟩))
      have a1 : vs.length ≤ 1000 := by rw [r1.length]; exact e4
      have a2 : c.toNat ≤ 1000 := by omega
      have a3 : vs.length * c.toNat ≤ 1000 * 1000 := Nat.mul_le_mul a1 a2
      rw [sizeLine_eq]
      omega
    · cases hz
  · cases hz

/-! ### comparisons -/
mutual
theorem rd_dp {K : PySem.W.Frag} {F : Fz} {H : Hp} : ∀ (d : PyData) (v : V), RD K F H v d → d.canLay0 = true → Dp K H v d
  | .none, v, r, _ => by cases r; exact .non
  | .bool b, v, r, _ => by cases r; exact .bl b
  | .int i, v, r, _ => by cases r; exact .int i
  | .str x, v, r, _ => by cases r; exact .str x
  | .list ds, v, r, c => by
    cases r with
    | lst f h r => exact .lst (SqL.of h) (rds_dp ds _ r (by simpa only [PyData.canLay0] using c))
  | .tuple ds, v, r, c => by
    cases r with
    | tup q r => exact .tup q.sq (rds_dp ds _ r (by simpa only [PyData.canLay0] using c))
  | .dict kvs, v, r, c => by simp [PyData.canLay0] at c
theorem rds_dp {K : PySem.W.Frag} {F : Fz} {H : Hp} : ∀ (d : List PyData) (v : List V), RDs K F H v d → PyData.canLayAll0 d = true → DpAll K H v d
  | [], v, r, _ => by cases r; exact .nil
  | x :: xs, v, r, c => by
    have c2 := Bool.and_eq_true_iff.mp (show (PyData.canLay0 x && PyData.canLayAll0 xs) = true from c)
    cases r with
    | cons r t => exact .cons (rd_dp x _ r c2.1) (rds_dp xs _ t c2.2)
end
def eqD (x y : PyData) : Option Bool := if SeqAt.shaped x = true ∧ SeqAt.shaped y = true then some (PyData.eqv x y) else none
def neD (x y : PyData) : Option Bool := (eqD x y).map not
theorem o_eq (hu : X.A.units + 64 < cLine) : CmA X (compareOp .Eq) eqD := by
  refine ⟨_, op_eqD hu, fun d e z hz x y H F Q rx ry k => ?_⟩
  unfold eqD at hz
  split at hz
  · next c =>
    cases hz
    exact ⟨d, e, rd_dp d x rx (SeqAt.canLay_of_shaped c.1), rd_dp e y ry (SeqAt.canLay_of_shaped c.2), c.1, c.2, k⟩
  · cases hz
theorem o_ne (hu : X.A.units + 64 < cLine) : CmA X (compareOp .NotEq) neD := by
  refine ⟨_, op_neD hu, fun d e z hz x y H F Q rx ry k => ?_⟩
  unfold neD eqD at hz
  split at hz
  · next c =>
    cases hz
    exact ⟨d, e, rd_dp d x rx (SeqAt.canLay_of_shaped c.1), rd_dp e y ry (SeqAt.canLay_of_shaped c.2), c.1, c.2, k⟩
  · cases hz
def cI (p : Int → Int → Bool) : PyData → PyData → Option Bool := fun x y => match x, y with
  | .int i, .int j => some (p i j)
  | _, _ => none
theorem cj_int {op : Value → Value → Sem Value} {p : Int → Int → Bool} (ho : OpR X op (rI0 fun i j => .bl (p i j))) : CmA X op (cI p) := by
  refine ⟨_, ho, fun d e z hz x y H F Q rx ry k => ?_⟩
  unfold cI at hz
  split at hz
  · cases rx
    cases ry
    cases hz
    exact ⟨_, _, rfl, rfl, k⟩
  · cases hz
abbrev ltI := cI fun i j => decide (i < j)
abbrev leI := cI fun i j => decide (i ≤ j)
abbrev gtI := cI fun i j => decide (j < i)
abbrev geI := cI fun i j => decide (j ≤ i)
theorem o_lt : CmA X (compareOp .Lt) ltI := cj_int op_lt
theorem o_le : CmA X (compareOp .LtE) leI := cj_int op_le
theorem o_gt : CmA X (compareOp .Gt) gtI := cj_int op_gt
theorem o_ge : CmA X (compareOp .GtE) geI := cj_int op_ge
def isNon : PyData → Bool
  | .none => true
  | _ => false
def isD (x y : PyData) : Option Bool := match y with
  | .none => some (isNon x)
  | _ => none
def isntD (x y : PyData) : Option Bool := (isD x y).map not
theorem rd_non {K : PySem.W.Frag} {F : Fz} {H : Hp} {v : V} {d : PyData} (r : RD K F H v d) : decide (v = V.non) = isNon d := by
  cases r <;> simp [isNon]
theorem o_is : CmA X (compareOp .Is) isD := by
  refine ⟨_, op_isN, fun d e z hz x y H F Q rx ry k => ?_⟩
  unfold isD at hz
  split at hz
  · cases ry
    cases hz
    exact ⟨rfl, by rw [rd_non rx]; exact k⟩
  · cases hz
theorem o_isnt : CmA X (compareOp .IsNot) isntD := by
  refine ⟨_, op_notN, fun d e z hz x y H F Q rx ry k => ?_⟩
  unfold isntD isD at hz
  split at hz
  · cases ry
    cases hz
    exact ⟨rfl, by rw [rd_non rx]; exact k⟩
  · cases hz

/-! ### subscripts -/
theorem rds_at {K : PySem.W.Frag} {F : Fz} {H : Hp} : ∀ {vs : List V} {ds : List PyData} {i : Nat} {d : PyData}, RDs K F H vs ds → ds[i]? = some d → ∃ v, vs[i]? = some v ∧ RD K F H v d
  | _, [], i, d, r, h => by simp at h
  | _, x :: xs, 0, d, r, h => by
    cases r with
    | cons r t =>
      have e : x = d := by simpa using h
      subst e
      exact ⟨_, rfl, r⟩
  | _, x :: xs, i + 1, d, r, h => by
    cases r with
    | cons r t =>
      obtain ⟨v, h1, h2⟩ := rds_at (i := i) t (by simpa using h)
      exact ⟨v, by simpa using h1, h2⟩
theorem rds_atI {K : PySem.W.Frag} {F : Fz} {H : Hp} {vs : List V} {ds : List PyData} {i : Int} {d : PyData} (r : RDs K F H vs ds) (h : atI ds i = some d) : ∃ v, atI vs i = some v ∧ RD K F H v d := by
  unfold atI at h ⊢
  rw [r.length]
  cases e : ixN ds.length i with
  | none => rw [e] at h; cases h
  | some j =>
    rw [e] at h
    exact rds_at r h
def ixD : PyData → PyData → Option AV := fun x y => match x, y with
  | .list ds, .int i => (atI ds i).map .fz
  | .tuple ds, .int i => (atI ds i).map .fz
  | .str z, .int i => if z.length ≤ lim then (atI z.cps.toList i).map fun c => .fz (.str ⟨#[c]⟩) else none
  | _, _ => none
structure IxA (X : Cx) (op : PyData → PyData → Option AV) : Prop where
  ex : ∃ r, IxR X r ∧ OJ X.K op r
theorem x_ix : IxA X ixD := by
  refine ⟨_, ix_seq, fun d e z hz x y H F Q dom rx ry k => ?_⟩
  unfold ixD at hz
  split at hz
  · next ds i =>
    obtain ⟨p, vs, rfl, f1, q1, r1⟩ := rd_lst rx
    cases ry
    cases h : atI ds i with
    | none => rw [h] at hz; cases hz
    | some d =>
      rw [h] at hz
      cases hz
      obtain ⟨v, h1, h2⟩ := rds_atI r1 h
      exact .inl ⟨p, vs, i, v, rfl, rfl, SqL.of q1, h1, k _ _ _ _ (Out.fz dom h2)⟩
  · next ds i =>
    obtain ⟨p, vs, rfl, q1, r1⟩ := rd_tup rx
    cases ry
    cases h : atI ds i with
    | none => rw [h] at hz; cases hz
    | some d =>
      rw [h] at hz
      cases hz
      obtain ⟨v, h1, h2⟩ := rds_atI r1 h
      exact .inr (.inl ⟨p, vs, i, v, rfl, rfl, q1.sq, h1, k _ _ _ _ (Out.fz dom h2)⟩)
  · next s i =>
    cases rx
    cases ry
    split at hz
    · next hl =>
      cases h : atI s.cps.toList i with
      | none => rw [h] at hz; cases hz
      | some c =>
        rw [h] at hz
        cases hz
        exact .inr (.inr ⟨s, i, c, rfl, rfl, Nat.le_trans hl lim_line, h, k _ _ _ _ (Out.fz dom (.str _))⟩)
    · cases hz
  · cases hz
variable {a b e : Expr} {pos : Pos}
theorem a_ix {op : PyData → PyData → Option AV} {f g : M PyData} (ho : IxA X op) (ha : DOk X a f) (hb : DOk X b g) (hs : PlainIx b := by exact fun _ _ => rfl) : AOk X (.Subscript a b pos) (gBin op f g) := by
  obtain ⟨r, hr, jr⟩ := ho.ex
  obtain ⟨ta, pa, ja⟩ := ha.ex
  obtain ⟨tb, pb, jb⟩ := hb.ex
  exact ⟨tOp r ta tb, pe_ix hr pa pb hs, EJ.two jr ja jb⟩

/-! ### built-ins, called -/
structure CallA (X : Cx) (f : Value) (op : List PyData → Option AV) : Prop where
  ex : ∃ r, CallR X f r ∧ ∀ ds z, op ds = some z → ∀ (vs : List V) (H : Hp) (F : Fz) (Q : VK), (∀ q, F q → H q ≠ none) → RDs X.K F H vs ds → (∀ v H' F' o, Out X.K F H z v H' F' o → Q v H') → r vs H Q
def gCall (op : List PyData → Option AV) (g : M (List PyData)) : M AV := bnd g fun ds => opt (op ds)
theorem ej_call {op : List PyData → Option AV} {g : M (List PyData)} {r : List V → Hp → VK → Prop} {t : TA}
    (jr : ∀ ds z, op ds = some z → ∀ (vs : List V) (H : Hp) (F : Fz) (Q : VK), (∀ q, F q → H q ≠ none) → RDs X.K F H vs ds → (∀ v H' F' o, Out X.K F H z v H' F' o → Q v H') → r vs H Q) (j : LJ X.K g t) : EJ X.K (gCall op g) (tCB r t) := by
  intro δ z δ' hf σ H F os Q S k
  obtain ⟨ds, δ1, h1, h2⟩ := bnd_some hf
  have h3 := opt_some h2
  obtain ⟨h4, rfl⟩ := h3
  refine j δ ds _ h1 σ H F os _ S fun vs H1 F1 os1 st1 S1 r1 => ?_
  refine jr ds z h4 vs H1 F1 _ S1.dom r1 fun v H' F' o out => ?_
  obtain ⟨S3, st3⟩ := S1.out out
  exact k v H' F' _ (st1.trans st3) S3
variable {x : Str} {p : Pos} {es : List Expr} {id T : String}
theorem a_callB {op : List PyData → Option AV} {g : M (List PyData)} (hc : CallA X (.builtin id) op) (hg : Gl X x) (hm : X.mg x = none) (hv : bootBuiltins x = some (.builtin id)) (ha : LOk X (e :: es) g) (hn : x ≠ "__name__" := by decide) (hdb : (x == ("__debug__" : Str)) = false := by decide)
    (he : starEach (e :: es) X.env = (false, eval e X.env) :: starEach es X.env := by rfl) (hpl : (backTo pos (starEach es X.env)).any (·.1) = false := by rfl) : AOk X (.Call (.Name x p) (e :: es) [] pos) (gCall op g) := by
  obtain ⟨r, hr, jr⟩ := hc.ex
  obtain ⟨t, pa, j⟩ := ha.ex
  exact ⟨tCB r t, pe_callB hr hg hm hv pa hn hdb he hpl, ej_call jr j⟩
theorem a_callTy {op : List PyData → Option AV} {g : M (List PyData)} (hc : CallA X (.type T) op) (hg : Gl X x) (hm : X.mg x = none) (hv : bootBuiltins x = some (.type T)) (ha : LOk X (e :: es) g) (hn : x ≠ "__name__" := by decide) (hdb : (x == ("__debug__" : Str)) = false := by decide)
    (he : starEach (e :: es) X.env = (false, eval e X.env) :: starEach es X.env := by rfl) (hpl : (backTo pos (starEach es X.env)).any (·.1) = false := by rfl) : AOk X (.Call (.Name x p) (e :: es) [] pos) (gCall op g) := by
  obtain ⟨r, hr, jr⟩ := hc.ex
  obtain ⟨t, pa, j⟩ := ha.ex
  exact ⟨tCB r t, pe_callTy hr hg hm hv pa hn hdb he hpl, ej_call jr j⟩
theorem rds1 {K : PySem.W.Frag} {F : Fz} {H : Hp} {vs : List V} {d : PyData} (r : RDs K F H vs [d]) : ∃ v, vs = [v] ∧ RD K F H v d := by
  cases r with
  | cons r t => cases t; exact ⟨_, rfl, r⟩
theorem rds2 {K : PySem.W.Frag} {F : Fz} {H : Hp} {vs : List V} {d e : PyData} (r : RDs K F H vs [d, e]) : ∃ v w, vs = [v, w] ∧ RD K F H v d ∧ RD K F H w e := by
  cases r with
  | cons r t =>
    obtain ⟨w, rfl, r2⟩ := rds1 t
    exact ⟨_, w, rfl, r, r2⟩
def f1 (g : PyData → Option AV) : List PyData → Option AV
  | [d] => g d
  | _ => none
def f2 (g : PyData → PyData → Option AV) : List PyData → Option AV
  | [d, e] => g d e
  | _ => none
def iFn (g : Int → Option Int) : List PyData → Option AV
  | [.int i] => (g i).map fun z => .fz (.int z)
  | _ => none
def lenD : List PyData → Option AV
  | [.list ds] => some (.fz (.int ds.length))
  | [.tuple ds] => some (.fz (.int ds.length))
  | [.str x] => if x.length ≤ lim then some (.fz (.int x.length)) else none
  | _ => none
theorem c_len : CallA X (.builtin "len") lenD := by
  refine ⟨_, call_len, fun ds z hz vs H F Q dom r k => ?_⟩
  unfold lenD at hz
  split at hz
  · next ds =>
    cases hz
    obtain ⟨v, rfl, r1⟩ := rds1 r
    obtain ⟨p, ws, rfl, f1, q1, r2⟩ := rd_lst r1
    refine ⟨_, ws.length, rfl, .inl ⟨ws, SqL.of q1, rfl⟩, ?_⟩
    rw [r2.length]
    exact k _ _ _ _ (Out.fz dom (.int _))
  · next ds =>
    cases hz
    obtain ⟨v, rfl, r1⟩ := rds1 r
    obtain ⟨p, ws, rfl, q1, r2⟩ := rd_tup r1
    refine ⟨_, ws.length, rfl, .inr ⟨ws, q1.sq, rfl⟩, ?_⟩
    rw [r2.length]
    exact k _ _ _ _ (Out.fz dom (.int _))
  · split at hz
    · next h =>
      cases hz
      obtain ⟨v, rfl, r1⟩ := rds1 r
      cases r1
      exact ⟨_, _, rfl, ⟨Nat.le_trans h lim_line, rfl⟩, k _ _ _ _ (Out.fz dom (.int _))⟩
    · cases hz
  · cases hz
def absI (i : Int) : Int := if i < 0 then -i else i
abbrev absD := iFn fun i => some (absI i)
theorem c_abs : CallA X (.builtin "abs") absD := by
  refine ⟨_, call_abs, fun ds z hz vs H F Q dom r k => ?_⟩
  unfold absD iFn at hz
  split at hz
  · cases hz
    obtain ⟨v, rfl, r1⟩ := rds1 r
    cases r1
    exact ⟨_, rfl, k _ _ _ _ (Out.fz dom (.int _))⟩
  · cases hz
def intD : List PyData → Option AV
  | [.int i] => some (.fz (.int i))
  | [.bool b] => some (.fz (.int (if b then 1 else 0)))
  | _ => none
theorem c_int : CallA X (.type "int") intD := by
  refine ⟨_, call_int1, fun ds z hz vs H F Q dom r k => ?_⟩
  unfold intD at hz
  split at hz
  · cases hz
    obtain ⟨v, rfl, r1⟩ := rds1 r
    cases r1
    exact .inl ⟨_, rfl, k _ _ _ _ (Out.fz dom (.int _))⟩
  · cases hz
    obtain ⟨v, rfl, r1⟩ := rds1 r
    cases r1
    exact .inr ⟨_, rfl, k _ _ _ _ (Out.fz dom (.int _))⟩
  · cases hz
def iFn2 (g : Int → Int → Int) : List PyData → Option AV
  | [.int i, .int j] => some (.fz (.int (g i j)))
  | _ => none
abbrev max2D := iFn2 fun i j => if j > i then j else i
abbrev min2D := iFn2 fun i j => if j < i then j else i
theorem c_max2 (hc : X.calm = true) : CallA X (.builtin "max") max2D := by
  refine ⟨_, call_max2 hc, fun ds z hz vs H F Q dom r k => ?_⟩
  unfold max2D iFn2 at hz
  split at hz
  · cases hz
    obtain ⟨v, w, rfl, r1, r2⟩ := rds2 r
    cases r1
    cases r2
    exact ⟨_, _, rfl, k _ _ _ _ (Out.fz dom (.int _))⟩
  · cases hz
theorem c_min2 (hc : X.calm = true) : CallA X (.builtin "min") min2D := by
  refine ⟨_, call_min2 hc, fun ds z hz vs H F Q dom r k => ?_⟩
  unfold min2D iFn2 at hz
  split at hz
  · cases hz
    obtain ⟨v, w, rfl, r1, r2⟩ := rds2 r
    cases r1
    cases r2
    exact ⟨_, _, rfl, k _ _ _ _ (Out.fz dom (.int _))⟩
  · cases hz
def listD : List PyData → Option AV
  | [.list ds] => some (.ow (fzs ds))
  | [.tuple ds] => some (.ow (fzs ds))
  | _ => none
theorem c_list : CallA X (.type "list") listD := by
  refine ⟨_, call_list_of, fun ds z hz vs H F Q dom r k => ?_⟩
  unfold listD at hz
  split at hz
  · cases hz
    obtain ⟨v, rfl, r1⟩ := rds1 r
    obtain ⟨p, ws, rfl, f1, q1, r2⟩ := rd_lst r1
    exact ⟨p, ws, rfl, .inl (SqL.of q1), fun l hl => k _ _ _ _ (Out.lst dom hl r2)⟩
  · cases hz
    obtain ⟨v, rfl, r1⟩ := rds1 r
    obtain ⟨p, ws, rfl, q1, r2⟩ := rd_tup r1
    exact ⟨p, ws, rfl, .inr q1.sq, fun l hl => k _ _ _ _ (Out.lst dom hl r2)⟩
  · cases hz
def tupleD : List PyData → Option AV
  | [.list ds] => some (.fz (.tuple ds))
  | [.tuple ds] => some (.fz (.tuple ds))
  | _ => none
theorem c_tuple : CallA X (.type "tuple") tupleD := by
  refine ⟨_, call_tuple_of, fun ds z hz vs H F Q dom r k => ?_⟩
  unfold tupleD at hz
  split at hz
  · cases hz
    obtain ⟨v, rfl, r1⟩ := rds1 r
    obtain ⟨p, ws, rfl, f1, q1, r2⟩ := rd_lst r1
    exact ⟨p, ws, rfl, .inl ⟨SqL.of q1, fun l hl => k _ _ _ _ (Out.tup dom hl r2)⟩⟩
  · cases hz
    obtain ⟨v, rfl, r1⟩ := rds1 r
    obtain ⟨p, ws, rfl, q1, r2⟩ := rd_tup r1
    exact ⟨p, ws, rfl, .inr ⟨q1.sq, k _ _ _ _ (Out.fz dom (.tup q1 r2))⟩⟩
  · cases hz
def intsOf : List PyData → Option (List Int)
  | [] => some []
  | .int i :: r => (intsOf r).map (i :: ·)
  | _ => none
theorem rds_ints {K : PySem.W.Frag} {F : Fz} {H : Hp} : ∀ {ds : List PyData} {vs : List V} {ns : List Int}, RDs K F H vs ds → intsOf ds = some ns → vs = ns.map V.int
  | [], vs, ns, r, h => by cases r; cases h; rfl
  | d :: ds, vs, ns, r, h => by
    cases r with
    | cons r t =>
      cases d with
      | int i =>
        cases r
        have h2 : (intsOf ds).map (i :: ·) = some ns := h
        cases e : intsOf ds with
        | none => rw [e] at h2; cases h2
        | some ms =>
          rw [e] at h2
          cases h2
          rw [rds_ints t e]
          rfl
      | _ => cases h
def sumD : List PyData → Option AV
  | [.list ds] => (intsOf ds).map fun ns => .fz (.int ns.sum)
  | _ => none
theorem c_sum (hc : X.calm = true) : CallA X (.builtin "sum") sumD := by
  refine ⟨_, cr_sum hc, fun ds z hz vs H F Q dom r k => ?_⟩
  unfold sumD at hz
  split at hz
  · next ds =>
    obtain ⟨v, rfl, r1⟩ := rds1 r
    obtain ⟨p, ws, rfl, f1, q1, r2⟩ := rd_lst r1
    cases e : intsOf ds with
    | none => rw [e] at hz; cases hz
    | some ns =>
      rw [e] at hz
      cases hz
      have q := rds_ints r2 e
      subst q
      exact ⟨p, ns, rfl, SqL.of q1, k _ _ _ _ (Out.fz dom (.int _))⟩
  · cases hz
def blsOf : List PyData → Option (List Bool)
  | [] => some []
  | .bool i :: r => (blsOf r).map (i :: ·)
  | _ => none
theorem rds_bls {K : PySem.W.Frag} {F : Fz} {H : Hp} : ∀ {ds : List PyData} {vs : List V} {ns : List Bool}, RDs K F H vs ds → blsOf ds = some ns → vs = ns.map V.bl
  | [], vs, ns, r, h => by cases r; cases h; rfl
  | d :: ds, vs, ns, r, h => by
    cases r with
    | cons r t =>
      cases d with
      | bool i =>
        cases r
        have h2 : (blsOf ds).map (i :: ·) = some ns := h
        cases e : blsOf ds with
        | none => rw [e] at h2; cases h2
        | some ms =>
          rw [e] at h2
          cases h2
          rw [rds_bls t e]
          rfl
      | _ => cases h
def allD : List PyData → Option AV
  | [.list ds] => (blsOf ds).map fun ns => .fz (.bool (ns.all _root_.id))
  | _ => none
def anyD : List PyData → Option AV
  | [.list ds] => (blsOf ds).map fun ns => .fz (.bool (ns.any _root_.id))
  | _ => none
theorem c_all (hc : X.calm = true) : CallA X (.builtin "all") allD := by
  refine ⟨_, cr_all hc, fun ds z hz vs H F Q dom r k => ?_⟩
  unfold allD at hz
  split at hz
  · next ds =>
    obtain ⟨v, rfl, r1⟩ := rds1 r
    obtain ⟨p, ws, rfl, f1, q1, r2⟩ := rd_lst r1
    cases e : blsOf ds with
    | none => rw [e] at hz; cases hz
    | some ns =>
      rw [e] at hz
      cases hz
      have q := rds_bls r2 e
      subst q
      exact ⟨p, ns, rfl, SqL.of q1, k _ _ _ _ (Out.fz dom (.bl _))⟩
  · cases hz
theorem c_any (hc : X.calm = true) : CallA X (.builtin "any") anyD := by
  refine ⟨_, cr_any hc, fun ds z hz vs H F Q dom r k => ?_⟩
  unfold anyD at hz
  split at hz
  · next ds =>
    obtain ⟨v, rfl, r1⟩ := rds1 r
    obtain ⟨p, ws, rfl, f1, q1, r2⟩ := rd_lst r1
    cases e : blsOf ds with
    | none => rw [e] at hz; cases hz
    | some ns =>
      rw [e] at hz
      cases hz
      have q := rds_bls r2 e
      subst q
      exact ⟨p, ns, rfl, SqL.of q1, k _ _ _ _ (Out.fz dom (.bl _))⟩
  · cases hz
end
end Pv

namespace Pv
open PySem PySem.Spec L2
open PyProof.Rows hiding St
/-! Pv5: isinstance, slices; statements -/
inductive Ty where
  | int | bool | str | list | tuple | dict
def Ty.nm : Ty → String
  | .int => "int"
  | .bool => "bool"
  | .str => "str"
  | .list => "list"
  | .tuple => "tuple"
  | .dict => "dict"
def tnm : PyData → String
  | .none => "NoneType"
  | .bool _ => "bool"
  | .int _ => "int"
  | .str _ => "str"
  | .list _ => "list"
  | .tuple _ => "tuple"
  | .dict _ => "dict"
def Ty.is : Ty → PyData → Bool
  | .int, .int _ => true
  | .int, .bool _ => true
  | .bool, .bool _ => true
  | .str, .str _ => true
  | .list, .list _ => true
  | .tuple, .tuple _ => true
  | .dict, .dict _ => true
  | _, _ => false
theorem kit_all (T : Ty) (d : PyData) : kitB (tnm d) T.nm = some (T.is d) := by
  have a : ∀ n ∈ ["NoneType", "bool", "int", "str", "list", "tuple", "dict"], ∀ m ∈ ["int", "bool", "str", "list", "tuple", "dict"],
      kitB n m = some (decide (n = m) || (decide (n = "bool") && decide (m = "int"))) := by decide +kernel
  have b := a (tnm d) (by cases d <;> simp [tnm]) T.nm (by cases T <;> simp [Ty.nm])
  rw [b]
  cases d <;> cases T <;> rfl
section
variable {X : Cx} {a b e : Expr} {pos : Pos} {K : PySem.W.Frag} {F : Fz} {H : Hp}
theorem rd_ty {v : V} {d : PyData} (r : RD K F H v d) : TyX K H v (.type (tnm d)) := by
  cases r with
  | non => exact .base .non
  | bl b => exact .base (.bl b)
  | int i => exact .base (.int i)
  | str x => exact .base (.str x)
  | lst f h r => exact .base (.lst h)
  | tup q r =>
    rcases q.sq with (h | ⟨o, h⟩) | ⟨o, its, n, h1, h2, _⟩
    · exact .base (.tup h)
    · exact .fTuple h
    · exact .kTuple h1 h2
  | dct f h r => exact .base (.dK h)
def gIsi (T : Ty) (f : M PyData) : M PyData := bnd f fun d => ret (.bool (T.is d))
theorem d_isi {T : Ty} {f : M PyData} {x : Str} {p p2 pos : Pos} (h : DOk X e f) (hg : Gl X "isinstance") (hm : X.mg "isinstance" = none) (hgT : Gl X x) (hmT : X.mg x = none) (hvT : bootBuiltins x = some (.type T.nm))
    (hn : x ≠ "__name__" := by decide) (hdb : (x == ("__debug__" : Str)) = false := by decide)
    (he : starEach [e, .Name x p2] X.env = (false, eval e X.env) :: starEach [.Name x p2] X.env := by rfl) (hpl : (backTo pos (starEach [.Name x p2] X.env)).any (·.1) = false := by rfl) :
    DOk X (.Call (.Name "isinstance" p) [e, .Name x p2] [] pos) (gIsi T f) := by
  obtain ⟨t, pe, j⟩ := h.ex
  refine ⟨tCB (rIsi X.K) (tCons t (tCons (tC (.ty T.nm)) tNil)), pe_callB call_isi hg hm (by decide +kernel) (pa_cons pe (pa_cons (pe_bltn hgT hmT hvT rfl hn hdb) pa_nil) he) (by decide) (by decide) he hpl, fun δ d δ' hf σ H F os Q S k => ?_⟩
  obtain ⟨c, δ1, h1, h2⟩ := bnd_some hf
  obtain ⟨rfl, rfl⟩ := ret_some h2
  refine j δ c _ h1 σ H F os _ S fun v H1 F1 os1 st1 S1 r1 => ?_
  exact ⟨v, .ty T.nm, _, _, T.is c, rfl, .ty _, rd_ty r1, kit_ty (kit_all T c), k _ H1 F1 os1 st1 S1 (.bl _)⟩
def gIsi2 (T U : Ty) (f : M PyData) : M PyData := bnd f fun d => ret (.bool (T.is d || U.is d))
theorem d_isi2 {T U : Ty} {f : M PyData} {x y : Str} {p p2 p3 p4 pos : Pos} {kk : Nat} (h : DOk X e f) (hg : Gl X "isinstance") (hm : X.mg "isinstance" = none) (hgT : Gl X x) (hmT : X.mg x = none) (hvT : bootBuiltins x = some (.type T.nm))
    (hgU : Gl X y) (hmU : X.mg y = none) (hvU : bootBuiltins y = some (.type U.nm)) (hn : x ≠ "__name__" := by decide) (hdb : (x == ("__debug__" : Str)) = false := by decide) (hn2 : y ≠ "__name__" := by decide) (hdb2 : (y == ("__debug__" : Str)) = false := by decide)
    (hs1 : starEach [.Name x p2, .Name y p3] X.env = (false, eval (.Name x p2) X.env) :: starEach [.Name y p3] X.env := by rfl)
    (he : starEach [e, .Tuple [.Name x p2, .Name y p3] kk p4] X.env = (false, eval e X.env) :: starEach [.Tuple [.Name x p2, .Name y p3] kk p4] X.env := by rfl) (hpl : (backTo pos (starEach [.Tuple [.Name x p2, .Name y p3] kk p4] X.env)).any (·.1) = false := by rfl) :
    DOk X (.Call (.Name "isinstance" p) [e, .Tuple [.Name x p2, .Name y p3] kk p4] [] pos) (gIsi2 T U f) := by
  obtain ⟨t, pe, j⟩ := h.ex
  refine ⟨tCB (rIsiT X.K) (tCons t (tCons (tTup (tCons (tC (.ty T.nm)) (tCons (tC (.ty U.nm)) tNil))) tNil)),
    pe_callB call_isiT hg hm (by decide +kernel) (pa_cons pe (pa_cons (pe_tup (pa_cons (pe_bltn hgT hmT hvT rfl hn hdb) (pa_cons (pe_bltn hgU hmU hvU rfl hn2 hdb2) pa_nil) hs1)) pa_nil) he) (by decide) (by decide) he hpl, fun δ d δ' hf σ H F os Q S k => ?_⟩
  obtain ⟨c, δ1, h1, h2⟩ := bnd_some hf
  obtain ⟨rfl, rfl⟩ := ret_some h2
  refine j δ c _ h1 σ H F os _ S fun v H1 F1 os1 st1 S1 r1 => ⟨by show 2 ≤ sizeLine; decide, fun q hq => ?_⟩
  have x : Out X.K F1 H1 (.fz .none) .non (upd H1 q (.tup [.ty T.nm, .ty U.nm])) F1 [] := ⟨Grow.own S1.dom hq, .fz .non, .nil, fun _ m => absurd m List.not_mem_nil⟩
  obtain ⟨S2, st2⟩ := S1.out x
  obtain ⟨os3, m3, S3⟩ := S2.drop
  refine ⟨v, q, [.ty T.nm, .ty U.nm], _, [.type T.nm, .type U.nm], _, rfl, upd_same, .cons (.ty _) (.cons (.ty _) .nil), rd_ty (r1.step S1 st2), ?_, k _ _ _ os3 (st1.trans (st2.less m3)) S3 (.bl _)⟩
  refine kitAny_cons (kit_ty (kit_all T c)) (fun e1 => ?_) (fun e1 => by rw [e1]; rfl)
  rw [e1]
  exact kitAny_cons (kit_ty (kit_all U c)) (fun e2 => by rw [e2]; exact kitAny_nil) (fun e2 => by rw [e2]; rfl)

/-! ### slices -/
structure OOk (X : Cx) (e : Option Expr) (f : M (Option Int)) : Prop where
  ex : ∃ t, PO X e t ∧ ∀ δ o δ', f δ = some (o, δ') → ∀ (σ : St) (H : Hp) (F : Fz) (os : List Addr) (Q : Option Int → Hp → Prop), SR X.K δ σ H F os →
    (∀ H' F' os', Step H F os H' F' os' → SR X.K δ' σ H' F' os' → Q o H') → t σ H Q
theorem o_no : OOk X none (ret none) := ⟨tNoPart, po_none, fun δ o δ' hf σ H F os Q S k => by obtain ⟨rfl, rfl⟩ := ret_some hf; exact k H F os .refl S⟩
def gPart (f : M PyData) : M (Option Int) := bnd f fun d => match d with
  | .int i => ret (some i)
  | _ => fun _ => none
theorem o_some {f : M PyData} (h : DOk X e f) : OOk X (some e) (gPart f) := by
  obtain ⟨t, pe, j⟩ := h.ex
  refine ⟨tPart t, po_some pe, fun δ o δ' hf σ H F os Q S k => ?_⟩
  obtain ⟨c, δ1, h1, h2⟩ := bnd_some hf
  refine j δ c _ h1 σ H F os _ S fun v H1 F1 os1 st1 S1 r1 => ?_
  split at h2
  · obtain ⟨rfl, rfl⟩ := ret_some h2
    cases r1
    exact ⟨_, rfl, k H1 F1 os1 st1 S1⟩
  · cases h2
def cutG {α : Type} (xs : List α) (lo hi : Option Int) : List α := (xs.drop (HT.sIx xs.length 0 lo)).take (HT.sIx xs.length xs.length hi - HT.sIx xs.length 0 lo)
theorem rds_drop : ∀ {vs : List V} {ds : List PyData} (n : Nat), RDs K F H vs ds → RDs K F H (vs.drop n) (ds.drop n)
  | _, _, 0, r => r
  | _, [], n + 1, r => by cases r; exact .nil
  | _, d :: ds, n + 1, r => by cases r with | cons r t => exact rds_drop n t
theorem rds_take : ∀ {vs : List V} {ds : List PyData} (n : Nat), RDs K F H vs ds → RDs K F H (vs.take n) (ds.take n)
  | _, _, 0, r => .nil
  | _, [], n + 1, r => by cases r; exact .nil
  | _, d :: ds, n + 1, r => by cases r with | cons r t => exact .cons r (rds_take n t)
theorem rds_cut {vs : List V} {ds : List PyData} (r : RDs K F H vs ds) (lo hi : Option Int) : RDs K F H (cutV vs lo hi) (cutG ds lo hi) := by
  unfold cutV cutG
  rw [r.length]
  exact rds_take _ (rds_drop _ r)
def slD (d : PyData) (lo hi : Option Int) : Option AV := match d with
  | .list ds => some (.ow (fzs (cutG ds lo hi)))
  | .tuple ds => some (.fz (.tuple (cutG ds lo hi)))
  | .str z => if z.length ≤ lim then some (.fz (.str (cutS z lo hi))) else none
  | _ => none
def gSl (f : M PyData) (l h : M (Option Int)) : M AV := bnd f fun d => bnd l fun lo => bnd h fun hi => opt (slD d lo hi)
theorem cut_whole {α : Type} {xs : List α} {lo hi : Option Int} (h : HT.sIx xs.length 0 lo = 0 ∧ HT.sIx xs.length xs.length hi = xs.length) : cutG xs lo hi = xs := by
  unfold cutG
  rw [h.1, h.2]
  simp
theorem a_sl {f : M PyData} {lo hi : Option Expr} {l h : M (Option Int)} {p2 : Pos} (he : DOk X e f) (hl : OOk X lo l) (hh : OOk X hi h) : AOk X (.Subscript e (.Slice lo hi none p2) pos) (gSl f l h) := by
  obtain ⟨te, pe, je⟩ := he.ex
  obtain ⟨tl, pl, jl⟩ := hl.ex
  obtain ⟨th, ph, jh⟩ := hh.ex
  refine ⟨tSl _ te tl th, pe_slice (sl_list.or (sl_tupA.or sl_str)) pe pl ph, fun δ a δ' hf σ H F os Q S k => ?_⟩
  obtain ⟨d, δ1, h1, h2⟩ := bnd_some hf
  obtain ⟨lo', δ2, h3, h4⟩ := bnd_some h2
  obtain ⟨hi', δ3, h5, h6⟩ := bnd_some h4
  obtain ⟨h7, rfl⟩ := opt_some h6
  refine je δ d δ1 h1 σ H F os _ S fun v H1 F1 os1 st1 S1 r1 => ?_
  refine jl δ1 lo' δ2 h3 σ H1 F1 os1 _ S1 fun H2 F2 os2 st2 S2 => ?_
  refine jh δ2 hi' _ h5 σ H2 F2 os2 _ S2 fun H3 F3 os3 st3 S3 => ?_
  have r3 := (r1.step S1 st2).step S2 st3
  have fin : ∀ {v : V} {H' : Hp} {F' : Fz} {o : List Addr}, Out X.K F3 H3 a v H' F' o → Q v H' := fun out => by
    obtain ⟨S4, st4⟩ := S3.out out
    exact k _ _ _ _ (((st1.trans st2).trans st3).trans st4) S4
  unfold slD at h7
  split at h7
  · cases h7
    obtain ⟨p, ws, rfl, f1, q1, r4⟩ := rd_lst r3
    exact .inl ⟨p, ws, rfl, SqL.of q1, fun n hn => fin (Out.lst S3.dom hn (rds_cut r4 lo' hi'))⟩
  · cases h7
    obtain ⟨p, ws, rfl, q1, r4⟩ := rd_tup r3
    refine .inr (.inl ⟨p, ws, rfl, q1.sq, fun c => ?_, fun c n hn => fin (Out.tup S3.dom hn (rds_cut r4 lo' hi'))⟩)
    rw [r4.length] at c
    rw [cut_whole c] at fin
    exact fin (Out.fz S3.dom (.tup q1 r4))
  · split at h7
    · next hz =>
      cases h7
      cases r3
      exact .inr (.inr ⟨_, rfl, Nat.le_trans hz lim_line, fin (Out.fz S3.dom (.str _))⟩)
    · cases h7
  · cases h7
end

/-! ### statements -/
inductive Fl where
  | nx (δ : En)
  | rt (a : AV) (δ : En)
  | bk (δ : En)
  | ct (δ : En)
abbrev Sm := En → Option Fl
/-- slots that are never stored to -/
def Fix (Z : List Nat) (σ σ' : St) : Prop := σ'.length = σ.length ∧ ∀ i ∈ Z, σ'[i]? = σ[i]?
theorem Fix.refl {Z : List Nat} {σ : St} : Fix Z σ σ := ⟨rfl, fun _ _ => rfl⟩
theorem Fix.trans {Z : List Nat} {σ σ1 σ2 : St} (a : Fix Z σ σ1) (b : Fix Z σ1 σ2) : Fix Z σ σ2 := ⟨b.1.trans a.1, fun i h => (b.2 i h).trans (a.2 i h)⟩
theorem Fix.set {Z : List Nat} {σ : St} {i : Nat} {x : Option V} (h : i ∉ Z) : Fix Z σ (σ.set i x) := ⟨List.length_set .., fun j m => List.getElem?_set_ne (fun e => h (by rw [e]; exact m))⟩
section
variable (K : PySem.W.Frag) (Z : List Nat)
def FlK (r : Fl) (σ : St) (H : Hp) (F : Fz) (os : List Addr) (D : Ends) : Prop := match r with
  | .nx δ' => ∀ σ' H' F' os', Fix Z σ σ' → Step H F os H' F' os' → SR K δ' σ' H' F' os' → D.nx σ' H'
  | .rt a δ' => ∀ v σ' H' F' os', Fix Z σ σ' → Step H F os H' F' os' → SR K (some a :: δ') (some v :: σ') H' F' os' → D.rt v H'
  | .bk δ' => ∀ σ' H' F' os', Fix Z σ σ' → Step H F os H' F' os' → SR K δ' σ' H' F' os' → D.bk σ' H'
  | .ct δ' => ∀ σ' H' F' os', Fix Z σ σ' → Step H F os H' F' os' → SR K δ' σ' H' F' os' → D.ct σ' H'
def SJ (f : Sm) (t : TS) : Prop := ∀ δ r, f δ = some r → ∀ (σ : St) (H : Hp) (F : Fz) (os : List Addr) (D : Ends), SR K δ σ H F os → FlK K Z r σ H F os D → t D σ H
end
structure SOk (X : Cx) (Z : List Nat) (st : Stmt) (f : Sm) : Prop where
  ex : ∃ t, PS X st t ∧ SJ X.K Z f t
structure BOk (X : Cx) (Z : List Nat) (st : List Stmt) (f : Sm) : Prop where
  ex : ∃ t, PSs X st t ∧ SJ X.K Z f t
section
variable {K : PySem.W.Frag} {Z : List Nat} {F F' F1 : Fz} {H H' H1 : Hp} {os os' os1 : List Addr} {δ δ' δ1 : En} {σ σ' σ1 : St}
/-- what is wanted further on -/
theorem FlK.from {r : Fl} {D : Ends} (h : FlK K Z r σ H F os D) (fx : Fix Z σ σ1) (st : Step H F os H1 F1 os1) : FlK K Z r σ1 H1 F1 os1 D := by
  cases r with
  | nx δ' => exact fun σ' H' F' os' f s S => h σ' H' F' os' (fx.trans f) (st.trans s) S
  | rt a δ' => exact fun v σ' H' F' os' f s S => h v σ' H' F' os' (fx.trans f) (st.trans s) S
  | bk δ' => exact fun σ' H' F' os' f s S => h σ' H' F' os' (fx.trans f) (st.trans s) S
  | ct δ' => exact fun σ' H' F' os' f s S => h σ' H' F' os' (fx.trans f) (st.trans s) S
/-- the first thing goes into a slot -/
theorem SR.put : ∀ {i : Nat} {δ : En} {σ : St} {os : List Addr} {a : AV} {v : V}, SR K (some a :: δ) (some v :: σ) H F os →
    ∃ os', SR K (δ.set i (some a)) (σ.set i (some v)) H F os' ∧ ∀ q ∈ os', q ∈ os
  | i, [], σ, os, a, v, S => by
    obtain ⟨os1, m, S1⟩ := S.drop
    cases σ with
    | nil => exact ⟨os1, S1, m⟩
    | cons y σ => cases S1.env
  | 0, x :: δ, σ, os, a, v, S => by
    cases σ with
    | nil => obtain ⟨os1, m, S1⟩ := S.drop; cases S1.env
    | cons y σ =>
      obtain ⟨env, nd, nf, dom⟩ := S
      cases env with
      | @som _ _ o _ _ os1 r t =>
        obtain ⟨n1, n2, n3⟩ := List.nodup_append.mp nd
        have S2 : SR K (x :: δ) (y :: σ) H F os1 := ⟨t, n2, fun p z => nf p (List.mem_append_right _ z), dom⟩
        obtain ⟨os2, m2, S3⟩ := S2.drop
        refine ⟨o ++ os2, ⟨.som r S3.env, List.nodup_append.mpr ⟨n1, S3.nd, fun x hx y hy e => n3 x hx y (m2 y hy) e⟩, fun p z => ?_, dom⟩, fun q z => ?_⟩
        · exact nf p ((List.mem_append.mp z).elim (List.mem_append_left _) fun z => List.mem_append_right _ (m2 p z))
        · exact (List.mem_append.mp z).elim (List.mem_append_left _) fun z => List.mem_append_right _ (m2 q z)
  | i + 1, x :: δ, σ, os, a, v, S => by
    cases σ with
    | nil => obtain ⟨os1, m, S1⟩ := S.drop; cases S1.env
    | cons y σ =>
      obtain ⟨env, nd, nf, dom⟩ := S
      cases env with
      | @som _ _ o _ _ os1 r t =>
        obtain ⟨n1, n2, n3⟩ := List.nodup_append.mp nd
        cases t with
        | non t =>
          obtain ⟨os2, S2, m2⟩ := SR.put (i := i) (δ := δ) (σ := σ) (a := a) (v := v) ⟨.som r t, nd, nf, dom⟩
          exact ⟨os2, S2.emp, m2⟩
        | @som b w ob _ _ ot rb t =>
          obtain ⟨k1, k2, k3⟩ := List.nodup_append.mp n2
          obtain ⟨os2, S2, m2⟩ := SR.put (i := i) (δ := δ) (σ := σ) (a := a) (v := v) (os := o ++ ot)
            ⟨.som r t, List.nodup_append.mpr ⟨n1, k2, fun x hx y hy e => n3 x hx y (List.mem_append_right _ hy) e⟩, fun p z => nf p ((List.mem_append.mp z).elim (List.mem_append_left _) fun z => List.mem_append_right _ (List.mem_append_right _ z)), dom⟩
          refine ⟨ob ++ os2, ⟨.som rb S2.env, List.nodup_append.mpr ⟨k1, S2.nd, fun x hx y hy e => ?_⟩, fun p z => ?_, dom⟩, fun q z => ?_⟩
          · subst e
            rcases List.mem_append.mp (m2 x hy) with z | z
            · exact n3 x z x (List.mem_append_left _ hx) rfl
            · exact k3 x hx x z rfl
          · rcases List.mem_append.mp z with z | z
            · exact nf p (List.mem_append_right _ (List.mem_append_left _ z))
            · exact S2.nf p z
          · rcases List.mem_append.mp z with z | z
            · exact List.mem_append_right _ (List.mem_append_left _ z)
            · rcases List.mem_append.mp (m2 q z) with z | z
              · exact List.mem_append_left _ z
              · exact List.mem_append_right _ (List.mem_append_right _ z)
end
section
variable {X : Cx} {Z : List Nat} {st : Stmt} {rest : List Stmt} {e : Expr} {pos : Pos}
def gNil : Sm := fun δ => some (.nx δ)
def gSeq (f g : Sm) : Sm := fun δ => match f δ with
  | some (.nx δ') => g δ'
  | r => r
theorem b_nil : BOk X Z [] gNil := ⟨tNext, pss_nil, fun δ r hf σ H F os D S k => by cases hf; exact k σ H F os .refl .refl S⟩
theorem b_cons {f g : Sm} (h : SOk X Z st f) (h' : BOk X Z rest g) : BOk X Z (st :: rest) (gSeq f g) := by
  obtain ⟨t, p, j⟩ := h.ex
  obtain ⟨t', p', j'⟩ := h'.ex
  refine ⟨tSeq t t', pss_cons p p', fun δ r hf σ H F os D S k => ?_⟩
  unfold gSeq at hf
  split at hf
  · next δ1 h1 =>
    refine j δ _ h1 σ H F os _ S fun σ1 H1 F1 os1 fx st S1 => ?_
    exact j' δ1 r hf σ1 H1 F1 os1 D S1 (k.from fx st)
  · next h1 =>
    refine j δ r hf σ H F os _ S ?_
    cases r with
    | nx δ' => exact absurd hf (h1 δ')
    | _ => exact k
def gRet (f : M AV) : Sm := fun δ => match f δ with
  | some (a, δ') => some (.rt a δ')
  | none => none
theorem s_ret {f : M AV} (h : AOk X e f) : SOk X Z (.Return (some e) pos) (gRet f) := by
  obtain ⟨t, p, j⟩ := h.ex
  refine ⟨tRet t, ps_ret p, fun δ r hf σ H F os D S k => ?_⟩
  unfold gRet at hf
  split at hf
  · next a δ1 h1 =>
    cases hf
    exact j δ a δ1 h1 σ H F os _ S fun v H' F' os' st S' => k v σ H' F' os' .refl st S'
  · cases hf
def gRetN : Sm := fun δ => some (.rt (.fz .none) δ)
theorem s_retN : SOk X Z (.Return none pos) gRetN := ⟨tRetN, ps_retN, fun δ r hf σ H F os D S k => by cases hf; exact k .non σ H F os .refl .refl (S.cons .non)⟩
def gDrop (f : M AV) : Sm := fun δ => match f δ with
  | some (_, δ') => some (.nx δ')
  | none => none
theorem s_expr {f : M AV} (h : AOk X e f) (hs : swapsWith e none pos.line X.env = pure false := by rfl) : SOk X Z (.Expr e pos) (gDrop f) := by
  obtain ⟨t, p, j⟩ := h.ex
  refine ⟨tDrop t, ps_expr p hs, fun δ r hf σ H F os D S k => ?_⟩
  unfold gDrop at hf
  split at hf
  · next a δ1 h1 =>
    cases hf
    refine j δ a δ1 h1 σ H F os _ S fun v H' F' os' st S' => ?_
    obtain ⟨os2, m, S2⟩ := S'.drop
    exact k σ H' F' os2 .refl (st.less m) S2
  · cases hf
theorem s_pass : SOk X Z (.Pass pos) gNil := ⟨tNext, ps_pass, fun δ r hf σ H F os D S k => by cases hf; exact k σ H F os .refl .refl S⟩
def gBrk : Sm := fun δ => some (.bk δ)
def gCnt : Sm := fun δ => some (.ct δ)
theorem s_break : SOk X Z (.Break pos) gBrk := ⟨tBreak, ps_break, fun δ r hf σ H F os D S k => by cases hf; exact k σ H F os .refl .refl S⟩
theorem s_continue : SOk X Z (.Continue pos) gCnt := ⟨tCont, ps_continue, fun δ r hf σ H F os D S k => by cases hf; exact k σ H F os .refl .refl S⟩
/-- a statement, a block that is never reached -/
def gNev : Sm := fun _ => none
theorem s_never : SOk X Z st gNev := ⟨tNever, ps_never, fun δ r hf => by cases hf⟩
theorem b_never : BOk X Z rest gNev := ⟨tNever, pss_never, fun δ r hf => by cases hf⟩
def gIfS (c : M Bool) (f g : Sm) : Sm := fun δ => match c δ with
  | some (b, δ') => if b = true then f δ' else g δ'
  | none => none
theorem s_if {c : Expr} {a b : List Stmt} {t : M Bool} {f g : Sm} (hc : TOk X c t) (ha : BOk X Z a f) (hb : BOk X Z b g) : SOk X Z (.If c a b pos) (gIfS t f g) := by
  obtain ⟨tc, pc, jc⟩ := hc.ex
  obtain ⟨ta, pa, ja⟩ := ha.ex
  obtain ⟨tb, pb, jb⟩ := hb.ex
  refine ⟨tIfS tc ta tb, ps_if pc pa pb, fun δ r hf σ H F os D S k => ?_⟩
  unfold gIfS at hf
  split at hf
  · next b δ1 h1 =>
    refine jc δ b δ1 h1 σ H F os _ S fun H1 F1 os1 st S1 => ?_
    cases b with
    | true => exact iteT (ja δ1 r (by simpa using hf) σ H1 F1 os1 D S1 (k.from .refl st))
    | false => exact iteF (jb δ1 r (by simpa using hf) σ H1 F1 os1 D S1 (k.from .refl st))
  · cases hf
def gSet (i : Nat) (f : M AV) : Sm := fun δ => match f δ with
  | some (a, δ') => some (.nx (δ'.set i (some a)))
  | none => none
theorem s_set {i : Nat} {x : Str} {f : M AV} {pos' : Pos} (hN : X.N.Nodup) (h : AOk X e f) (hz : i ∉ Z := by decide) (hi : X.N[i]? = some x := by rfl) (hx : Loc X.env.scope x := by first | exact Or.inl rfl | exact Or.inr rfl) (hs : swapsWith e (some (.Name x pos')) pos.line X.env = pure false := by rfl)
    (hf : X.fn x = true ∨ X.env.scope.names.lookup x = some .local := by first | exact .inl rfl | exact .inr rfl | assumption) : SOk X Z (.Assign [.Name x pos'] e pos) (gSet i f) := by
  obtain ⟨t, p, j⟩ := h.ex
  refine ⟨tAsg t (gName i), ps_set hN hi hx p hs hf, fun δ r hf σ H F os D S k => ?_⟩
  unfold gSet at hf
  split at hf
  · next a δ1 h1 =>
    cases hf
    refine j δ a δ1 h1 σ H F os _ S fun v H' F' os' st S' => ?_
    obtain ⟨os2, S2, m⟩ := S'.put (i := i)
    exact k (σ.set i (some v)) H' F' os2 (.set hz) (st.less m) S2
  · cases hf
/-- a, b = x, y -/
def gPar (i j : Nat) (f g : M AV) : Sm := fun δ => match f δ with
  | some (a, δ1) => (match g δ1 with
    | some (b, δ2) => some (.nx ((δ2.set i (some a)).set j (some b)))
    | none => none)
  | none => none
theorem s_par {i j : Nat} {x y : Str} {a b : Expr} {f g : M AV} {px py pt : Pos} {kt k2 pt2} (hc : X.calm = true) (hN : X.N.Nodup) (ha : AOk X a f) (hb : AOk X b g) (hzi : i ∉ Z := by decide) (hzj : j ∉ Z := by decide)
    (hi : X.N[i]? = some x := by rfl) (hj : X.N[j]? = some y := by rfl) (hij : i ≠ j := by decide)
    (hx : X.env.scope.names.lookup x = some .local := by rfl) (hy : X.env.scope.names.lookup y = some .local := by rfl)
    (hsa : starEach [a, b] X.env = (false, eval a X.env) :: starEach [b] X.env := by rfl) (hsb : starEach [b] X.env = (false, eval b X.env) :: starEach [] X.env := by rfl)
    (hw : swappedStores [.Tuple [.Name x px, .Name y py] kt pt] (.Tuple [a, b] k2 pt2) X.env = pure (some [x, y]) := by rfl)
    (hs : swapsWithSole [.Tuple [.Name x px, .Name y py] kt pt] (.Tuple [a, b] k2 pt2) pos.line X.env = pure false := by rfl) :
    SOk X Z (.Assign [.Tuple [.Name x px, .Name y py] kt pt] (.Tuple [a, b] k2 pt2) pos) (gPar i j f g) := by
  obtain ⟨ta, pa, ja⟩ := ha.ex
  obtain ⟨tb, pb, jb⟩ := hb.ex
  refine ⟨tPar i j (tCons ta (tCons tb tNil)), ps_par hc hN hi hj hij hx hy (pa_cons pa (pa_cons pb pa_nil hsb) hsa) hw hs, fun δ r hf σ H F os D S k => ?_⟩
  unfold gPar at hf
  split at hf
  · next va δ1 h1 =>
    split at hf
    · next vb δ2 h2 =>
      cases hf
      refine ja δ va δ1 h1 σ H F os _ S fun v H1 F1 os1 st1 S1 => ?_
      obtain ⟨osf, mf, Sf, back⟩ := S1.frame
      refine jb δ1 vb δ2 h2 σ H1 F1 osf _ Sf fun w H2 F2 os2 st2 S2 => ⟨v, w, rfl, ?_⟩
      obtain ⟨os3, S3, st3⟩ := back H2 F2 os2 _ _ st2 S2
      obtain ⟨os4, S4, m4⟩ := S3.put (i := i + 1)
      simp only [List.set_cons_succ] at S4
      obtain ⟨os5, S5, m5⟩ := S4.put (i := j)
      exact k _ H2 F2 os5 ((Fix.set hzi).trans (Fix.set hzj)) ((st1.trans st3).less fun q z => m4 q (m5 q z)) S5
    · cases hf
  · cases hf
end
end Pv

namespace Pv
open PySem PySem.Spec L2
open PyProof.Rows hiding St
/-! Pv6: looks at a slot, lists of our own changed, what is walked, loops -/
section
variable {K : PySem.W.Frag} {Z : List Nat} {F F' F1 : Fz} {H H' H1 : Hp} {os os' os1 : List Addr} {δ δ' δ1 : En} {σ σ' σ1 : St}
theorem ras_len : ∀ {as : List AV} {vs : List V} {o : List Addr}, RAs K F H as vs o → vs.length = as.length
  | [], _, _, r => by cases r; rfl
  | a :: as, _, _, r => by cases r with | cons r t => exact congrArg (· + 1) (ras_len t)
theorem ras_app {bs : List AV} {ws : List V} {o2 : List Addr} (rb : RAs K F H bs ws o2) : ∀ {as : List AV} {vs : List V} {o : List Addr}, RAs K F H as vs o → RAs K F H (as ++ bs) (vs ++ ws) (o ++ o2)
  | [], _, _, r => by cases r; exact rb
  | a :: as, _, _, r => by
    cases r with
    | cons r t =>
      rw [List.append_assoc]
      exact .cons r (ras_app rb t)
theorem ras_set {a : AV} {v : V} {o2 : List Addr} (ra : RA K F H a v o2) : ∀ {j : Nat} {as : List AV} {vs : List V} {o : List Addr}, RAs K F H as vs o → (o ++ o2).Nodup →
    ∃ o', RAs K F H (as.set j a) (vs.set j v) o' ∧ o'.Nodup ∧ ∀ q ∈ o', q ∈ o ∨ q ∈ o2
  | j, [], _, o, r, nd => by
    have r' := r
    cases r
    exact ⟨[], .nil, .nil, fun q m => absurd m List.not_mem_nil⟩
  | 0, b :: as, _, _, r, nd => by
    cases r with
    | @cons _ _ ob _ _ ot r t =>
      obtain ⟨n1, n2, n3⟩ := List.nodup_append.mp nd
      obtain ⟨k1, k2, k3⟩ := List.nodup_append.mp n1
      refine ⟨o2 ++ ot, .cons ra t, List.nodup_append.mpr ⟨n2, k2, fun x hx y hy e => n3 y (List.mem_append_right _ hy) x hx e.symm⟩, fun q m => ?_⟩
      rcases List.mem_append.mp m with m | m
      · exact .inr m
      · exact .inl (List.mem_append_right _ m)
  | j + 1, b :: as, _, _, r, nd => by
    cases r with
    | @cons _ _ ob _ _ ot r t =>
      obtain ⟨n1, n2, n3⟩ := List.nodup_append.mp nd
      obtain ⟨k1, k2, k3⟩ := List.nodup_append.mp n1
      obtain ⟨o', h1, h2, h3⟩ := ras_set ra (j := j) t (List.nodup_append.mpr ⟨k2, n2, fun x hx y hy e => n3 x (List.mem_append_right _ hx) y hy e⟩)
      refine ⟨ob ++ o', .cons r h1, List.nodup_append.mpr ⟨k1, h2, fun x hx y hy e => ?_⟩, fun q m => ?_⟩
      · subst e
        rcases h3 x hy with z | z
        · exact k3 x hx x z rfl
        · exact n3 x (List.mem_append_left _ hx) x z rfl
      · rcases List.mem_append.mp m with m | m
        · exact .inl (List.mem_append_left _ m)
        · exact (h3 q m).imp (List.mem_append_right _) id
/-- a list of our own is changed with a thing at hand -/
theorem SR.wr {as as' : List AV} {a : AV} {p : Addr} {v : V} {g : List V → List V} (S : SR K (some (.ow as) :: some a :: δ) (some (.ref p) :: some v :: σ) H F os)
    (hr : ∀ vs o oa, RAs K F H as vs o → RA K F H a v oa → (o ++ oa).Nodup → ∃ o', RAs K F H as' (g vs) o' ∧ o'.Nodup ∧ ∀ q ∈ o', q ∈ o ∨ q ∈ oa) :
    ∃ vs os', H p = some (.lst vs) ∧ vs.length = as.length ∧ SR K (some (.ow as') :: δ) (some (.ref p) :: σ) (upd H p (.lst (g vs))) F os' ∧ Step H F os (upd H p (.lst (g vs))) F os' := by
  obtain ⟨env, nd, nf, dom⟩ := S
  cases env with
  | @som _ _ o1 _ _ ot r t =>
    cases r with
    | @ow _ _ vs oxs hp rs =>
      cases t with
      | @som _ _ oa _ _ orst ra t =>
        obtain ⟨n1, n2, n3⟩ := List.nodup_append.mp nd
        obtain ⟨k1, k2, k3⟩ := List.nodup_append.mp n2
        obtain ⟨m1, m2⟩ := List.nodup_cons.mp n1
        obtain ⟨o', h1, h2, h3⟩ := hr vs oxs oa rs ra (List.nodup_append.mpr ⟨m2, k1, fun x hx y hy e => n3 x (List.mem_cons_of_mem _ hx) y (List.mem_append_left _ hy) e⟩)
        have np : ∀ q, q ∈ oxs ∨ q ∈ oa → q ≠ p := fun q z e => by
          subst e
          rcases z with z | z
          · exact m1 z
          · exact n3 q (List.mem_cons_self ..) q (List.mem_append_left _ z) rfl
        have npr : ∀ q ∈ orst, q ≠ p := fun q z e => by
          subst e
          exact n3 q (List.mem_cons_self ..) q (List.mem_append_right _ z) rfl
        have ex : Ext F H F (upd H p (.lst (g vs))) := ⟨fun _ h => h, fun q u f h => by
          have hq : q ≠ p := fun e => nf p (List.mem_append_left _ (List.mem_cons_self ..)) (e ▸ f)
          rw [upd_ne hq]; exact h⟩
        have sub : ∀ q ∈ (p :: o') ++ orst, q ∈ (p :: oxs) ++ (oa ++ orst) := fun q m => by
          rcases List.mem_append.mp m with m | m
          · rcases List.mem_cons.mp m with m | m
            · subst m; simp
            · rcases h3 q m with z | z
              · exact List.mem_append_left _ (List.mem_cons_of_mem _ z)
              · exact List.mem_append_right _ (List.mem_append_left _ z)
          · exact List.mem_append_right _ (List.mem_append_right _ m)
        refine ⟨vs, (p :: o') ++ orst, hp, ras_len rs, ⟨.som (.ow upd_same (h1.apart ⟨ex, fun q m u h => by rw [upd_ne (np q (h3 q m))]; exact h⟩)) (t.apart ⟨ex, fun q m u h => by rw [upd_ne (npr q m)]; exact h⟩), ?_, fun q m => nf q (sub q m), fun q f => ?_⟩, ?_⟩
        · refine List.nodup_append.mpr ⟨List.nodup_cons.mpr ⟨fun m => np p (h3 p m) rfl, h2⟩, k2, fun x hx y hy e => ?_⟩
          subst e
          rcases List.mem_cons.mp hx with z | z
          · exact npr x hy z
          · rcases h3 x z with z | z
            · exact n3 x (List.mem_cons_of_mem _ z) x (List.mem_append_right _ hy) rfl
            · exact k3 x z x hy rfl
        · by_cases e : q = p
          · rw [e, upd_same]; intro z; cases z
          · rw [upd_ne e]; exact dom q f
        · refine ⟨fun q u h m => ?_, fun _ h => h, fun _ h => .inl h, fun q m => .inl (sub q m), fun q h => ?_⟩
          · have hq : q ≠ p := fun e => m (by rw [e]; simp)
            rw [upd_ne hq]; exact h
          · by_cases e : q = p
            · rw [e, upd_same]; intro z; cases z
            · rw [upd_ne e]; exact h
theorem set_self : ∀ {i : Nat} {σ : St} {x : Option V}, σ[i]? = some x → σ.set i x = σ
  | i, [], x, h => by simp at h
  | 0, y :: σ, x, h => by
    have e : y = x := by simpa using h
    rw [e]; rfl
  | i + 1, y :: σ, x, h => by
    show y :: σ.set i x = y :: σ
    rw [set_self (by simpa using h)]
/-- a slot's list is changed with the thing at hand -/
theorem SR.wrAt {i : Nat} {as as' : List AV} {a : AV} {v : V} (S : SR K (some a :: δ) (some v :: σ) H F os) (h : δ[i]? = some (some (.ow as))) {g : List V → List V}
    (hr : ∀ vs o oa, RAs K F H as vs o → RA K F H a v oa → (o ++ oa).Nodup → ∃ o', RAs K F H as' (g vs) o' ∧ o'.Nodup ∧ ∀ q ∈ o', q ∈ o ∨ q ∈ oa) :
    ∃ p vs os', σ[i]? = some (some (.ref p)) ∧ H p = some (.lst vs) ∧ vs.length = as.length ∧ SR K (δ.set i (some (.ow as'))) σ (upd H p (.lst (g vs))) F os' ∧ Step H F os (upd H p (.lst (g vs))) F os' := by
  obtain ⟨w, os2, h1, S2, m2⟩ := S.move (i := i + 1) (a := .ow as) (by simpa using h)
  have h1' : σ[i]? = some (some w) := by simpa using h1
  simp only [List.set_cons_succ] at S2
  have hw : ∃ p, w = .ref p := by
    obtain ⟨env, _, _, _⟩ := S2
    cases env with
    | som r t => cases r with | ow _ _ => exact ⟨_, rfl⟩
  obtain ⟨p, rfl⟩ := hw
  obtain ⟨vs, os3, e1, e2, S3, st3⟩ := S2.wr (as' := as') (g := g) hr
  obtain ⟨os4, S4, m4⟩ := S3.put (i := i)
  rw [List.set_set, set_self h1'] at S4
  refine ⟨p, vs, os4, h1', e1, e2, S4, ?_⟩
  exact (st3.less m4).more fun q z => (m2 q).mp z
end
section
variable {X : Cx} {Z : List Nat} {e a b : Expr} {pos : Pos}
/-! ### looks at a slot -/
def lenV : AV → Option PyData
  | .ow xs => some (.int xs.length)
  | .sc ns => some (.int ns.length)
  | .fz (.list ds) => some (.int ds.length)
  | .fz (.tuple ds) => some (.int ds.length)
  | .fz (.str x) => if x.length ≤ lim then some (.int x.length) else none
  | _ => none
def gLenV (i : Nat) : M PyData := fun δ => match δ[i]? with
  | some (some a) => (match lenV a with
    | some d => some (d, δ)
    | none => none)
  | _ => none
theorem d_lenV (i : Nat) {x : Str} {p p2 pos : Pos} (hg : Gl X "len") (hm : X.mg "len" = none) (hN : X.N[i]? = some x := by rfl) (hv : Vis X.env.scope x := by first | exact Or.inl rfl | exact Or.inr (Or.inl rfl) | exact Or.inr (Or.inr rfl))
    (hd : (x == ("__debug__" : Str)) = false := by decide) (hcd : (x == ("__classdict__" : Str)) = false := by decide)
    (he : starEach [.Name x p2] X.env = (false, eval (.Name x p2) X.env) :: starEach [] X.env := by rfl) (hpl : (backTo pos (starEach [] X.env)).any (·.1) = false := by rfl) :
    DOk X (.Call (.Name "len" p) [.Name x p2] [] pos) (gLenV i) := by
  refine ⟨_, pe_callB call_len hg hm boot_len (pa_cons (pe_var hN hv hd hcd) pa_nil he) (by decide) (by decide) he hpl, fun δ d δ' hf σ H F os Q S k => ?_⟩
  unfold gLenV at hf
  split at hf
  · next h =>
    obtain ⟨v, o, h1, r, _⟩ := S.at_ h
    split at hf
    · next hl =>
      cases hf
      refine ⟨v, h1, ?_⟩
      have fin : ∀ n : Nat, LenV X.K v H n → Q (.int n) H → ∃ x n, [v] = [x] ∧ LenV X.K x H n ∧ Q (.int n) H := fun n a b => ⟨v, n, rfl, a, b⟩
      unfold lenV at hl
      split at hl
      · cases hl
        cases r with
        | ow hp rs => exact fin _ (.inl ⟨_, SqL.of hp, (ras_len rs).symm⟩) (k _ H F os .refl S (.int _))
      · cases hl
        cases r with
        | sc q => exact fin _ (.inl ⟨_, q.sq, (List.length_map ..).symm⟩) (k _ H F os .refl S (.int _))
      · cases hl
        cases r with
        | fz r =>
          obtain ⟨p, ws, rfl, f1, q1, r2⟩ := rd_lst r
          exact fin _ (.inl ⟨ws, SqL.of q1, r2.length.symm⟩) (k _ H F os .refl S (.int _))
      · cases hl
        cases r with
        | fz r =>
          obtain ⟨p, ws, rfl, q1, r2⟩ := rd_tup r
          exact fin _ (.inr ⟨ws, q1.sq, r2.length.symm⟩) (k _ H F os .refl S (.int _))
      · split at hl
        · next hz =>
          cases hl
          cases r with
          | fz r => cases r; exact fin _ ⟨Nat.le_trans hz lim_line, rfl⟩ (k _ H F os .refl S (.int _))
        · cases hl
      · cases hl
    · cases hf
  · cases hf
/-- an item of a slot's thing, the thing left as it is -/
def ixV (a : AV) (d : PyData) : Option PyData := match a, d with
  | .ow xs, .int i => (match atI xs i with
    | some (.fz d) => some d
    | _ => none)
  | .sc ns, .int i => (atI ns i).map .int
  | .fz (.list ds), .int i => atI ds i
  | .fz (.tuple ds), .int i => atI ds i
  | .fz (.str z), .int i => if z.length ≤ lim then (atI z.cps.toList i).map fun c => .str ⟨#[c]⟩ else none
  | _, _ => none
def gIxV (i : Nat) (f : M PyData) : M PyData := fun δ => match δ[i]? with
  | some (some _) => (match f δ with
    | some (d, δ1) => (match δ1[i]? with
      | some (some a) => (match ixV a d with
        | some z => some (z, δ1)
        | none => none)
      | _ => none)
    | none => none)
  | _ => none
theorem ras_at {K : PySem.W.Frag} {F : Fz} {H : Hp} : ∀ {j : Nat} {as : List AV} {vs : List V} {o : List Addr} {a : AV}, RAs K F H as vs o → as[j]? = some a → ∃ v o2, vs[j]? = some v ∧ RA K F H a v o2
  | j, [], _, _, a, r, h => by simp at h
  | 0, b :: as, _, _, a, r, h => by
    have e : b = a := by simpa using h
    subst e
    cases r with
    | cons r t => exact ⟨_, _, rfl, r⟩
  | j + 1, b :: as, _, _, a, r, h => by
    cases r with
    | cons r t =>
      obtain ⟨v, o2, h1, h2⟩ := ras_at (j := j) t (by simpa using h)
      exact ⟨v, o2, by simpa using h1, h2⟩
theorem atI_map {α β : Type} {f : α → β} {xs : List α} {i : Int} : atI (xs.map f) i = (atI xs i).map f := by
  unfold atI
  rw [List.length_map]
  cases ixN xs.length i with
  | none => rfl
  | some j => simp
theorem d_ixV (i : Nat) {x : Str} {p pos : Pos} {f : M PyData} (hb : DOk X b f) (hs : PlainIx b := by exact fun _ _ => rfl) (hN : X.N[i]? = some x := by rfl) (hv : Vis X.env.scope x := by first | exact Or.inl rfl | exact Or.inr (Or.inl rfl) | exact Or.inr (Or.inr rfl))
    (hd : (x == ("__debug__" : Str)) = false := by decide) (hcd : (x == ("__classdict__" : Str)) = false := by decide) :
    DOk X (.Subscript (.Name x p) b pos) (gIxV i f) := by
  obtain ⟨tb, pb, jb⟩ := hb.ex
  refine ⟨_, pe_ix ix_seq (pe_var hN hv hd hcd) pb hs, fun δ d δ' hf σ H F os Q S k => ?_⟩
  unfold gIxV at hf
  split at hf
  · next h0 =>
    obtain ⟨v, _, hv1, _⟩ := S.at_ h0
    split at hf
    · next c δ1 h1 =>
      split at hf
      · next h =>
        split at hf
        · next hl =>
          cases hf
          refine ⟨v, hv1, ?_⟩
          refine jb δ c _ h1 σ H F os _ S fun w H1 F1 os1 st1 S1 r1 => ?_
          obtain ⟨v', o, h3, r, _⟩ := S1.at_ h
          rw [hv1] at h3
          cases h3
          have fin : ∀ {u : V}, RD X.K F1 H1 u d → Q u H1 := fun r => k _ H1 F1 os1 st1 S1 r
          unfold ixV at hl
          split at hl
          · cases r1
            cases r with
            | ow hp rs =>
              split at hl
              · next hz =>
                cases hl
                unfold atI at hz
                cases hx : ixN _ _ with
                | none => rw [hx] at hz; cases hz
                | some j =>
                  rw [hx] at hz
                  obtain ⟨u, o2, h4, r4⟩ := ras_at (j := j) rs hz
                  cases r4 with
                  | fz r4 =>
                    refine .inl ⟨_, _, _, u, rfl, rfl, SqL.of hp, ?_, fin r4⟩
                    unfold atI
                    rw [ras_len rs, hx]
                    exact h4
              · cases hl
          · next ns m =>
            cases r1
            cases r with
            | sc q =>
              cases hz : atI ns m with
              | none => rw [hz] at hl; cases hl
              | some y =>
                rw [hz] at hl
                cases hl
                exact .inl ⟨_, _, _, .int y, rfl, rfl, q.sq, by rw [atI_map, hz]; rfl, fin (.int y)⟩
          · cases r1
            cases r with
            | fz r =>
              obtain ⟨p, ws, rfl, f1, q1, r2⟩ := rd_lst r
              obtain ⟨u, h4, r4⟩ := rds_atI r2 hl
              exact .inl ⟨_, _, _, u, rfl, rfl, SqL.of q1, h4, fin r4⟩
          · cases r1
            cases r with
            | fz r =>
              obtain ⟨p, ws, rfl, q1, r2⟩ := rd_tup r
              obtain ⟨u, h4, r4⟩ := rds_atI r2 hl
              exact .inr (.inl ⟨_, _, _, u, rfl, rfl, q1.sq, h4, fin r4⟩)
          · next z m =>
            cases r1
            cases r with
            | fz r =>
              cases r
              split at hl
              · next hzl =>
                cases hz : atI z.cps.toList m with
                | none => rw [hz] at hl; cases hl
                | some y =>
                  rw [hz] at hl
                  cases hl
                  exact .inr (.inr ⟨z, m, y, rfl, rfl, Nat.le_trans hzl lim_line, hz, fin (.str _)⟩)
              · cases hl
          · cases hl
        · cases hf
      · cases hf
    · cases hf
  · cases hf

/-! ### lists of our own are changed -/
/-- x.append(e) -/
def gApp (i : Nat) (f : M AV) : Sm := fun δ => match δ[i]? with
  | some (some (.ow _)) => (match f δ with
    | some (a, δ1) => (match δ1[i]? with
      | some (some (.ow xs)) => if xs.length < lim then some (.nx (δ1.set i (some (.ow (xs ++ [a]))))) else none
      | _ => none)
    | none => none)
  | _ => none
theorem s_app (i : Nat) {x : Str} {f : M AV} {p apos cpos : Pos} (ha : AOk X e f) (hN : X.N[i]? = some x := by rfl) (hv : Vis X.env.scope x := by first | exact Or.inl rfl | exact Or.inr (Or.inl rfl) | exact Or.inr (Or.inr rfl))
    (hd : (x == ("__debug__" : Str)) = false := by decide) (hcd : (x == ("__classdict__" : Str)) = false := by decide)
    (hbase : attributeBase (.Name x p) "append" X.env (eval (.Name x p) X.env) = eval (.Name x p) X.env := by rfl)
    (hfew : ((backTo cpos (starEach [e] X.env)).all (fun x => !x.1) && (backToKw cpos (keywordEach [] X.env)).all (fun x => x.1.isSome)
      && decide (([e] : List Expr).length + ([] : List Keyword).length + (if ([] : List Keyword).isEmpty then 0 else 1) < 30)) = true := by rfl)
    (hline : (apos.endLine == cpos.line) = true := by rfl) (hs : starEach [e] X.env = (false, eval e X.env) :: starEach [] X.env := by rfl) (hplain : (backTo cpos (starEach [] X.env)).any (·.1) = false := by rfl)
    (hsw : swapsWith (.Call (.Attribute (.Name x p) "append" apos) [e] [] cpos) none pos.line X.env = pure false := by rfl) :
    SOk X Z (.Expr (.Call (.Attribute (.Name x p) "append" apos) [e] [] cpos) pos) (gApp i f) := by
  obtain ⟨t, pa, ja⟩ := ha.ex
  refine ⟨_, ps_expr (pe_bm PySem.F.plainAttrs_list PySem.F.slot_list_append PySem.F.type_list_append mt_append (pe_var hN hv hd hcd) (pa_cons pa pa_nil hs) hbase hfew hline hs hplain) hsw, fun δ r hf σ H F os D S k => ?_⟩
  unfold gApp at hf
  split at hf
  · next h0 =>
    obtain ⟨v, _, hv1, r0, _⟩ := S.at_ h0
    split at hf
    · next a δ1 h1 =>
      split at hf
      · next xs h =>
        split at hf
        · next hl =>
          cases hf
          cases r0 with
          | @ow p0 _ ws _ hp0 rs0 =>
            refine ⟨.ref p0, hv1, .inl ⟨rfl, ws, SqL.of hp0⟩, ?_⟩
            refine ja δ a _ h1 σ H F os _ S fun w H1 F1 os1 st1 S1 => ?_
            obtain ⟨p2, vs, os2, h2, h3, h4, S2, st2⟩ := S1.wrAt (as' := xs ++ [a]) (g := fun vs => vs ++ [w]) h fun vs o oa r1 r2 nd =>
              ⟨o ++ (oa ++ []), ras_app (.cons r2 .nil) r1, by rw [List.append_nil]; exact nd, fun q m => by simpa using m⟩
            rw [hv1] at h2
            cases h2
            refine ⟨p0, vs, w, rfl, rfl, h3, by rw [h4]; exact Nat.lt_of_lt_of_le hl lim_line, ?_⟩
            exact k σ _ F1 os2 .refl (st1.trans st2) S2
        · cases hf
      · cases hf
    · cases hf
  · cases hf
/-- x.extend(e), e a list -/
def gExt (i : Nat) (f : M PyData) : Sm := fun δ => match δ[i]? with
  | some (some (.ow _)) => (match f δ with
    | some (.list ds, δ1) => (match δ1[i]? with
      | some (some (.ow xs)) => if xs.length + ds.length < lim then some (.nx (δ1.set i (some (.ow (xs ++ fzs ds))))) else none
      | _ => none)
    | _ => none)
  | _ => none
theorem s_ext (i : Nat) {x : Str} {f : M PyData} {p apos cpos : Pos} (ha : DOk X e f) (hN : X.N[i]? = some x := by rfl) (hv : Vis X.env.scope x := by first | exact Or.inl rfl | exact Or.inr (Or.inl rfl) | exact Or.inr (Or.inr rfl))
    (hd : (x == ("__debug__" : Str)) = false := by decide) (hcd : (x == ("__classdict__" : Str)) = false := by decide)
    (hbase : attributeBase (.Name x p) "extend" X.env (eval (.Name x p) X.env) = eval (.Name x p) X.env := by rfl)
    (hfew : ((backTo cpos (starEach [e] X.env)).all (fun x => !x.1) && (backToKw cpos (keywordEach [] X.env)).all (fun x => x.1.isSome)
      && decide (([e] : List Expr).length + ([] : List Keyword).length + (if ([] : List Keyword).isEmpty then 0 else 1) < 30)) = true := by rfl)
    (hline : (apos.endLine == cpos.line) = true := by rfl) (hs : starEach [e] X.env = (false, eval e X.env) :: starEach [] X.env := by rfl) (hplain : (backTo cpos (starEach [] X.env)).any (·.1) = false := by rfl)
    (hsw : swapsWith (.Call (.Attribute (.Name x p) "extend" apos) [e] [] cpos) none pos.line X.env = pure false := by rfl) :
    SOk X Z (.Expr (.Call (.Attribute (.Name x p) "extend" apos) [e] [] cpos) pos) (gExt i f) := by
  obtain ⟨t, pa, ja⟩ := ha.ex
  refine ⟨_, ps_expr (pe_bm PySem.F.plainAttrs_list PySem.F.slot_list_extend PySem.F.type_list_extend mt_extend (pe_var hN hv hd hcd) (pa_cons pa pa_nil hs) hbase hfew hline hs hplain) hsw, fun δ r hf σ H F os D S k => ?_⟩
  unfold gExt at hf
  split at hf
  · next h0 =>
    obtain ⟨v, _, hv1, r0, _⟩ := S.at_ h0
    split at hf
    · next ds δ1 h1 =>
      split at hf
      · next xs h =>
        split at hf
        · next hl =>
          cases hf
          cases r0 with
          | @ow p0 _ ws _ hp0 rs0 =>
            refine ⟨.ref p0, hv1, .inl ⟨rfl, ws, SqL.of hp0⟩, ?_⟩
            refine ja δ _ _ h1 σ H F os _ S fun w H1 F1 os1 st1 S1 rw1 => ?_
            obtain ⟨b, zs, rfl, f1, hb, rzs⟩ := rd_lst rw1
            have S1' := S1.cons (RD.non (K := X.K) (F := F1) (H := H1))
            obtain ⟨p2, vs, os2, h2, h3, h4, S2, st2⟩ := S1'.wrAt (as' := xs ++ fzs ds) (g := fun vs => vs ++ zs) h fun vs o oa r1 r2 nd =>
              ⟨o ++ [], ras_app (ras_fzs ds zs rzs) r1, by rw [List.append_nil]; exact (List.nodup_append.mp nd).1, fun q m => .inl (by rw [List.append_nil] at m; exact m)⟩
            rw [hv1] at h2
            cases h2
            refine ⟨p0, b, vs, zs, rfl, rfl, h3, hb, by rw [h4, rzs.length]; exact Nat.le_trans (Nat.le_of_lt hl) lim_line, ?_⟩
            exact k σ _ F1 os2 .refl (st1.trans st2) S2
        · cases hf
      · cases hf
    · cases hf
  · cases hf
/-- x[e] = y -/
def gPutIx (i : Nat) (fi : M PyData) (fv : M AV) : Sm := fun δ => match fv δ with
  | some (a, δ1) => (match δ1[i]? with
    | some (some (.ow _)) => (match fi δ1 with
      | some (.int n, δ2) => (match δ2[i]? with
        | some (some (.ow xs)) => (match ixN xs.length n with
          | some j => some (.nx (δ2.set i (some (.ow (xs.set j a)))))
          | none => none)
        | _ => none)
      | _ => none)
    | _ => none)
  | none => none
theorem s_putIx (i : Nat) {x : Str} {fi : M PyData} {fv : M AV} {p p2 : Pos} (hb : DOk X b fi) (he : AOk X e fv) (hN : X.N[i]? = some x := by rfl) (hv : Vis X.env.scope x := by first | exact Or.inl rfl | exact Or.inr (Or.inl rfl) | exact Or.inr (Or.inr rfl))
    (hd : (x == ("__debug__" : Str)) = false := by decide) (hcd : (x == ("__classdict__" : Str)) = false := by decide)
    (ha : ∀ v, assign (.Subscript (.Name x p) b p2) X.env v = (do
      let ov ← holding [v] (eval (.Name x p) X.env)
      let iv ← holding [v, ov] (eval b X.env)
      standAt p2
      holding [v, ov, iv] (setItem ov iv v)
      release [v, ov, iv] []) := by intro _; rfl)
    (hs : swapsWithSole [.Subscript (.Name x p) b p2] e pos.line X.env = pure false := by rfl) (hw : swappedStores [.Subscript (.Name x p) b p2] e X.env = pure none := by rfl)
    (h1 : (assignEach [.Subscript (.Name x p) b p2] X.env).map (·.2) = [assign (.Subscript (.Name x p) b p2) X.env] := by rfl) :
    SOk X Z (.Assign [.Subscript (.Name x p) b p2] e pos) (gPutIx i fi fv) := by
  obtain ⟨te, pe, je⟩ := he.ex
  obtain ⟨tb, pb, jb⟩ := hb.ex
  refine ⟨_, ps_asg pe (pg_sub (pe_var hN hv hd hcd) pb set_list ha) hs hw h1, fun δ r hf σ H F os D S k => ?_⟩
  unfold gPutIx at hf
  split at hf
  · next a δ1 h1 =>
    split at hf
    · next h0 =>
      split at hf
      · next n δ2 h2 =>
        split at hf
        · next xs h =>
          split at hf
          · next j hj =>
            cases hf
            refine je δ a δ1 h1 σ H F os _ S fun w H1 F1 os1 st1 S1 => ?_
            obtain ⟨osf, mf, Sf, back⟩ := S1.frame
            obtain ⟨v, _, hv1, r0, _⟩ := Sf.at_ h0
            refine ⟨v, hv1, ?_⟩
            refine jb δ1 _ δ2 h2 σ H1 F1 osf _ Sf fun iv H2 F2 os2 st2 S2 r2 => ?_
            cases r2
            obtain ⟨os3, S3, st3⟩ := back H2 F2 os2 _ _ st2 S2
            obtain ⟨p2, vs, os4, h4, h5, h6, S4, st4⟩ := S3.wrAt (as' := xs.set j a) (g := fun vs => vs.set j w) h fun vs o oa r1 r2 nd => ras_set r2 r1 nd
            rw [hv1] at h4
            cases h4
            refine ⟨p2, vs, n, j, rfl, rfl, h5, by rw [h6]; exact hj, ?_⟩
            exact k σ _ F2 os4 .refl ((st1.trans st3).trans st4) S4
          · cases hf
        · cases hf
      · cases hf
    · cases hf
  · cases hf

/-! ### what is walked -/
/-- an iterator that gives these things -/
structure Wk (K : PySem.W.Frag) (J : It) (items : List PyData) (F1 : Fz) (H1 : Hp) : Prop where
  ex : ∃ (G : Hp → Prop) (Y : Nat → Hp → V → Hp → Prop), Walk J items.length G Y ∧ (∀ F H, Ext F1 H1 F H → G H) ∧
    ∀ (i : Nat) (H : Hp) (v : V) (H' : Hp) (F : Fz), i < items.length → Ext F1 H1 F H → (∀ q, F q → H q ≠ none) → Y i H v H' → ∃ d F', items[i]? = some d ∧ Grow H F H' F' ∧ RD K F' H' v d
structure IOk (X : Cx) (tg iter : Expr) (src : M (List PyData)) : Prop where
  ex : ∃ wi, PI X tg iter wi ∧ ∀ δ items δ', src δ = some (items, δ') → ∀ (σ : St) (H : Hp) (F : Fz) (os : List Addr) (R : It → Hp → Prop), SR X.K δ σ H F os →
    (∀ J H' F' os', Step H F os H' F' os' → SR X.K δ' σ H' F' os' → Wk X.K J items F' H' → R J H') → wi σ H R
/-- over a list or a tuple -/
def iSeq (K : PySem.W.Frag) (tl : TE) : TI := fun σ H R => tl σ H fun x H1 => ∃ a, x = .ref a ∧ (((∃ xs, SqL K H1 a xs) ∧ R (Itl K a) H1) ∨ ((∃ xs, SqT K H1 a xs) ∧ R (Itt K a) H1))
theorem pi_seq {tg l : Expr} {tl : TE} (hl : PE X l tl) : PI X tg l (iSeq X.K tl) := by
  refine ⟨fun pins s σ H R I h => thn (hl.run pins s σ H _ I h) fun v s1 ⟨x, H1, I1, r1, a, e, q⟩ => ?_⟩
  subst e
  cases r1
  rcases q with ⟨⟨xs, hq⟩, q⟩ | ⟨⟨xs, hq⟩, q⟩
  · obtain ⟨its, rv, pl, hz⟩ := I1.list hq
    refine wpAny_pyIter_list pl.isList ⟨s1.heap.objs.size, [s1.heap.objs.size], _, Itl X.K a, H1, rfl, I1.kept (t' := s1.toks) fun b o e => Heap.get?_push_of_some _ e, turn_list a _, ⟨_, Heap.get?_push_size _ rfl, rfl, rfl⟩, fun b hb => ?_, q⟩
    rw [List.mem_singleton.mp hb]
    exact I1.fpOk (Nat.le_refl _) (I1.hok.fresh (Nat.le_refl _))
  · obtain ⟨its, rv, pl, hz⟩ := I1.tuple hq
    refine wpAny_pyIter_tuple (show s1.heap.IsTuple a its.toArray from pl) ⟨s1.heap.objs.size, [s1.heap.objs.size], _, Itt X.K a, H1, rfl, I1.kept (t' := s1.toks) fun b o e => Heap.get?_push_of_some _ e, turn_tuple a _, ⟨_, Heap.get?_push_size _ rfl, rfl, rfl⟩, fun b hb => ?_, q⟩
    rw [List.mem_singleton.mp hb]
    exact I1.fpOk (Nat.le_refl _) (I1.hok.fresh (Nat.le_refl _))
def seqD : PyData → Option (List PyData)
  | .list ds => some ds
  | .tuple ds => some ds
  | _ => none
def gSeqI (f : M PyData) : M (List PyData) := bnd f fun d => opt (seqD d)
theorem yat {K : PySem.W.Frag} {F1 : Fz} {H1 : Hp} {xs : List V} {ds : List PyData} (r : RDs K F1 H1 xs ds) {i : Nat} {H : Hp} {v : V} {H' : Hp} {F : Fz} (ex : Ext F1 H1 F H) (dom : ∀ q, F q → H q ≠ none) (y : YAt xs i H v H') :
    ∃ d F', ds[i]? = some d ∧ Grow H F H' F' ∧ RD K F' H' v d := by
  obtain ⟨rfl, y⟩ := y
  have h : ∃ d, ds[i]? = some d ∧ RD K F1 H1 v d := by
    have go : ∀ {i : Nat} {xs : List V} {ds : List PyData}, RDs K F1 H1 xs ds → xs[i]? = some v → ∃ d, ds[i]? = some d ∧ RD K F1 H1 v d := by
      intro i
      induction i with
      | zero => intro xs ds r h; cases r with
        | nil => simp at h
        | cons r t =>
          have e := Option.some.inj (List.getElem?_cons_zero.symm.trans h)
          subst e
          exact ⟨_, rfl, r⟩
      | succ i ih => intro xs ds r h; cases r with
        | nil => simp at h
        | cons r t => obtain ⟨d, h1, h2⟩ := ih t (by simpa using h); exact ⟨d, by simpa using h1, h2⟩
    exact go r y
  obtain ⟨d, h1, h2⟩ := h
  exact ⟨d, F, h1, .refl dom, h2.ext ex⟩
theorem i_seq {tg : Expr} {f : M PyData} (h : DOk X e f) : IOk X tg e (gSeqI f) := by
  obtain ⟨t, p, j⟩ := h.ex
  refine ⟨_, pi_seq p, fun δ items δ' hf σ H F os R S k => ?_⟩
  obtain ⟨d, δ1, h1, h2⟩ := bnd_some hf
  obtain ⟨h3, rfl⟩ := opt_some h2
  refine j δ d _ h1 σ H F os _ S fun v H1 F1 os1 st1 S1 r1 => ?_
  unfold seqD at h3
  split at h3
  · cases h3
    cases r1 with
    | @lst a xs _ f1 q1 r2 =>
      refine ⟨a, rfl, .inl ⟨⟨xs, SqL.of q1⟩, k _ H1 F1 os1 st1 S1 ⟨_, _, by rw [← r2.length]; exact walk_list (xs := xs), fun F H ex => SqL.of (ex.2 a _ f1 q1), fun i H v H' F hi ex dom y => yat r2 ex dom y⟩⟩⟩
  · cases h3
    cases r1 with
    | @tup a xs _ q1 r2 =>
      refine ⟨a, rfl, .inr ⟨⟨xs, q1.sq⟩, k _ H1 F1 os1 st1 S1 ⟨_, _, by rw [← r2.length]; exact walk_tup (xs := xs), fun F H ex => (QT.ext ex q1).sq, fun i H v H' F hi ex dom y => yat r2 ex dom y⟩⟩⟩
  · cases h3
def rngL (lo : Int) : Nat → List PyData
  | 0 => []
  | n + 1 => .int lo :: rngL (lo + 1) n
theorem rngL_len (n : Nat) : ∀ lo, (rngL lo n).length = n := by
  induction n with
  | zero => intro lo; rfl
  | succ n ih => intro lo; exact congrArg (· + 1) (ih _)
theorem rngL_at (n : Nat) : ∀ (lo : Int) (i : Nat), i < n → (rngL lo n)[i]? = some (.int (lo + i)) := by
  induction n with
  | zero => intro lo i h; omega
  | succ n ih =>
    intro lo i h
    cases i with
    | zero => simp [rngL]
    | succ i =>
      have := ih (lo + 1) i (by omega)
      show (rngL (lo + 1) n)[i]? = _
      rw [this]
      congr 2
      omega
def rng1 : PyData → Option (List PyData)
  | .int j => if -1000000 ≤ j ∧ j ≤ 1000000 then some (rngL 0 j.toNat) else none
  | _ => none
def gRng1 (f : M PyData) : M (List PyData) := bnd f fun d => opt (rng1 d)
theorem wk_rng {K : PySem.W.Frag} {lo : Int} {n : Nat} {F1 : Fz} {H1 : Hp} : Wk K (Itr lo n) (rngL lo n) F1 H1 :=
  ⟨_, _, by rw [rngL_len]; exact walk_range, fun _ _ _ => trivial, fun i H v H' F hi ex dom y => by
    obtain ⟨rfl, rfl⟩ := y
    rw [rngL_len] at hi
    exact ⟨_, F, rngL_at n lo i hi, .refl dom, .int _⟩⟩
theorem i_rng1 {tg : Expr} {f : M PyData} {p pos : Pos} (hg : Gl X "range") (hm : X.mg "range" = none) (h : DOk X e f) (hs : starEach [e] X.env = [(false, eval e X.env)] := by rfl) : IOk X tg (.Call (.Name "range" p) [e] [] pos) (gRng1 f) := by
  obtain ⟨t, pe, j⟩ := h.ex
  refine ⟨_, pi_range1 hg hm (pa_cons pe pa_nil hs) hs, fun δ items δ' hf σ H F os R S k => ?_⟩
  obtain ⟨d, δ1, h1, h2⟩ := bnd_some hf
  obtain ⟨h3, rfl⟩ := opt_some h2
  refine j δ d _ h1 σ H F os _ S fun v H1 F1 os1 st1 S1 r1 => ?_
  unfold rng1 at h3
  split at h3
  · next n =>
    split at h3
    · next hn =>
      cases h3
      cases r1
      exact ⟨n, rfl, by omega, by omega, k _ H1 F1 os1 st1 S1 wk_rng⟩
    · cases h3
  · cases h3
def rng2 : PyData → PyData → Option (List PyData)
  | .int i, .int j => if (-1000000 ≤ i ∧ i ≤ 1000000) ∧ -1000000 ≤ j ∧ j ≤ 1000000 then some (rngL i (j - i).toNat) else none
  | _, _ => none
def gRng2 (f g : M PyData) : M (List PyData) := bnd f fun d => bnd g fun d2 => opt (rng2 d d2)
theorem i_rng2 {tg : Expr} {f g : M PyData} {p pos : Pos} (hg : Gl X "range") (hm : X.mg "range" = none) (ha : DOk X a f) (hb : DOk X b g) (hs : starEach [a, b] X.env = [(false, eval a X.env), (false, eval b X.env)] := by rfl) (hs2 : starEach [b] X.env = [(false, eval b X.env)] := by rfl) :
    IOk X tg (.Call (.Name "range" p) [a, b] [] pos) (gRng2 f g) := by
  obtain ⟨ta, pa, ja⟩ := ha.ex
  obtain ⟨tb, pb, jb⟩ := hb.ex
  refine ⟨_, pi_range2 hg hm (pa_cons pa (pa_cons pb pa_nil hs2) (by rw [hs, hs2])) hs hs2, fun δ items δ' hf σ H F os R S k => ?_⟩
  obtain ⟨d, δ1, h1, h2⟩ := bnd_some hf
  obtain ⟨d2, δ2, h3, h4⟩ := bnd_some h2
  obtain ⟨h5, rfl⟩ := opt_some h4
  refine ja δ d _ h1 σ H F os _ S fun v H1 F1 os1 st1 S1 r1 => ?_
  refine jb δ1 d2 _ h3 σ H1 F1 os1 _ S1 fun w H2 F2 os2 st2 S2 r2 => ?_
  unfold rng2 at h5
  split at h5
  · next i j =>
    split at h5
    · next hn =>
      cases h5
      cases r1
      cases r2
      exact ⟨i, j, rfl, by omega, k _ H2 F2 os2 (st1.trans st2) S2 wk_rng⟩
    · cases h5
  · cases h5

/-! ### targets, for, while -/
abbrev Tg := PyData → En → Option En
structure GOk (X : Cx) (Z : List Nat) (tg : Expr) (g : Tg) : Prop where
  ex : ∃ t, PG X tg t ∧ ∀ d δ δ', g d δ = some δ' → ∀ (v : V) (σ : St) (H : Hp) (F : Fz) (os : List Addr) (Q : St → Hp → Prop), SR X.K δ σ H F os → RD X.K F H v d →
    (∀ σ' os', Fix Z σ σ' → SR X.K δ' σ' H F os' → (∀ q ∈ os', q ∈ os) → Q σ' H) → t v σ H Q
structure GsOk (X : Cx) (Z : List Nat) (ts : List Expr) (g : List PyData → En → Option En) : Prop where
  ex : ∃ t, PGs X ts t ∧ ∀ ds δ δ', g ds δ = some δ' → ∀ (vs : List V) (σ : St) (H : Hp) (F : Fz) (os : List Addr) (Q : St → Hp → Prop), SR X.K δ σ H F os → RDs X.K F H vs ds →
    (∀ σ' os', Fix Z σ σ' → SR X.K δ' σ' H F os' → (∀ q ∈ os', q ∈ os) → Q σ' H) → t vs σ H Q
def tgN (i : Nat) : Tg := fun d δ => some (δ.set i (some (.fz d)))
theorem g_name (i : Nat) {x : Str} {p : Pos} (hN : X.N.Nodup) (hz : i ∉ Z := by decide) (hi : X.N[i]? = some x := by rfl) (hx : Loc X.env.scope x := by first | exact Or.inl rfl | exact Or.inr rfl)
    (hf : X.fn x = true ∨ X.env.scope.names.lookup x = some .local := by first | exact .inl rfl | exact .inr rfl | assumption) : GOk X Z (.Name x p) (tgN i) := by
  refine ⟨gName i, pg_name hN hi hx hf, fun d δ δ' hf v σ H F os Q S r k => ?_⟩
  cases hf
  obtain ⟨os2, S2, m⟩ := (S.cons r).put (i := i)
  exact k _ os2 (.set hz) S2 m
def tgsNil : List PyData → En → Option En := fun ds δ => match ds with
  | [] => some δ
  | _ => none
def tgsCons (g : Tg) (gs : List PyData → En → Option En) : List PyData → En → Option En := fun ds δ => match ds with
  | d :: r => (match g d δ with
    | some δ1 => gs r δ1
    | none => none)
  | [] => none
theorem gs_nil : GsOk X Z [] tgsNil := by
  refine ⟨L2.gNil, pgs_nil, fun ds δ δ' hf vs σ H F os Q S r k => ?_⟩
  unfold tgsNil at hf
  split at hf
  · cases hf
    cases r
    exact ⟨rfl, k σ os .refl S fun _ h => h⟩
  · cases hf
theorem gs_cons {es : List Expr} {g : Tg} {gs : List PyData → En → Option En} (h1 : GOk X Z e g) (h2 : GsOk X Z es gs)
    (hs : (assignEach (e :: es) X.env).map (·.2) = assign e X.env :: (assignEach es X.env).map (·.2) := by rfl) : GsOk X Z (e :: es) (tgsCons g gs) := by
  obtain ⟨t, p, j⟩ := h1.ex
  obtain ⟨t', p', j'⟩ := h2.ex
  refine ⟨gCons t t', pgs_cons p p' hs, fun ds δ δ' hf vs σ H F os Q S r k => ?_⟩
  unfold tgsCons at hf
  split at hf
  · next d dr =>
    split at hf
    · next δ1 h1 =>
      cases r with
      | cons r rr =>
        refine ⟨_, _, rfl, j d δ δ1 h1 _ σ H F os _ S r fun σ1 os1 fx1 S1 m1 => ?_⟩
        exact j' dr δ1 δ' hf _ σ1 H F os1 _ S1 rr fun σ2 os2 fx2 S2 m2 => k σ2 os2 (fx1.trans fx2) S2 fun q h => m1 q (m2 q h)
    · cases hf
  · cases hf
def tgT (n : Nat) (gs : List PyData → En → Option En) : Tg := fun d δ => match d with
  | .tuple ds => if ds.length = n then gs ds δ else none
  | _ => none
theorem g_tup {es : List Expr} {k0 : Nat} {p : Pos} {gs : List PyData → En → Option En} {n : Nat} (hc : X.calm = true) (h : GsOk X Z es gs)
    (hn : (assignEach es X.env).length = n := by rfl) (hst : (assignEach es X.env).findIdx? (·.1) = none := by rfl) : GOk X Z (.Tuple es k0 p) (tgT n gs) := by
  obtain ⟨t, pp, j⟩ := h.ex
  refine ⟨gTup X.K n t, pg_tup hc pp hn hst, fun d δ δ' hf v σ H F os Q S r k => ?_⟩
  unfold tgT at hf
  split at hf
  · split at hf
    · next hl =>
      obtain ⟨a, xs, rfl, q, rr⟩ := rd_tup r
      exact ⟨a, xs, rfl, q.sq, by rw [rr.length]; exact hl, j _ δ δ' hf xs σ H F os Q S rr k⟩
    · cases hf
  · cases hf
def forL (tgt : Tg) (body : Sm) : List PyData → Sm
  | [], δ => some (.nx δ)
  | x :: xs, δ => match tgt x δ with
    | some δ1 => (match body δ1 with
      | some (.nx δ2) => forL tgt body xs δ2
      | some (.ct δ2) => forL tgt body xs δ2
      | some (.bk δ2) => some (.nx δ2)
      | some (.rt a δ2) => some (.rt a δ2)
      | none => none)
    | none => none
def gFor (src : M (List PyData)) (tgt : Tg) (body : Sm) : Sm := fun δ => match src δ with
  | some (items, δ1) => forL tgt body items δ1
  | none => none
theorem s_for {iter tg : Expr} {body : List Stmt} {src : M (List PyData)} {g : Tg} {f : Sm} (hp : PassesOwn (model X.prog X.w) X.A X.env X.xe) (hc : X.calm = true) (hi : IOk X tg iter src) (hg : GOk X Z tg g) (hb : BOk X Z body f)
    (hs : ∀ x, foldedSetIterable iter X.env x = pure x := by intro _; rfl) : SOk X Z (.For tg iter body [] pos) (gFor src g f) := by
  obtain ⟨wi, pi, ji⟩ := hi.ex
  obtain ⟨tg', pg, jg⟩ := hg.ex
  obtain ⟨tb, pb, jb⟩ := hb.ex
  refine ⟨tFor wi tg' tb, ps_for hp hc pi pg pb hs, fun δ r hf σ H F os D S k => ?_⟩
  unfold gFor at hf
  split at hf
  · next items δ1 h1 =>
    refine ji δ items δ1 h1 σ H F os _ S fun J H1 F1 os1 st1 S1 wk => ?_
    obtain ⟨G, Y, w, hG, hY⟩ := wk.ex
    refine for_it w (fun i σ2 H2 => ∃ δ2 F2 os2, forL g f (items.drop i) δ2 = some r ∧ Fix Z σ σ2 ∧ Step H F os H2 F2 os2 ∧ Ext F1 H1 F2 H2 ∧ SR X.K δ2 σ2 H2 F2 os2) ⟨δ1, F1, os1, hf, .refl, st1, ⟨fun _ h => h, fun _ _ _ h => h⟩, S1⟩
      (fun i σ2 H2 hi ⟨δ2, F2, os2, _, _, _, ex, _⟩ => hG F2 H2 ex) (fun i x σ2 H2 H3 hi ⟨δ2, F2, os2, e, fx, st, ex, S2⟩ y => ?_) fun σ2 H2 ⟨δ2, F2, os2, e, fx, st, ex, S2⟩ => ?_
    · obtain ⟨d, F3, hd, gr, rd⟩ := hY i H2 x H3 F2 hi ex S2.dom y
      have S3 := S2.grow gr
      have st3 : Step H F os H3 F3 os2 := st.trans gr.step
      have ed : items.drop i = d :: items.drop (i + 1) := by
        rw [List.drop_eq_getElem_cons hi]
        have := List.getElem?_eq_getElem hi
        rw [hd] at this
        rw [← Option.some.inj this]
      rw [ed] at e
      unfold forL at e
      split at e
      · next δ3 h3 =>
        refine jg d δ2 δ3 h3 x σ2 H3 F3 os2 _ S3 rd fun σ4 os4 fx4 S4 m4 => ?_
        have ex3 : Ext F1 H1 F3 H3 := ⟨fun q h => gr.mono q (ex.1 q h), fun q o f h => gr.keep q o (ex.2 q o f h)⟩
        have back : ∀ {δ5 : En} {σ5 : St} {H5 : Hp} {F5 : Fz} {os5 : List Addr}, Fix Z σ4 σ5 → Step H3 F3 os4 H5 F5 os5 → SR X.K δ5 σ5 H5 F5 os5 → forL g f (items.drop (i + 1)) δ5 = some r →
            ∃ δ2 F2 os2, forL g f (items.drop (i + 1)) δ2 = some r ∧ Fix Z σ σ5 ∧ Step H F os H5 F2 os2 ∧ Ext F1 H1 F2 H5 ∧ SR X.K δ2 σ5 H5 F2 os2 := fun {δ5 σ5 H5 F5 os5} fx5 st5 S5 e5 =>
          ⟨δ5, F5, os5, e5, (fx.trans fx4).trans fx5, (st3.less m4).trans st5, ⟨fun q h => st5.mono q (ex3.1 q h), fun q o f h => (st5.ext S4.nf).2 q o (ex3.1 q f) (ex3.2 q o f h)⟩, S5⟩
        split at e
        · next δ5 h5 => exact jb δ3 _ h5 σ4 H3 F3 os4 _ S4 fun σ5 H5 F5 os5 fx5 st5 S5 => back fx5 st5 S5 e
        · next δ5 h5 => exact jb δ3 _ h5 σ4 H3 F3 os4 _ S4 fun σ5 H5 F5 os5 fx5 st5 S5 => back fx5 st5 S5 e
        · next δ5 h5 =>
          cases e
          exact jb δ3 _ h5 σ4 H3 F3 os4 _ S4 fun σ5 H5 F5 os5 fx5 st5 S5 => k σ5 H5 F5 os5 ((fx.trans fx4).trans fx5) ((st3.less m4).trans st5) S5
        · next a δ5 h5 =>
          cases e
          exact jb δ3 _ h5 σ4 H3 F3 os4 _ S4 fun v σ5 H5 F5 os5 fx5 st5 S5 => k v σ5 H5 F5 os5 ((fx.trans fx4).trans fx5) ((st3.less m4).trans st5) S5
        · cases e
      · cases e
    · rw [List.drop_length] at e
      cases e
      exact k σ2 H2 F2 os2 fx st S2
  · cases hf
def whl (c : M Bool) (body : Sm) : Nat → Sm
  | 0, _ => none
  | n + 1, δ => match c δ with
    | some (true, δ1) => (match body δ1 with
      | some (.nx δ2) => whl c body n δ2
      | some (.ct δ2) => whl c body n δ2
      | some (.bk δ2) => some (.nx δ2)
      | some (.rt a δ2) => some (.rt a δ2)
      | none => none)
    | some (false, δ1) => some (.nx δ1)
    | none => none
def gWhl (μ : En → Nat) (c : M Bool) (body : Sm) : Sm := fun δ => whl c body (μ δ) δ
theorem s_whl {c : Expr} {body : List Stmt} {t : M Bool} {f : Sm} (μ : En → Nat) (hp : PassesOwn (model X.prog X.w) X.A X.env X.xe) (hc : TOk X c t) (hb : BOk X Z body f) : SOk X Z (.While c body [] pos) (gWhl μ t f) := by
  obtain ⟨tc, pc, jc⟩ := hc.ex
  obtain ⟨tb, pb, jb⟩ := hb.ex
  refine ⟨tWhile tc tb, ps_while hp pc pb, fun δ r hf σ H F os D S k => ?_⟩
  refine ⟨fun m σ2 H2 => ∃ δ2 F2 os2, whl t f m δ2 = some r ∧ Fix Z σ σ2 ∧ Step H F os H2 F2 os2 ∧ SR X.K δ2 σ2 H2 F2 os2, ⟨μ δ, δ, F, os, hf, .refl, .refl, S⟩, fun m σ2 H2 ⟨δ2, F2, os2, e, fx, st, S2⟩ => ?_⟩
  cases m with
  | zero => cases e
  | succ m =>
    unfold whl at e
    split at e
    · next δ3 h3 =>
      refine jc δ2 true δ3 h3 σ2 H2 F2 os2 _ S2 fun H3 F3 os3 st3 S3 => iteT ⟨fun σ5 H5 => ∃ δ2 F2 os2, whl t f m δ2 = some r ∧ Fix Z σ σ5 ∧ Step H F os H5 F2 os2 ∧ SR X.K δ2 σ5 H5 F2 os2, fun σ5 H5 h => ⟨m, Nat.lt_succ_self m, h⟩, ?_⟩
      split at e
      · next δ5 h5 => exact jb δ3 _ h5 σ2 H3 F3 os3 _ S3 fun σ5 H5 F5 os5 fx5 st5 S5 => ⟨δ5, F5, os5, e, fx.trans fx5, (st.trans st3).trans st5, S5⟩
      · next δ5 h5 => exact jb δ3 _ h5 σ2 H3 F3 os3 _ S3 fun σ5 H5 F5 os5 fx5 st5 S5 => ⟨δ5, F5, os5, e, fx.trans fx5, (st.trans st3).trans st5, S5⟩
      · next δ5 h5 =>
        cases e
        exact jb δ3 _ h5 σ2 H3 F3 os3 _ S3 fun σ5 H5 F5 os5 fx5 st5 S5 => k σ5 H5 F5 os5 (fx.trans fx5) ((st.trans st3).trans st5) S5
      · next a δ5 h5 =>
        cases e
        exact jb δ3 _ h5 σ2 H3 F3 os3 _ S3 fun v σ5 H5 F5 os5 fx5 st5 S5 => k v σ5 H5 F5 os5 (fx.trans fx5) ((st.trans st3).trans st5) S5
      · cases e
    · next δ3 h3 =>
      cases e
      exact jc δ2 false δ3 h3 σ2 H2 F2 os2 _ S2 fun H3 F3 os3 st3 S3 => iteF (k σ2 H3 F3 os3 fx (st.trans st3) S3)
    · cases e
end
end Pv

namespace Pv
open PySem PySem.Spec L2
open PyProof.Rows hiding St
/-! Pv7: list comprehensions -/
/-- the reading that a pure value gives -/
def tE (K : PySem.W.Frag) (f : M AV) : TE := fun σ H Q => ∃ δ a δ' F os, f δ = some (a, δ') ∧ SR K δ σ H F os ∧ ∀ v H' F' os', Step H F os H' F' os' → SR K (some a :: δ') (some v :: σ) H' F' os' → Q v H'
def tTs (K : PySem.W.Frag) (f : M Bool) : TT := fun σ H Q => ∃ δ b δ' F os, f δ = some (b, δ') ∧ SR K δ σ H F os ∧ ∀ H' F' os', Step H F os H' F' os' → SR K δ' σ H' F' os' → Q b H'
theorem AOk.pe {X : Cx} {e : Expr} {f : M AV} (h : AOk X e f) : PE X e (tE X.K f) := by
  obtain ⟨t, p, j⟩ := h.ex
  exact ⟨fun pins s σ H Q I ⟨δ, a, δ', F, os, hf, S, k⟩ => p.run pins s σ H Q I (j δ a δ' hf σ H F os Q S k)⟩
theorem TOk.pt {X : Cx} {e : Expr} {f : M Bool} (h : TOk X e f) : PT X e (tTs X.K f) := by
  obtain ⟨t, p, j⟩ := h.ex
  exact ⟨fun pins s σ H Q I ⟨δ, a, δ', F, os, hf, S, k⟩ => p.run pins s σ H Q I (j δ a δ' hf σ H F os Q S k)⟩
/-- a comprehension's target -/
structure CgOk (X : Cx) (own : List Nat) (tg : Expr) (g : Tg) : Prop where
  ex : ∃ t, PG X tg t ∧ ∀ d δ δ', g d δ = some δ' → ∀ (v : V) (σ : St) (H : Hp) (F : Fz) (os : List Addr) (Q : St → Hp → Prop), SR X.K δ σ H F os → RD X.K F H v d →
    (∀ σ' os', wipe σ' own = wipe σ own → SR X.K δ' σ' H F os' → (∀ q ∈ os', q ∈ os) → Q σ' H) → t v σ H Q
structure CgsOk (X : Cx) (own : List Nat) (ts : List Expr) (g : List PyData → En → Option En) : Prop where
  ex : ∃ t, PGs X ts t ∧ ∀ ds δ δ', g ds δ = some δ' → ∀ (vs : List V) (σ : St) (H : Hp) (F : Fz) (os : List Addr) (Q : St → Hp → Prop), SR X.K δ σ H F os → RDs X.K F H vs ds →
    (∀ σ' os', wipe σ' own = wipe σ own → SR X.K δ' σ' H F os' → (∀ q ∈ os', q ∈ os) → Q σ' H) → t vs σ H Q
def tCg (K : PySem.W.Frag) (own : List Nat) (g : Tg) : TG := fun v σ H Q => ∃ d δ δ' F os, g d δ = some δ' ∧ SR K δ σ H F os ∧ RD K F H v d ∧ ∀ σ' os', wipe σ' own = wipe σ own → SR K δ' σ' H F os' → (∀ q ∈ os', q ∈ os) → Q σ' H
theorem CgOk.pg {X : Cx} {own : List Nat} {e : Expr} {g : Tg} (h : CgOk X own e g) : PG X e (tCg X.K own g) := by
  obtain ⟨t, p, j⟩ := h.ex
  exact ⟨fun pins s σ H v u Q I r ⟨d, δ, δ', F, os, hf, S, rd, k⟩ => p.run pins s σ H v u Q I r (j d δ δ' hf v σ H F os Q S rd k)⟩
theorem wipe_in {σ : St} {i : Nat} : ∀ {vs : List Nat}, i ∈ vs → i < σ.length → (wipe σ vs)[i]? = some none
  | [], h, _ => absurd h List.not_mem_nil
  | v :: vs, h, hl => by
    show ((wipe σ vs).set v none)[i]? = some none
    by_cases e : v = i
    · subst e
      rw [List.getElem?_set_self (by rw [wipe_length]; exact hl)]
    · rw [List.getElem?_set_ne e]
      exact wipe_in ((List.mem_cons.mp h).resolve_left fun z => e z.symm) hl
theorem wipe_set {σ : St} {i : Nat} {x : Option V} {vs : List Nat} (h : i ∈ vs) : wipe (σ.set i x) vs = wipe σ vs := by
  apply List.ext_getElem?
  intro j
  by_cases hj : j ∈ vs
  · by_cases hl : j < σ.length
    · rw [wipe_in hj hl, wipe_in hj (by rw [List.length_set]; exact hl)]
    · rw [List.getElem?_eq_none (by rw [wipe_length, List.length_set]; omega), List.getElem?_eq_none (by rw [wipe_length]; omega)]
  · rw [wipe_out hj, wipe_out hj, List.getElem?_set_ne (fun e => hj (by rw [← e]; exact h))]
section
variable {X : Cx} {e : Expr} {own : List Nat}
theorem cg_name (i : Nat) {x : Str} {p : Pos} (hN : X.N.Nodup) (ho : i ∈ own := by decide) (hi : X.N[i]? = some x := by rfl) (hx : Loc X.env.scope x := by first | exact Or.inl rfl | exact Or.inr rfl)
    (hf : X.fn x = true ∨ X.env.scope.names.lookup x = some .local := by first | exact .inl rfl | exact .inr rfl | assumption) : CgOk X own (.Name x p) (tgN i) := by
  refine ⟨gName i, pg_name hN hi hx hf, fun d δ δ' hf v σ H F os Q S r k => ?_⟩
  cases hf
  obtain ⟨os2, S2, m⟩ := (S.cons r).put (i := i)
  exact k _ os2 (wipe_set ho) S2 m
theorem cgs_nil : CgsOk X own [] tgsNil := by
  refine ⟨L2.gNil, pgs_nil, fun ds δ δ' hf vs σ H F os Q S r k => ?_⟩
  unfold tgsNil at hf
  split at hf
  · cases hf
    cases r
    exact ⟨rfl, k σ os rfl S fun _ h => h⟩
  · cases hf
theorem cgs_cons {es : List Expr} {g : Tg} {gs : List PyData → En → Option En} (h1 : CgOk X own e g) (h2 : CgsOk X own es gs)
    (hs : (assignEach (e :: es) X.env).map (·.2) = assign e X.env :: (assignEach es X.env).map (·.2) := by rfl) : CgsOk X own (e :: es) (tgsCons g gs) := by
  obtain ⟨t, p, j⟩ := h1.ex
  obtain ⟨t', p', j'⟩ := h2.ex
  refine ⟨gCons t t', pgs_cons p p' hs, fun ds δ δ' hf vs σ H F os Q S r k => ?_⟩
  unfold tgsCons at hf
  split at hf
  · next d dr =>
    split at hf
    · next δ1 h1 =>
      cases r with
      | cons r rr =>
        refine ⟨_, _, rfl, j d δ δ1 h1 _ σ H F os _ S r fun σ1 os1 fx1 S1 m1 => ?_⟩
        exact j' dr δ1 δ' hf _ σ1 H F os1 _ S1 rr fun σ2 os2 fx2 S2 m2 => k σ2 os2 (fx2.trans fx1) S2 fun q h => m1 q (m2 q h)
    · cases hf
  · cases hf
theorem cg_tup {es : List Expr} {k0 : Nat} {p : Pos} {gs : List PyData → En → Option En} {n : Nat} (hc : X.calm = true) (h : CgsOk X own es gs)
    (hn : (assignEach es X.env).length = n := by rfl) (hst : (assignEach es X.env).findIdx? (·.1) = none := by rfl) : CgOk X own (.Tuple es k0 p) (tgT n gs) := by
  obtain ⟨t, pp, j⟩ := h.ex
  refine ⟨gTup X.K n t, pg_tup hc pp hn hst, fun d δ δ' hf v σ H F os Q S r k => ?_⟩
  unfold tgT at hf
  split at hf
  · split at hf
    · next hl =>
      obtain ⟨a, xs, rfl, q, rr⟩ := rd_tup r
      exact ⟨a, xs, rfl, q.sq, by rw [rr.length]; exact hl, j _ δ δ' hf xs σ H F os Q S rr k⟩
    · cases hf
  · cases hf
end
/-- a comprehension's tests -/
inductive Ifs (X : Cx) : List Expr → M Bool → Prop where
  | no : Ifs X [] (ret true)
  | one {c : Expr} {f : M Bool} : TOk X c f → Ifs X [c] f
theorem Ifs.pts {X : Cx} {ifs : List Expr} {f : M Bool} (h : Ifs X ifs f) : PTs X ifs (tTs X.K f) := by
  cases h with
  | no =>
    refine ⟨fun pins s σ H Q I ⟨δ, a, δ', F, os, hf, S, k⟩ => ?_⟩
    obtain ⟨rfl, rfl⟩ := ret_some hf
    exact pts_nil.run pins s σ H Q I (k H F os .refl S)
  | one h => exact pts_one h.pt

def wipeE (δ : En) : List Nat → En
  | [] => δ
  | v :: vs => (wipeE δ vs).set v none
def frzAt (δ : En) (i : Nat) : Bool := match δ[i]? with
  | some (some (.fz _)) => true
  | some none => true
  | _ => false
def bring (δ1 : En) : List Nat → En → En
  | [], δ => δ
  | v :: vs, δ => bring δ1 vs (match δ1[v]? with
    | some x => δ.set v x
    | none => δ)
def lcL (own : List Nat) (tgt : Tg) (tt : M Bool) (el : M AV) : List PyData → List AV → En → Option (List AV × En)
  | [], acc, δ => some (acc, δ)
  | x :: xs, acc, δ => match tgt x δ with
    | some δ1 => (match tt δ1 with
      | some (true, δ2) => (match el δ2 with
        | some (a, δ3) => lcL own tgt tt el xs (acc ++ [a]) (wipeE δ3 own)
        | none => none)
      | some (false, δ2) => lcL own tgt tt el xs acc (wipeE δ2 own)
      | none => none)
    | none => none
def gLc (own : List Nat) (src : M (List PyData)) (tgt : Tg) (tt : M Bool) (el : M AV) : M AV := fun δ => match src δ with
  | some (items, δ1) => if items.length ≤ lim ∧ own.all (frzAt δ1) = true then (match lcL own tgt tt el items [] (wipeE δ1 own) with
    | some (acc, δ2) => some (.ow acc, bring δ1 own δ2)
    | none => none) else none
  | none => none
section
variable {K : PySem.W.Frag} {F F' F1 : Fz} {H H' H1 : Hp} {os os' os1 : List Addr} {δ δ' δ1 : En} {σ σ' σ1 : St}
/-- a slot is forgotten -/
theorem SR.wipe1 : ∀ {i : Nat} {δ : En} {σ : St} {os : List Addr} {x : Option V}, SR K δ σ H F os → ∃ os', SR K (δ.set i none) (σ.set i x) H F os' ∧ ∀ q ∈ os', q ∈ os
  | i, [], σ, os, x, S => by
    cases σ with
    | nil => exact ⟨os, S, fun _ h => h⟩
    | cons y σ => cases S.env
  | 0, y :: δ, σ, os, x, S => by
    cases σ with
    | nil => cases S.env
    | cons z σ =>
      obtain ⟨os1, m, S1⟩ := S.drop
      exact ⟨os1, S1.emp, m⟩
  | i + 1, none :: δ, σ, os, x, S => by
    cases σ with
    | nil => cases S.env
    | cons z σ =>
      obtain ⟨env, nd, nf, dom⟩ := S
      cases env with
      | non t =>
        obtain ⟨os1, S1, m⟩ := SR.wipe1 (i := i) (δ := δ) (σ := σ) (x := x) ⟨t, nd, nf, dom⟩
        exact ⟨os1, S1.emp, m⟩
  | i + 1, some y :: δ, σ, os, x, S => by
    cases σ with
    | nil => cases S.env
    | cons z σ =>
      obtain ⟨env, nd, nf, dom⟩ := S
      cases env with
      | @som _ w o _ _ ot r t =>
        obtain ⟨n1, n2, n3⟩ := List.nodup_append.mp nd
        obtain ⟨os1, S1, m⟩ := SR.wipe1 (i := i) (δ := δ) (σ := σ) (x := x) ⟨t, n2, fun p z => nf p (List.mem_append_right _ z), dom⟩
        refine ⟨o ++ os1, ⟨.som r S1.env, List.nodup_append.mpr ⟨n1, S1.nd, fun x hx y hy e => n3 x hx y (m y hy) e⟩, fun p z => ?_, dom⟩, fun q z => ?_⟩
        · exact nf p ((List.mem_append.mp z).elim (List.mem_append_left _) fun z => List.mem_append_right _ (m p z))
        · exact (List.mem_append.mp z).elim (List.mem_append_left _) fun z => List.mem_append_right _ (m q z)
theorem SR.wipe (own : List Nat) (S : SR K δ σ H F os) : ∃ os', SR K (wipeE δ own) (L2.wipe σ own) H F os' ∧ ∀ q ∈ os', q ∈ os := by
  induction own with
  | nil => exact ⟨os, S, fun _ h => h⟩
  | cons v vs ih =>
    obtain ⟨os1, S1, m1⟩ := ih
    obtain ⟨os2, S2, m2⟩ := S1.wipe1 (i := v) (x := none)
    exact ⟨os2, S2, fun q h => m1 q (m2 q h)⟩
theorem SR.bring {own : List Nat} (S1 : SR K δ1 σ H1 F1 os1) (ex : Ext F1 H1 F H) (hf : own.all (frzAt δ1) = true) : ∀ (vs : List Nat), vs.Nodup → (∀ v ∈ vs, v ∈ own) → ∀ {δ : En} {os : List Addr}, SR K δ (L2.wipe σ vs) H F os → ∃ os', SR K (bring δ1 vs δ) σ H F os' ∧ ∀ q ∈ os', q ∈ os
  | [], _, _, δ, os, S => ⟨os, S, fun _ h => h⟩
  | v :: vs, nd, sub, δ, os, S => by
    obtain ⟨n1, n2⟩ := List.nodup_cons.mp nd
    have hv := List.all_eq_true.mp hf v (sub v (List.mem_cons_self ..))
    have key : ∃ os2, SR K (match δ1[v]? with | some x => δ.set v x | none => δ) (L2.wipe σ vs) H F os2 ∧ ∀ q ∈ os2, q ∈ os := by
      unfold frzAt at hv
      split at hv
      · next d h =>
        rw [h]
        obtain ⟨w, o, h1, r, _⟩ := S1.at_ h
        cases r with
        | fz r =>
          obtain ⟨os2, S2, m2⟩ := (S.cons (r.ext ex)).put (i := v)
          have e : (L2.wipe σ (v :: vs)).set v (some w) = L2.wipe σ vs := by
            show ((L2.wipe σ vs).set v none).set v (some w) = L2.wipe σ vs
            rw [List.set_set]
            exact set_self (by rw [wipe_out n1]; exact h1)
          rw [e] at S2
          exact ⟨os2, S2, m2⟩
      · next h =>
        rw [h]
        obtain ⟨os2, S2, m2⟩ := S.wipe1 (i := v) (x := (σ[v]?).getD none)
        have hl : v < σ.length := by
          rw [← S1.len]
          exact (List.getElem?_eq_some_iff.mp h).1
        have e : (L2.wipe σ (v :: vs)).set v ((σ[v]?).getD none) = L2.wipe σ vs := by
          show ((L2.wipe σ vs).set v none).set v _ = L2.wipe σ vs
          rw [List.set_set]
          refine set_self ?_
          rw [wipe_out n1, List.getElem?_eq_getElem hl]
          rfl
        rw [e] at S2
        exact ⟨os2, S2, m2⟩
      · cases hv
    obtain ⟨os2, S2, m2⟩ := key
    obtain ⟨os3, S3, m3⟩ := SR.bring S1 ex hf vs n2 (fun w m => sub w (List.mem_cons_of_mem _ m)) S2
    exact ⟨os3, S3, fun q h => m2 q (m3 q h)⟩
end
section
variable {X : Cx} {Z : List Nat}
theorem ej_lc {own : List Nat} {src : M (List PyData)} {g : Tg} {tt : M Bool} {el : M AV} {wi : TI} {pairs : List (Str × Nat)} (hown : pairs.map (·.2) = own) (nd : own.Nodup)
    (ji : ∀ δ items δ', src δ = some (items, δ') → ∀ (σ : St) (H : Hp) (F : Fz) (os : List Addr) (R : It → Hp → Prop), SR X.K δ σ H F os →
      (∀ J H' F' os', Step H F os H' F' os' → SR X.K δ' σ H' F' os' → Wk X.K J items F' H' → R J H') → wi σ H R) :
    EJ X.K (gLc own src g tt el) (tLc wi (tCg X.K own g) (tTs X.K tt) (tE X.K el) (pairs.map (·.2))) := by
  intro δ a δ' hf σ H F os Q S k
  unfold gLc at hf
  split at hf
  · next items δ1 h1 =>
    split at hf
    · next hc =>
      split at hf
      · next accF δF hF =>
        cases hf
        refine ji δ items δ1 h1 σ H F os _ S fun J H1 F1 os1 st1 S1 wk D hD => ?_
        obtain ⟨G, Y, w, hG, hY⟩ := wk.ex
        have g0 : Grow H1 F1 (upd H1 D (.lst [])) F1 := Grow.own S1.dom hD
        have nF : ¬ F1 D := fun f => S1.dom D f hD
        have o0 : Out X.K F1 H1 (.ow []) (.ref D) (upd H1 D (.lst [])) F1 [D] := Out.lst (ds := []) S1.dom hD .nil
        obtain ⟨S2, st2⟩ := S1.out o0
        obtain ⟨osf, mf, Sf, back⟩ := S2.frame
        obtain ⟨osw, Sw, mw⟩ := Sf.wipe own
        obtain ⟨os3, S3, st3⟩ := back _ _ osw _ _ (Step.refl.less mw) Sw
        rw [hown]
        refine lc_it w (fun i H2 => ∃ acc δ2 F2 os2, lcL own g tt el (items.drop i) acc δ2 = some (accF, δF) ∧ SR X.K (some (.ow acc) :: δ2) (some (.ref D) :: wipe σ own) H2 F2 os2 ∧ Step H F os H2 F2 os2 ∧ Ext F1 H1 F2 H2 ∧ acc.length ≤ i)
          ⟨[], _, F1, os3, hF, S3, (st1.trans st2).trans st3, g0.ext, Nat.le_refl _⟩ (fun i H2 hi ⟨acc, δ2, F2, os2, _, _, _, ex, _⟩ => hG F2 H2 ex) (fun i x H2 H3 hi ⟨acc, δ2, F2, os2, e, S2, st, ex, al⟩ y => ?_) fun H2 ⟨acc, δ2, F2, os2, e, S2, st, ex, al⟩ => ?_
        · obtain ⟨d, F3, hd, gr, rd⟩ := hY i H2 x H3 F2 hi ex S2.dom y
          have S3 := S2.grow gr
          have st3 : Step H F os H3 F3 os2 := st.trans gr.step
          have ex3 : Ext F1 H1 F3 H3 := ⟨fun q h => gr.mono q (ex.1 q h), fun q o f h => gr.keep q o (ex.2 q o f h)⟩
          have ed : items.drop i = d :: items.drop (i + 1) := by
            rw [List.drop_eq_getElem_cons hi]
            have := List.getElem?_eq_getElem hi
            rw [hd] at this
            rw [← Option.some.inj this]
          rw [ed] at e
          unfold lcL at e
          obtain ⟨osf, mf, Sf, back⟩ := S3.frame
          split at e
          · next δ3 h3 =>
            refine ⟨d, δ2, δ3, F3, osf, h3, Sf, rd, fun σ4 os4 w4 S4 m4 => ⟨w4.trans (by
              apply List.ext_getElem?
              intro j
              by_cases hj : j ∈ own
              · by_cases hl : j < σ.length
                · rw [wipe_in hj hl, wipe_in hj (by rw [wipe_length]; exact hl)]
                · rw [List.getElem?_eq_none (by rw [wipe_length, wipe_length]; omega), List.getElem?_eq_none (by rw [wipe_length]; omega)]
              · rw [wipe_out hj]), ?_⟩⟩
            have w5 : wipe σ4 own = wipe σ own := w4.trans (by
              apply List.ext_getElem?
              intro j
              by_cases hj : j ∈ own
              · by_cases hl : j < σ.length
                · rw [wipe_in hj hl, wipe_in hj (by rw [wipe_length]; exact hl)]
                · rw [List.getElem?_eq_none (by rw [wipe_length, wipe_length]; omega), List.getElem?_eq_none (by rw [wipe_length]; omega)]
              · rw [wipe_out hj])
            split at e
            · next δ5 h5 =>
              refine ⟨δ3, true, δ5, F3, os4, h5, S4, fun H5 F5 os5 st5 S5 => ?_⟩
              split at e
              · next b δ6 h6 =>
                refine iteT ⟨δ5, b, δ6, F5, os5, h6, S5, fun v H6 F6 os6 st6 S6 => ?_⟩
                have stA : Step H3 F3 osf H6 F6 os6 := ((Step.refl.less m4).trans st5).trans st6
                obtain ⟨os7, S7, st7⟩ := back H6 F6 os6 _ _ stA S6
                obtain ⟨vs, os8, hp, hlen, S8, st8⟩ := S7.wr (as' := acc ++ [b]) (g := fun vs => vs ++ [v]) fun vs o oa r1 r2 nd => ⟨o ++ (oa ++ []), ras_app (.cons r2 .nil) r1, by rw [List.append_nil]; exact nd, fun q m => by simpa using m⟩
                refine ⟨vs, hp, by rw [hlen]; exact Nat.lt_of_le_of_lt al (Nat.lt_of_lt_of_le hi (Nat.le_trans hc.1 lim_line)), ?_⟩
                obtain ⟨osg, mg, Sg, back2⟩ := S8.frame
                obtain ⟨osw, Sw, mw⟩ := Sg.wipe own
                rw [w5] at Sw
                obtain ⟨os9, S9, st9⟩ := back2 _ _ osw _ _ (Step.refl.less mw) Sw
                refine ⟨acc ++ [b], _, F6, os9, e, S9, ((st3.trans st7).trans st8).trans st9, ⟨fun q h => st7.mono q (ex3.1 q h), fun q o f h => ?_⟩, by rw [List.length_append]; exact Nat.succ_le_succ al⟩
                have nq : q ≠ D := fun z => by rw [z] at f; exact nF f
                rw [upd_ne nq]
                exact (st7.ext S3.nf).2 q o (ex3.1 q f) (ex3.2 q o f h)
              · cases e
            · next δ5 h5 =>
              refine ⟨δ3, false, δ5, F3, os4, h5, S4, fun H5 F5 os5 st5 S5 => iteF ?_⟩
              have stA : Step H3 F3 osf H5 F5 os5 := (Step.refl.less m4).trans st5
              obtain ⟨osw, Sw, mw⟩ := S5.wipe own
              rw [w5] at Sw
              obtain ⟨os7, S7, st7⟩ := back H5 F5 osw _ _ (stA.less mw) Sw
              exact ⟨acc, _, F5, os7, e, S7, st3.trans st7, ⟨fun q h => st7.mono q (ex3.1 q h), fun q o f h => (st7.ext S3.nf).2 q o (ex3.1 q f) (ex3.2 q o f h)⟩, Nat.le_succ_of_le al⟩
            · cases e
          · cases e
        · rw [List.drop_length] at e
          cases e
          obtain ⟨osf, mf, Sf, back⟩ := S2.frame
          obtain ⟨osb, Sb, mb⟩ := SR.bring S1 ex hc.2 own nd (fun _ h => h) Sf
          obtain ⟨os9, S9, st9⟩ := back _ _ osb _ _ (Step.refl.less mb) Sb
          exact k (.ref D) H2 F2 os9 (st.trans st9) S9
      · cases hf
    · cases hf
  · cases hf
theorem a_lc {elt tg iter : Expr} {ifs : List Expr} {scope : Scope} {pos : Pos} {own : List Nat} {pairs : List (Str × Nat)} {src : M (List PyData)} {g : Tg} {tt : M Bool} {el : M AV} (hc : X.calm = true) (hN : X.N.Nodup) (hi : IOk X tg iter src)
    (ok : BlkOk X.N X.env.scope scope pairs) (hg : ∀ (s : Shared) (H : Hp) (C : Addr) (cl : List (Str × Addr)) (fp : List Addr), CgOk (X.blk s H scope (compEnvC scope cl C X.env) fp) own tg g)
    (ht : ∀ (s : Shared) (H : Hp) (C : Addr) (cl : List (Str × Addr)) (fp : List Addr), Ifs (X.blk s H scope (compEnvC scope cl C X.env) fp) ifs tt)
    (he : ∀ (s : Shared) (H : Hp) (C : Addr) (cl : List (Str × Addr)) (fp : List Addr), AOk (X.blk s H scope (compEnvC scope cl C X.env) fp) elt el)
    (hown : pairs.map (·.2) = own := by rfl) (nd : own.Nodup := by decide) (hs : ∀ x, foldedSetIterable iter X.env x = pure x := by intro _; rfl) :
    AOk X (.ListComp elt [⟨tg, iter, ifs, 0⟩] scope pos) (gLc own src g tt el) := by
  obtain ⟨wi, pi, ji⟩ := hi.ex
  exact ⟨_, pe_lc (g := tCg X.K own g) (tt := tTs X.K tt) (te := tE X.K el) hc hN pi ok (fun s H C cl fp => (hg s H C cl fp).pg) (fun s H C cl fp => (ht s H C cl fp).pts) (fun s H C cl fp => (he s H C cl fp).pe) hs, ej_lc hown nd ji⟩
/-- x = [..] -/
theorem s_setLc {i : Nat} {y : Str} {py : Pos} {elt tg iter : Expr} {ifs : List Expr} {scope : Scope} {pos spos : Pos} {own : List Nat} {pairs : List (Str × Nat)} {src : M (List PyData)} {g : Tg} {tt : M Bool} {el : M AV} (hc : X.calm = true) (hN : X.N.Nodup) (hi : IOk X tg iter src)
    (ok : BlkOk X.N X.env.scope scope pairs) (hg : ∀ (s : Shared) (H : Hp) (C : Addr) (cl : List (Str × Addr)) (fp : List Addr), CgOk (X.blk s H scope (compEnvC scope cl C X.env) fp) own tg g)
    (ht : ∀ (s : Shared) (H : Hp) (C : Addr) (cl : List (Str × Addr)) (fp : List Addr), Ifs (X.blk s H scope (compEnvC scope cl C X.env) fp) ifs tt)
    (he : ∀ (s : Shared) (H : Hp) (C : Addr) (cl : List (Str × Addr)) (fp : List Addr), AOk (X.blk s H scope (compEnvC scope cl C X.env) fp) elt el)
    (hsw : swapsWith (.ListComp elt [⟨tg, iter, ifs, 0⟩] scope pos) (some (.Name y py)) spos.line X.env = pure true) (hz : i ∉ Z := by decide)
    (hy : X.N[i]? = some y := by rfl) (hyl : X.env.scope.names.lookup y = some .local := by rfl)
    (hown : pairs.map (·.2) = own := by rfl) (nd : own.Nodup := by decide) (hs : ∀ x, foldedSetIterable iter X.env x = pure x := by intro _; rfl) :
    SOk X Z (.Assign [.Name y py] (.ListComp elt [⟨tg, iter, ifs, 0⟩] scope pos) spos) (gSet i (gLc own src g tt el)) := by
  obtain ⟨wi, pi, ji⟩ := hi.ex
  refine ⟨_, ps_setLc (i := i) (g := tCg X.K own g) (tt := tTs X.K tt) (te := tE X.K el) hc hN hy hyl hsw pi ok (fun s H C cl fp => (hg s H C cl fp).pg) (fun s H C cl fp => (ht s H C cl fp).pts) (fun s H C cl fp => (he s H C cl fp).pe) hs, fun δ r hf σ H F os D S k => ?_⟩
  unfold gSet at hf
  split at hf
  · next a δ1 h1 =>
    cases hf
    refine ej_lc hown nd ji δ a δ1 h1 σ H F os _ S fun v H' F' os' st S' => ?_
    obtain ⟨os2, S2, m⟩ := S'.put (i := i)
    exact k (σ.set i (some v)) H' F' os2 (.set hz) (st.less m) S2
  · cases hf
end
end Pv

namespace Pv
open PySem PySem.Spec L2
open PyProof.Rows hiding St
/-! Pv8: defs and their calls -/
/-- a def keeps a promise wherever no display of an object is under way -/
structure FnG (P : Program) (w : World) (K : PySem.W.Frag) (mg : Str → Option Value) (base : Heap) (k : Nat) (f : Addr) (fd : FuncData) (n : Nat) (ps : List Str) (sp : List V → Hp → VK → Prop) : Prop where
  lp : ps.length = n
  run : ∀ (A : Around) (outer : List Env) (s : Shared) (H : Hp) (args : Args) (us : List Value) (vs : List V) (Q : VK), A.guards = some [] → Room k A → Env0 P w K mg base A outer s H → BindsTo s fd args (ps.zip us) → Vals vs us → vs.length = n → sp vs H Q →
    codeAny (model P w) A (.call (.ref f) args) (CR CX0 outer P w H s Q E0) s
section
variable {P : Program} {w : World} {K : PySem.W.Frag} {mg : Str → Option Value} {base : Heap} {k : Nat} {f : Addr} {fd : FuncData} {n : Nat} {ps : List Str} {sp sp' : List V → Hp → VK → Prop}
theorem FnG.weak {j : Nat} (F : FnG P w K mg base k f fd n ps sp) (hj : k ≤ j) (h : ∀ vs H Q, sp' vs H Q → sp vs H Q) : FnG P w K mg base j f fd n ps sp' :=
  ⟨F.lp, fun A outer s H args us vs Q g hr e hb hv hl q => F.run A outer s H args us vs Q g (hr.mono hj) e hb hv hl (h vs H Q q)⟩
abbrev bodyCx (P : Program) (w : World) (K : PySem.W.Frag) (mg : Str → Option Value) (base : Heap) (N : List Str) (qual : Str) (scope : Scope) (f : Addr) (cdv : Value) (A : Around) (outer : List Env) (s : Shared) (H : Hp) : Cx :=
  (cxOf CX0 P w K mg base N qual scope f cdv A outer s H E0).nox
theorem fnG_of {x qual : Str} {params : Arguments} {body : List Stmt} {scope : Scope} {N : List Str} (F : FunD K x qual params body scope [] [] f fd) (S : FnScope N ps scope) (hn : ps.length = n)
    (hbody : ∀ (cdv : Value) (A : Around) (outer : List Env) (s : Shared) (H : Hp) (vs : List V) (Q : VK), A.guards = some [] → Room k (A.deeper (envOfC qual scope s.heap.objs.size f cdv)) → vs.length = n → sp vs H Q →
      ∃ t, PSs (bodyCx P w K mg base N qual scope f cdv A outer s H) body t ∧ t { nx := fun _ H' => Q .non H', rt := Q } (L2.start N vs) H) : FnG P w K mg base (k + 1) f fd n ps sp := by
  obtain ⟨oc, od, dV, kV, doc, pm, an, cdv, ct, osl, rfl, look, code, _, _⟩ := F.ex
  refine ⟨hn, fun A outer s H args us vs Q hgd room e0 binds vals hlen hsp => ?_⟩
  have vl : vs.length = ps.length := hlen.trans hn.symm
  have kin : K.In s.heap := e0.mod.kin.keeps fun b o e => (e0.bs b o e).1
  have free : s.heap.NoLimit := e0.mod.nolimit.keeps fun b o e => (e0.bs b o e).1
  have kinds : ∀ y ∈ ps.zip us, scope.names.lookup y.1 = some .local ∨ (scope.names.lookup y.1 = some .cell ∧ ((cellsFrom (s.heap.objs.size + 1) scope.names []).lookup y.1).isSome = true) := by
    rintro ⟨m, v⟩ hy
    exact (S.par m (List.of_mem_zip hy).1).imp _root_.id fun q => ⟨q, PySem.W.cellsFrom_some _ _ _ (.inl q)⟩
  refine codeAny_call_function room.depth (kin _ _ look) rfl S.co S.gen rfl (PySem.W.codeRec_of kin code) (binds _ _ _ _ (wpAny_newFunctionEnv_cells S.kind kinds fun env he s1 x => ?_))
  subst he
  refine ⟨free.keeps x.toInCall.keep, codeAny_func ?_⟩
  obtain ⟨t, ht, hq⟩ := hbody cdv A outer s H vs Q hgd (room.deeper _) hlen hsp
  have I := inv_start (CX := CX0) (E := E0) S room.hd e0 vl vals x
  refine wpAny_mono (ht.run [] s1 (L2.start N vs) H _ (I.wish _) hq) (fun fl s' hs => ?_) fun e s' hs => hs.elim
  have done : ∀ {σ' : St} {H' : Hp} {v : V} {u : Value}, Inv (bodyCx P w K mg base N qual scope f cdv A outer s H) [] σ' H' s' → RelV v u → Q v H' → CE outer P w H s Q u s' :=
    fun {σ' H' v u} J rv q => ⟨v, H', J.os, J.bare, J.base, J.hok, rv, q⟩
  match fl, hs with
  | .ret u, ⟨v, σ', H', J, rv, q⟩ => exact done J rv q
  | .next, ⟨σ', H', J, q⟩ => exact done (v := V.non) (u := Value.none) J rfl q
  | .brk, ⟨_, _, _, q⟩ => exact q.elim
  | .cont, ⟨_, _, _, q⟩ => exact q.elim
end
/-- a def, purely: its arguments, what it hands back, the first argument's list behind it (where the def changes it) -/
abbrev Fn := List AV → Option (AV × List AV)
def spF (K : PySem.W.Frag) (io : Bool) (n : Nat) (g : Fn) : List V → Hp → VK → Prop := fun vs H Q => ∃ as r outs F os, g as = some (r, outs) ∧ SR K (as.map some) (vs.map some) H F os ∧
  ∀ v H' F' os', Step H F os H' F' os' → SR K (some r :: outs.map some) (some v :: (if io = true then (vs.map some).take 1 else [])) H' F' os' → Q v H'
def outsOf (io : Bool) (δ : En) : Option (List AV) := if io = true then (match δ with
  | some a :: _ => some [a]
  | _ => none) else some []
def defF (m n : Nat) (io : Bool) (b : Sm) : Fn := fun as => if as.length = n then (match b (as.map some ++ List.replicate (m - n) none) with
  | some (.rt r δ) => (outsOf io δ).map fun o => (r, o)
  | some (.nx δ) => (outsOf io δ).map fun o => (.fz .none, o)
  | _ => none) else none
def zOf (io : Bool) : List Nat := if io = true then [0] else []
section
variable {K : PySem.W.Frag} {F : Fz} {H : Hp} {os : List Addr} {δ : En} {σ : St}
theorem re_pad : ∀ (n : Nat) {δ : En} {σ : St} {os : List Addr}, RE K F H δ σ os → RE K F H (δ ++ List.replicate n none) (σ ++ List.replicate n none) os
  | n, [], [], os, r => by
    cases r
    induction n with
    | zero => exact .nil
    | succ n ih => exact .non ih
  | n, [], y :: σ, os, r => by cases r
  | n, none :: δ, σ, os, r => by cases r with | non t => exact .non (re_pad n t)
  | n, some a :: δ, σ, os, r => by cases r with | som r t => exact .som r (re_pad n t)
theorem re_append {A : En} {V0 : St} {o : List Addr} (r : RE K F H A V0 o) (t : RE K F H δ σ os) : RE K F H (A ++ δ) (V0 ++ σ) (o ++ os) := by
  induction r with
  | nil => exact t
  | non _ ih => exact .non ih
  | som ra _ ih => rw [List.append_assoc]; exact .som ra ih
theorem SR.swap {a b : AV} {v u : V} (S : SR K (some a :: some b :: δ) (some v :: some u :: σ) H F os) : ∃ os', SR K (some b :: some a :: δ) (some u :: some v :: σ) H F os' ∧ ∀ q ∈ os', q ∈ os := by
  obtain ⟨env, nd, nf, dom⟩ := S
  cases env with
  | @som _ _ o1 _ _ ot r t =>
    cases t with
    | @som _ _ o2 _ _ o3 r2 t =>
      obtain ⟨n1, n2, n3⟩ := List.nodup_append.mp nd
      obtain ⟨k1, k2, k3⟩ := List.nodup_append.mp n2
      have sub : ∀ q ∈ o2 ++ (o1 ++ o3), q ∈ o1 ++ (o2 ++ o3) := fun q m => by
        simp only [List.mem_append] at m ⊢
        rcases m with m | m | m
        · exact .inr (.inl m)
        · exact .inl m
        · exact .inr (.inr m)
      refine ⟨o2 ++ (o1 ++ o3), ⟨.som r2 (.som r t), List.nodup_append.mpr ⟨k1, List.nodup_append.mpr ⟨n1, k2, fun x hx y hy e => n3 x hx y (List.mem_append_right _ hy) e⟩, fun x hx y hy e => ?_⟩, fun p m => nf p (sub p m), dom⟩, sub⟩
      rcases List.mem_append.mp hy with hy | hy
      · exact n3 y hy x (List.mem_append_left _ hx) e.symm
      · exact k3 x hx y hy e
/-- the first thing alone is worked on, the rest is put aside -/
theorem SR.aside {a : AV} {v : V} (S : SR K (some a :: δ) (some v :: σ) H F os) : ∃ o, SR K [some a] [some v] H F o ∧
    ∀ (H' : Hp) (F' : Fz) (o' : List Addr) (A : En) (V0 : St), Step H F o H' F' o' → SR K A V0 H' F' o' → ∃ os', SR K (A ++ δ) (V0 ++ σ) H' F' os' ∧ Step H F os H' F' os' := by
  obtain ⟨env, nd, nf, dom⟩ := S
  cases env with
  | @som _ _ o _ _ os1 r t =>
    obtain ⟨n1, n2, n3⟩ := List.nodup_append.mp nd
    refine ⟨o, ⟨by have := RE.som r (RE.nil (K := K) (F := F) (H := H)); rw [List.append_nil] at this; exact this, n1, fun p m => nf p (List.mem_append_left _ m), dom⟩, fun H' F' o' A V0 st S' => ⟨o' ++ os1, ⟨re_append S'.env (t.apart ⟨st.ext fun q m => nf q (List.mem_append_left _ m), fun q m u h => ?_⟩), ?_, fun p m f => ?_, S'.dom⟩, ?_⟩⟩
    · exact st.keep q u h fun m' => n3 q m' q m rfl
    · refine List.nodup_append.mpr ⟨S'.nd, n2, fun x hx y hy e => ?_⟩
      subst e
      rcases st.onew x hx with z | z
      · exact n3 x z x hy rfl
      · exact t.there x hy z
    · rcases List.mem_append.mp m with m | m
      · exact S'.nf p m f
      · rcases st.fnew p f with z | z | z
        · exact nf p (List.mem_append_right _ m) z
        · exact n3 p z p m rfl
        · exact t.there p m z
    · refine ⟨fun q u h m => st.keep q u h fun z => m (List.mem_append_left _ z), st.mono, fun q f => ?_, fun q m => ?_, st.live⟩
      · rcases st.fnew q f with z | z | z
        · exact .inl z
        · exact .inr (.inl (List.mem_append_left _ z))
        · exact .inr (.inr z)
      · rcases List.mem_append.mp m with m | m
        · rcases st.onew q m with z | z
          · exact .inl (List.mem_append_left _ z)
          · exact .inr z
        · exact .inl (List.mem_append_right _ m)
theorem SR.only {a : Option AV} {v : Option V} (S : SR K (a :: δ) (v :: σ) H F os) : ∃ os', SR K [a] [v] H F os' ∧ ∀ q ∈ os', q ∈ os := by
  obtain ⟨env, nd, nf, dom⟩ := S
  cases env with
  | non t => exact ⟨[], ⟨.non .nil, .nil, fun p m => absurd m List.not_mem_nil, dom⟩, fun q m => absurd m List.not_mem_nil⟩
  | @som _ _ o _ _ os1 r t =>
    exact ⟨o ++ [], ⟨.som r .nil, by rw [List.append_nil]; exact (List.nodup_append.mp nd).1, fun p m => nf p (by rw [List.append_nil] at m; exact List.mem_append_left _ m), dom⟩, fun q m => by rw [List.append_nil] at m; exact List.mem_append_left _ m⟩
theorem SR.only2 {a : AV} {v : V} {b : Option AV} {u : Option V} (S : SR K (some a :: b :: δ) (some v :: u :: σ) H F os) : ∃ os', SR K [some a, b] [some v, u] H F os' ∧ ∀ q ∈ os', q ∈ os := by
  obtain ⟨os1, m1, S1, back⟩ := S.frame
  obtain ⟨os2, S2, m2⟩ := S1.only
  obtain ⟨os3, S3, st3⟩ := back H F os2 _ _ (Step.refl.less m2) S2
  obtain ⟨env, nd, nf, dom⟩ := S
  cases env with
  | @som _ _ o _ _ ot r t =>
    cases t with
    | non t => exact ⟨o ++ [], ⟨.som r (.non .nil), by rw [List.append_nil]; exact (List.nodup_append.mp nd).1, fun p m => nf p (by rw [List.append_nil] at m; exact List.mem_append_left _ m), dom⟩, fun q m => by rw [List.append_nil] at m; exact List.mem_append_left _ m⟩
    | @som _ _ o2 _ _ ot2 r2 t =>
      have sub : ∀ q ∈ o ++ (o2 ++ []), q ∈ o ++ (o2 ++ ot2) := fun q m => by
        rw [List.append_nil] at m
        exact (List.mem_append.mp m).elim (List.mem_append_left _) fun z => List.mem_append_right _ (List.mem_append_left _ z)
      refine ⟨o ++ (o2 ++ []), ⟨.som r (.som r2 .nil), ?_, fun p m => nf p (sub p m), dom⟩, sub⟩
      obtain ⟨n1, n2, n3⟩ := List.nodup_append.mp nd
      rw [List.append_nil]
      exact List.nodup_append.mpr ⟨n1, (List.nodup_append.mp n2).1, fun x hx y hy e => n3 x hx y (List.mem_append_left _ hy) e⟩
end
section
variable {P : Program} {w : World} {K : PySem.W.Frag} {mg : Str → Option Value} {base : Heap} {k : Nat} {f : Addr} {fd : FuncData}
/-- a def by its body -/
theorem def_ok {x qual : Str} {params : Arguments} {body : List Stmt} {scope : Scope} {N ps : List Str} {b : Sm} (io : Bool) (F : FunD K x qual params body scope [] [] f fd) (S : FnScope N ps scope) (n m : Nat) (hn : ps.length = n) (hm : N.length = m)
    (hp : io = true → n ≠ 0)
    (hb : ∀ (cdv : Value) (A : Around) (outer : List Env) (s : Shared) (H : Hp), A.guards = some [] → Room k (A.deeper (envOfC qual scope s.heap.objs.size f cdv)) → BOk (bodyCx P w K mg base N qual scope f cdv A outer s H) (zOf io) body b) :
    FnG P w K mg base (k + 1) f fd n ps (spF K io n (defF m n io b)) := by
  refine fnG_of F S hn fun cdv A outer s H vs Q hgd hr hlen ⟨as, r, outs, F0, os, hg, SA, kk⟩ => ?_
  obtain ⟨t, pt, j⟩ := (hb cdv A outer s H hgd hr).ex
  refine ⟨t, pt, ?_⟩
  have hal : as.length = vs.length := by simpa using SA.len
  unfold defF at hg
  rw [if_pos (hal.trans hlen)] at hg
  have S0 : SR K (as.map some ++ List.replicate (m - n) none) (L2.start N vs) H F0 os := by
    unfold L2.start
    rw [hm, hlen]
    exact ⟨re_pad _ SA.env, SA.nd, SA.nf, SA.dom⟩
  have st0 : (L2.start N vs)[0]? = (vs.map some ++ List.replicate (N.length - vs.length) none)[0]? := rfl
  have fin : ∀ {δ : En} {o : List AV} {v : V} {σ' : St} {H' : Hp} {F' : Fz} {os' : List Addr} {a : AV}, outsOf io δ = some o → Fix (zOf io) (L2.start N vs) σ' → Step H F0 os H' F' os' → SR K (some a :: δ) (some v :: σ') H' F' os' → (a, o) = (r, outs) → Q v H' := by
    intro δ o v σ' H' F' os' a ho fx st S2 e
    cases e
    unfold outsOf at ho
    split at ho
    · next hio =>
      have hz : zOf io = [0] := by unfold zOf; rw [if_pos hio]
      rw [hz] at fx
      split at ho
      · next a0 dr =>
        cases ho
        cases σ' with
        | nil =>
          have := S2.len
          simp at this
        | cons u σ' =>
          obtain ⟨os3, S3, m3⟩ := S2.only2
          refine kk v H' F' os3 (st.less m3) ?_
          rw [if_pos hio]
          have h0 := fx.2 0 (by simp)
          cases vs with
          | nil => exact absurd (show n = 0 from hlen.symm) (hp hio)
          | cons v0 vr =>
            have h1 : u = some v0 := by
              have : (L2.start N (v0 :: vr))[0]? = some (some v0) := rfl
              rw [this] at h0
              simpa using h0
            subst h1
            exact S3
      · cases ho
    · next hio =>
      cases ho
      obtain ⟨os3, S3, m3⟩ := S2.only
      refine kk v H' F' os3 (st.less m3) ?_
      rw [if_neg hio]
      exact S3
  split at hg
  · next a δ he =>
    cases ho : outsOf io δ with
    | none => rw [ho] at hg; cases hg
    | some o =>
      rw [ho] at hg
      refine j _ _ he (L2.start N vs) H F0 os _ S0 fun v σ' H' F' os' fx st S2 => fin ho fx st S2 (Option.some.inj hg)
  · next δ he =>
    cases ho : outsOf io δ with
    | none => rw [ho] at hg; cases hg
    | some o =>
      rw [ho] at hg
      refine j _ _ he (L2.start N vs) H F0 os _ S0 fun σ' H' F' os' fx st S2 => fin ho fx st (S2.cons .non) (Option.some.inj hg)
  · cases hg
/-- another pure def in the place of it, where it is defined -/
theorem FnG.like {io : Bool} {n : Nat} {ps : List Str} {g g' : Fn} {j : Nat} (F : FnG P w K mg base k f fd n ps (spF K io n g)) (hj : k ≤ j) (h : ∀ as r, g' as = some r → g as = some r) : FnG P w K mg base j f fd n ps (spF K io n g') :=
  F.weak hj fun vs H Q ⟨as, r, outs, F0, os, hg, S, kk⟩ => ⟨as, r, outs, F0, os, h _ _ hg, S, kk⟩

/-! ### how arguments come to parameters -/
def pick {α : Type} (pm : List Nat) (xs : List α) : List α := pm.filterMap fun i => xs[i]?
structure BindK (fd : FuncData) (ps : List Str) (n m : Nat) (ks : List Str) (pm : List Nat) : Prop where
  to : ∀ (s : Shared) (us ws : List Value), us.length = n → ws.length = m → BindsTo s fd ⟨us, ks.zip ws⟩ (ps.zip (pick pm (us ++ ws)))
theorem bindK_of {x qual : Str} {params : Arguments} {body : List Stmt} {scope : Scope} {ps : List Str} {n m : Nat} {ks : List Str} {pm : List Nat} (F : FunD K x qual params body scope [] [] f fd)
    (h : ∀ (kV doc pv : Value) (an : Option Addr) (cdv ct : Value) (us ws : List Value), us.length = n → ws.length = m → bindArgs (PySem.W.fnOf x qual params body scope .none kV doc pv an cdv ct) ⟨us, ks.zip ws⟩ = pure (ps.zip (pick pm (us ++ ws)))) : BindK fd ps n m ks pm := by
  obtain ⟨oc, od, dV, kV, doc, pv, an, cdv, ct, osl, rfl, lk, hcd, hD, hK⟩ := F.ex
  refine ⟨fun s us ws h1 h2 => ?_⟩
  rcases hD with ⟨_, rfl⟩ | ⟨e, _⟩
  · exact .of_eq (h kV doc pv an cdv ct us ws h1 h2)
  · exact absurd rfl e
end
/-- the values of the written arguments, then of the keywords -/
structure KOk (X : Cx) (kws : List Keyword) (f : M (List PyData)) : Prop where
  ex : ∃ t, PK X kws t ∧ LJ X.K f t
section
variable {X : Cx} {Z : List Nat} {e : Expr} {pos : Pos}
theorem k_nil : KOk X [] (ret []) := ⟨tNil, pk_nil, fun δ d δ' hf σ H F os Q S k => by obtain ⟨rfl, rfl⟩ := ret_some hf; exact k [] H F os .refl S .nil⟩
theorem k_cons {nm : Option Str} {kpos : Pos} {kws : List Keyword} {f : M PyData} {g : M (List PyData)} (ha : DOk X e f) (hr : KOk X kws g) : KOk X (⟨nm, e, kpos⟩ :: kws) (lcons f g) := by
  obtain ⟨ta, pa, ja⟩ := ha.ex
  obtain ⟨tr, pr, jr⟩ := hr.ex
  refine ⟨tCons ta tr, pk_cons pa pr, fun δ ds δ' hf σ H F os Q S k => ?_⟩
  obtain ⟨d, δ1, h1, h2⟩ := bnd_some hf
  obtain ⟨dr, δ2, h3, h4⟩ := bnd_some h2
  obtain ⟨rfl, rfl⟩ := ret_some h4
  refine ja δ d δ1 h1 σ H F os _ S fun v H1 F1 os1 st1 S1 r1 => ?_
  refine jr δ1 dr _ h3 σ H1 F1 os1 _ S1 fun vs H2 F2 os2 st2 S2 r2 => ?_
  exact k (v :: vs) H2 F2 os2 (st1.trans st2) S2 (.cons (r1.step S1 st2) r2)
variable {k : Nat} {f : Addr} {fd : FuncData} {n : Nat} {ps : List Str} {sp : List V → Hp → VK → Prop} {x : Str} {p : Pos}
theorem runG {pins : List (Addr × Obj)} {σ : St} {H : Hp} {s : Shared} {Q : VK} {us ws : List Value} {vs zs : List V} {m : Nat} {ks : List Str} {pm : List Nat} (F : FnG X.prog X.w X.K X.mg X.base k f fd n ps sp) (hr : Room k X.A) (hgd : X.A.guards = some [])
    (hb : BindK fd ps vs.length m ks pm) (I : Inv X pins σ H s) (r : Vals vs us) (rz : Vals zs ws) (hm : zs.length = m) (rp : Vals (pick pm (vs ++ zs)) (pick pm (us ++ ws))) (hl : (pick pm (vs ++ zs)).length = n) (h : sp (pick pm (vs ++ zs)) H Q) :
    wpAny (model X.prog X.w) X.A (call (.ref f) us (ks.zip ws)) (EP X pins σ Q) X.xe s := by
  refine wpAny_call (codeAny_mono (F.run X.A X.stack s H ⟨us, ks.zip ws⟩ _ _ Q hgd hr I.env0 (hb.to s us ws r.length.symm (rz.length.symm.trans hm)) rp hl h) fun r s' hq => ?_)
  match r, hq with
  | .error e, hq => exact hq.elim
  | .ok (.ret u), hq => exact I.after hq
  | .ok .next, hq => exact hq.elim
  | .ok .brk, hq => exact hq.elim
  | .ok .cont, hq => exact hq.elim
theorem vals_pick {pm : List Nat} {vs : List V} {us : List Value} (r : Vals vs us) : Vals (pick pm vs) (pick pm us) := by
  unfold pick
  induction pm with
  | nil => exact .nil
  | cons i pm ih =>
    cases h : vs[i]? with
    | none => rw [List.filterMap_cons_none h, List.filterMap_cons_none (r.none_of h)]; exact ih
    | some v =>
      obtain ⟨u, h2, rv⟩ := r.get h
      rw [List.filterMap_cons_some h, List.filterMap_cons_some h2]
      exact .cons rv ih
theorem rds_pick {K : PySem.W.Frag} {F : Fz} {H : Hp} {pm : List Nat} {vs : List V} {ds : List PyData} (r : RDs K F H vs ds) : RDs K F H (pick pm vs) (pick pm ds) := by
  unfold pick
  induction pm with
  | nil => exact .nil
  | cons i pm ih =>
    cases h : ds[i]? with
    | none =>
      have h2 : vs[i]? = none := by
        rw [List.getElem?_eq_none_iff] at h ⊢
        rw [r.length]
        exact h
      rw [List.filterMap_cons_none h, List.filterMap_cons_none h2]
      exact ih
    | some d =>
      obtain ⟨v, h2, rv⟩ := rds_at r h
      rw [List.filterMap_cons_some h, List.filterMap_cons_some h2]
      exact .cons rv ih
theorem SR.consAll {K : PySem.W.Frag} {F : Fz} {H : Hp} {os : List Addr} {δ : En} {σ : St} : ∀ {ds : List PyData} {vs : List V}, RDs K F H vs ds → SR K δ σ H F os → SR K ((fzs ds).map some ++ δ) (vs.map some ++ σ) H F os
  | [], _, r, S => by cases r; exact S
  | d :: ds, _, r, S => by
    cases r with
    | cons r t => exact (SR.consAll t S).cons r
/-- f(e, .., k = e, ..): frozen things are handed in -/
def gFn (g : Fn) (na m : Nat) (pm : List Nat) (l lk : M (List PyData)) : M AV := bnd l fun ds => bnd lk fun es => opt (if ds.length = na ∧ es.length = m then (match g (fzs (pick pm (ds ++ es))) with
  | some (r, []) => some r
  | _ => none) else none)
theorem SR.beside {K : PySem.W.Frag} {F F' : Fz} {H H' : Hp} {os os' : List Addr} {δ : En} {σ : St} {r : AV} {v : V} {oa : List Addr} (S : SR K δ σ H F os) (hoa : oa = []) (st : Step H F oa H' F' os') (S' : SR K [some r] [some v] H' F' os') :
    ∃ os2, SR K (some r :: δ) (some v :: σ) H' F' os2 ∧ Step H F os H' F' os2 := by
  subst hoa
  have keep : ∀ q u, H q = some u → H' q = some u := fun q u h => st.keep q u h List.not_mem_nil
  have hnew : ∀ q ∈ os', H q = none := fun q m => (st.onew q m).resolve_left List.not_mem_nil
  have env : RE K F' H' δ σ os := S.env.apart ⟨⟨st.mono, fun q o _ h => keep q o h⟩, fun q _ u h => keep q u h⟩
  obtain ⟨e2, nd2, nf2, dom2⟩ := S'
  cases e2 with
  | @som _ _ o _ _ ot ra t =>
    cases t
    rw [List.append_nil] at nd2 nf2 hnew
    refine ⟨o ++ os, ⟨.som ra env, List.nodup_append.mpr ⟨nd2, S.nd, fun x hx y hy e => ?_⟩, fun p m => ?_, dom2⟩, ⟨fun q u h _ => keep q u h, st.mono, fun q f => ?_, fun q m => ?_, st.live⟩⟩
    · subst e
      exact S.env.there x hy (hnew x hx)
    · rcases List.mem_append.mp m with m | m
      · exact nf2 p m
      · intro f
        rcases st.fnew p f with z | z | z
        · exact S.nf p m z
        · exact absurd z List.not_mem_nil
        · exact S.env.there p m z
    · rcases st.fnew q f with z | z | z
      · exact .inl z
      · exact absurd z List.not_mem_nil
      · exact .inr (.inr z)
    · exact (List.mem_append.mp m).elim (fun z => .inr (hnew q z)) .inl
theorem ej_fn {g : Fn} {l lk : M (List PyData)} {na m : Nat} {pm : List Nat} {t tk : TA} (ja : LJ X.K l t) (jk : LJ X.K lk tk) (hpn : pm.length = n) (hpm : ∀ i ∈ pm, i < na + m) :
    EJ X.K (gFn g na m pm l lk) (fun σ H Q => t σ H fun vs H1 => tk σ H1 fun zs H2 => vs.length = na ∧ zs.length = m ∧ (pick pm (vs ++ zs)).length = n ∧ spF X.K false n g (pick pm (vs ++ zs)) H2 Q) := by
  intro δ a δ' hf σ H F0 os Q S kk
  obtain ⟨ds, δ1, h1, h2⟩ := bnd_some hf
  obtain ⟨es', δ2, h3, h4⟩ := bnd_some h2
  obtain ⟨h5, rfl⟩ := opt_some h4
  split at h5
  · next hl =>
    obtain ⟨l1, l2⟩ := hl
    refine ja δ ds δ1 h1 σ H F0 os _ S fun vs H1 F1 os1 st1 S1 r1 => ?_
    refine jk δ1 es' _ h3 σ H1 F1 os1 _ S1 fun zs H2 F2 os2 st2 S2 r2 => ?_
    have rp : RDs X.K F2 H2 (pick pm (vs ++ zs)) (pick pm (ds ++ es')) := rds_pick (rds_append (r1.step S1 st2) r2)
    have lv : vs.length = na := r1.length.trans l1
    have lz : zs.length = m := r2.length.trans l2
    have lp : (pick pm (vs ++ zs)).length = n := by
      rw [← hpn]
      have lt : ∀ i ∈ pm, i < (vs ++ zs).length := fun i h => by rw [List.length_append, lv, lz]; exact hpm i h
      clear hpm hpn rp kk h5 hf h2 h4
      unfold pick
      induction pm with
      | nil => rfl
      | cons i pm ih =>
        rw [List.filterMap_cons_some (List.getElem?_eq_getElem (lt i (List.mem_cons_self ..)))]
        exact congrArg (· + 1) (ih fun j h => lt j (List.mem_cons_of_mem _ h))
    split at h5
    · next r hgr =>
      cases h5
      refine ⟨lv, lz, lp, fzs (pick pm (ds ++ es')), a, [], F2, [], hgr, ?_, fun v H' F' os' st S' => ?_⟩
      · have := SR.consAll rp (δ := []) (σ := []) (os := []) ⟨.nil, .nil, fun p m => absurd m List.not_mem_nil, S2.dom⟩
        rw [List.append_nil, List.append_nil] at this
        exact this
      · obtain ⟨os3, S3, st3⟩ := S2.beside rfl st S'
        exact kk v H' F' os3 ((st1.trans st2).trans st3) S3
    · cases h5
  · cases h5
theorem a_call {g : Fn} {es : List Expr} {kws : List Keyword} {l lk : M (List PyData)} {na m : Nat} {ks : List Str} {pm : List Nat} (F : FnG X.prog X.w X.K X.mg X.base k f fd n ps (spF X.K false n g)) (hr : Room k X.A) (hgd : X.A.guards = some []) (hg : Gl X x) (hm : X.mg x = some (.ref f)) (hk : PySem.W.keepIn X.K (.ref f) = true)
    (hb : BindK fd ps na m ks pm) (ha : LOk X (e :: es) l) (hkw : KOk X kws lk) (hpn : pm.length = n) (hpm : ∀ i ∈ pm, i < na + m)
    (hall : (backToKw pos (keywordEach kws X.env)).all (·.1.isSome) = true := by rfl) (hks : (backToKw pos (keywordEach kws X.env)).filterMap (·.1) = ks := by rfl)
    (hdb : (x == ("__debug__" : Str)) = false := by decide) (he : starEach (e :: es) X.env = (false, eval e X.env) :: starEach es X.env := by rfl)
    (hpl : ((backTo pos (starEach (e :: es) X.env)).any (·.1) || (backToKw pos (keywordEach kws X.env)).any (·.1.isNone)) = false := by rfl) :
    AOk X (.Call (.Name x p) (e :: es) kws pos) (gFn g na m pm l lk) := by
  obtain ⟨t, pa, ja⟩ := ha.ex
  obtain ⟨tk, pk, jk⟩ := hkw.ex
  refine ⟨_, ⟨fun pins s σ H Q I h => ?_⟩, ej_fn (n := n) ja jk hpn hpm⟩
  refine wpAny_Call_Name_kw (ld_glob I hg hm ?_ hdb)
  refine PySem.W.callWith_KW (h₀ := X.base) I.ok.mod.kin hk hall (thn (pa.run pos pins s σ H _ I h) fun us s1 ⟨vs, H1, I1, r1, q⟩ => ?_) hpl he
  refine thn (pk.run pos pins s1 σ H1 _ I1 q) fun ws s2 ⟨zs, H2, I2, rz, l1, l2, l3, q2⟩ => ⟨I2.kIn, ?_⟩
  rw [hks]
  subst l1
  exact runG F hr hgd hb I2 r1 rz l2 (vals_pick (r1.append rz)) l3 q2
theorem a_call0 {g : Fn} {kws : List Keyword} {lk : M (List PyData)} {m : Nat} {ks : List Str} {pm : List Nat} (F : FnG X.prog X.w X.K X.mg X.base k f fd n ps (spF X.K false n g)) (hr : Room k X.A) (hgd : X.A.guards = some []) (hg : Gl X x) (hm : X.mg x = some (.ref f)) (hk : PySem.W.keepIn X.K (.ref f) = true)
    (hb : BindK fd ps 0 m ks pm) (hkw : KOk X kws lk) (hpn : pm.length = n) (hpm : ∀ i ∈ pm, i < 0 + m)
    (hall : (backToKw pos (keywordEach kws X.env)).all (·.1.isSome) = true := by rfl) (hks : (backToKw pos (keywordEach kws X.env)).filterMap (·.1) = ks := by rfl)
    (hdb : (x == ("__debug__" : Str)) = false := by decide)
    (hpl : ((backTo pos (starEach [] X.env)).any (·.1) || (backToKw pos (keywordEach kws X.env)).any (·.1.isNone)) = false := by rfl) :
    AOk X (.Call (.Name x p) [] kws pos) (gFn g 0 m pm (ret []) lk) := by
  obtain ⟨tk, pk, jk⟩ := hkw.ex
  have j0 : LJ X.K (ret []) tNil := fun δ d δ' hf σ H F os Q S k => by obtain ⟨rfl, rfl⟩ := ret_some hf; exact k [] H F os .refl S .nil
  refine ⟨_, ⟨fun pins s σ H Q I h => ?_⟩, ej_fn (n := n) j0 jk hpn hpm⟩
  refine wpAny_Call_Name_kw (ld_glob I hg hm ?_ hdb)
  refine PySem.W.callWith_KW0 (h₀ := X.base) I.ok.mod.kin hk hall (thn (pk.run pos pins s σ H _ I h) fun ws s2 ⟨zs, H2, I2, rz, l1, l2, l3, q2⟩ => ⟨I2.kIn, ?_⟩) hpl
  rw [hks]
  exact runG (vs := []) (us := []) F hr hgd hb I2 .nil rz l2 (vals_pick rz) l3 q2

/-! ### the first argument is a list of our own, or the script -/
/-- f(x, e, ..), x a slot's list that f may change -/
def gFnP (g : Fn) (i na : Nat) (l : M (List PyData)) : M AV := fun δ => match δ[i]? with
  | some (some (.ow _)) => (match l δ with
    | some (ds, δ1) => (match δ1[i]? with
      | some (some (.ow xs)) => if ds.length = na then (match g (.ow xs :: fzs ds) with
        | some (r, [p]) => some (r, δ1.set i (some p))
        | _ => none) else none
      | _ => none)
    | none => none)
  | _ => none
theorem perm_id {α : Type} (xs : List α) : pick (List.range xs.length) xs = xs := by
  unfold pick
  apply List.ext_getElem?
  intro i
  have : (List.range xs.length).filterMap (fun i => xs[i]?) = xs := by
    induction xs with
    | nil => rfl
    | cons x xs ih =>
      rw [List.length_cons, List.range_succ_eq_map, List.filterMap_cons_some (b := x) (by simp), List.filterMap_map]
      congr 1
  rw [this]
theorem a_callP (i : Nat) {g : Fn} {y : Str} {p2 : Pos} {es : List Expr} {l : M (List PyData)} {na : Nat} (F : FnG X.prog X.w X.K X.mg X.base k f fd (na + 1) ps (spF X.K true (na + 1) g)) (hr : Room k X.A) (hgd : X.A.guards = some []) (hg : Gl X x) (hm : X.mg x = some (.ref f)) (hk : PySem.W.keepIn X.K (.ref f) = true)
    (hb : BindK fd ps (na + 1) 0 [] (List.range (na + 1))) (ha : LOk X es l)
    (hN : X.N[i]? = some y := by rfl) (hv : Vis X.env.scope y := by first | exact Or.inl rfl | exact Or.inr (Or.inl rfl) | exact Or.inr (Or.inr rfl))
    (hd : (y == ("__debug__" : Str)) = false := by decide) (hcd : (y == ("__classdict__" : Str)) = false := by decide)
    (hdb : (x == ("__debug__" : Str)) = false := by decide) (he : starEach (.Name y p2 :: es) X.env = (false, eval (.Name y p2) X.env) :: starEach es X.env := by rfl)
    (hpl : ((backTo pos (starEach (.Name y p2 :: es) X.env)).any (·.1) || (backToKw pos (keywordEach [] X.env)).any (·.1.isNone)) = false := by rfl) :
    AOk X (.Call (.Name x p) (.Name y p2 :: es) [] pos) (gFnP g i na l) := by
  obtain ⟨t, pa, ja⟩ := ha.ex
  refine ⟨fun σ H Q => tCons (tVar i) t σ H fun vs H1 => vs.length = na + 1 ∧ spF X.K true (na + 1) g vs H1 Q, ⟨fun pins s σ H Q I h => ?_⟩, fun δ a δ' hf σ H F0 os Q S kk => ?_⟩
  · refine wpAny_Call_Name_kw (ld_glob I hg hm ?_ hdb)
    have pc := pa_cons (pe_var (pos := p2) hN hv hd hcd) pa he
    refine PySem.W.callWith_KW (h₀ := X.base) I.ok.mod.kin hk rfl (thn (pc.run pos pins s σ H _ I h) fun us s1 ⟨vs, H1, I1, r1, l1, q⟩ => ?_) hpl he
    refine wpAny_evalAll_nil ⟨I1.kIn, ?_⟩
    have e1 : pick (List.range (na + 1)) (vs ++ []) = vs := by rw [List.append_nil, ← l1]; exact perm_id vs
    have e2 : pick (List.range (na + 1)) (us ++ []) = us := by rw [List.append_nil, ← l1, r1.length]; exact perm_id us
    have hb' : BindK fd ps vs.length 0 [] (List.range (na + 1)) := by rw [l1]; exact hb
    exact runG (us := us) (zs := []) (ws := []) (ks := []) F hr hgd hb' I1 r1 .nil rfl (by rw [e1, e2]; exact r1) (by rw [e1]; exact l1) (by rw [e1]; exact q)
  · unfold gFnP at hf
    split at hf
    · next h0 =>
      obtain ⟨v, _, hv1, _, _⟩ := S.at_ h0
      split at hf
      · next ds δ1 h1 =>
        split at hf
        · next xs h =>
          split at hf
          · next hl =>
            split at hf
            · next r po hgr =>
              cases hf
              refine ⟨v, hv1, ?_⟩
              refine ja δ ds δ1 h1 σ H F0 os _ S fun vs H1 F1 os1 st1 S1 r1 => ?_
              obtain ⟨w, osm, h2, S2, m2⟩ := S1.move h
              have ew : w = v := by rw [hv1] at h2; cases h2; rfl
              subst ew
              obtain ⟨osa, S3, aside⟩ := S2.aside
              have S4 : SR X.K ((AV.ow xs :: fzs ds).map some) ((w :: vs).map some) H1 F1 osa := by
                obtain ⟨env3, nd3, nf3, dom3⟩ := S3
                cases env3 with
                | som ra t3 =>
                  cases t3
                  have tail : ∀ {ds : List PyData} {vs : List V}, RDs X.K F1 H1 vs ds → RE X.K F1 H1 ((fzs ds).map some) (vs.map some) [] := by
                    intro ds
                    induction ds with
                    | nil => intro vs r; cases r; exact .nil
                    | cons d ds ih => intro vs r; cases r with | cons r t => exact .som (.fz r) (ih t)
                  exact ⟨.som ra (tail r1), nd3, nf3, dom3⟩
              refine ⟨by rw [List.length_cons, r1.length, hl], _, a, [po], F1, osa, hgr, S4, fun u H' F' os' st S' => ?_⟩
              have S' : SR X.K [some a, some po] [some u, some w] H' F' os' := S'
              obtain ⟨os5, S5, st5⟩ := aside H' F' os' _ _ st S'
              have S5 : SR X.K (some a :: some po :: δ1.set i none) (some u :: some w :: σ) H' F' os5 := S5
              obtain ⟨os6, S6, m6⟩ := S5.swap
              obtain ⟨os7, S7, m7⟩ := S6.put (i := i + 1)
              simp only [List.set_cons_succ] at S7
              rw [List.set_set, set_self hv1] at S7
              refine kk u H' F' os7 (st1.trans ((st5.more fun q z => (m2 q).mp z).less fun q z => m6 q (m7 q z))) S7
            · cases hf
          · cases hf
        · cases hf
      · cases hf
    · cases hf
theorem re_fzs {K : PySem.W.Frag} {F : Fz} {H : Hp} : ∀ {ds : List PyData} {vs : List V}, RDs K F H vs ds → RE K F H ((fzs ds).map some) (vs.map some) []
  | [], _, r => by cases r; exact .nil
  | d :: ds, _, r => by cases r with | cons r t => exact .som (.fz r) (re_fzs t)
theorem SR.withAll {K : PySem.W.Frag} {F : Fz} {H : Hp} {os : List Addr} {a : AV} {v : V} {ds : List PyData} {vs : List V} (S : SR K [some a] [some v] H F os) (r : RDs K F H vs ds) : SR K ((a :: fzs ds).map some) ((v :: vs).map some) H F os := by
  obtain ⟨env, nd, nf, dom⟩ := S
  cases env with
  | som ra t =>
    cases t
    exact ⟨.som ra (re_fzs r), nd, nf, dom⟩
theorem callG_pe {es : List Expr} {t0 : TA} {e0 : Expr} {na : Nat} {P0 : List V → Hp → VK → Prop} (F : FnG X.prog X.w X.K X.mg X.base k f fd (na + 1) ps P0) (hr : Room k X.A) (hgd : X.A.guards = some []) (hg : Gl X x) (hm : X.mg x = some (.ref f)) (hk : PySem.W.keepIn X.K (.ref f) = true)
    (hb : BindK fd ps (na + 1) 0 [] (List.range (na + 1))) (pc : PA X (e0 :: es) t0)
    (hdb : (x == ("__debug__" : Str)) = false) (he : starEach (e0 :: es) X.env = (false, eval e0 X.env) :: starEach es X.env)
    (hpl : ((backTo pos (starEach (e0 :: es) X.env)).any (·.1) || (backToKw pos (keywordEach [] X.env)).any (·.1.isNone)) = false) :
    PE X (.Call (.Name x p) (e0 :: es) [] pos) (fun σ H Q => t0 σ H fun vs H1 => vs.length = na + 1 ∧ P0 vs H1 Q) := by
  refine ⟨fun pins s σ H Q I h => ?_⟩
  refine wpAny_Call_Name_kw (ld_glob I hg hm ?_ hdb)
  refine PySem.W.callWith_KW (h₀ := X.base) I.ok.mod.kin hk rfl (thn (pc.run pos pins s σ H _ I h) fun us s1 ⟨vs, H1, I1, r1, l1, q⟩ => ?_) hpl he
  refine wpAny_evalAll_nil ⟨I1.kIn, ?_⟩
  have e1 : pick (List.range (na + 1)) (vs ++ []) = vs := by rw [List.append_nil, ← l1]; exact perm_id vs
  have e2 : pick (List.range (na + 1)) (us ++ []) = us := by rw [List.append_nil, ← l1, r1.length]; exact perm_id us
  have hb' : BindK fd ps vs.length 0 [] (List.range (na + 1)) := by rw [l1]; exact hb
  exact runG (us := us) (zs := []) (ws := []) (ks := []) F hr hgd hb' I1 r1 .nil rfl (by rw [e1, e2]; exact r1) (by rw [e1]; exact l1) (by rw [e1]; exact q)
/-- f(e0, e, ..), e0's list is f's to change, and is dropped behind it -/
def gFnT (g : Fn) (na : Nat) (f0 : M AV) (l : M (List PyData)) : M AV := fun δ => match f0 δ with
  | some (a, δ1) => (match l δ1 with
    | some (ds, δ2) => if ds.length = na then (match g (a :: fzs ds) with
      | some (r, [_]) => some (r, δ2)
      | _ => none) else none
    | none => none)
  | none => none
theorem a_callT {g : Fn} {e0 : Expr} {es : List Expr} {f0 : M AV} {l : M (List PyData)} {na : Nat} (F : FnG X.prog X.w X.K X.mg X.base k f fd (na + 1) ps (spF X.K true (na + 1) g)) (hr : Room k X.A) (hgd : X.A.guards = some []) (hg : Gl X x) (hm : X.mg x = some (.ref f)) (hk : PySem.W.keepIn X.K (.ref f) = true)
    (hb : BindK fd ps (na + 1) 0 [] (List.range (na + 1))) (h0 : AOk X e0 f0) (ha : LOk X es l)
    (hdb : (x == ("__debug__" : Str)) = false := by decide) (he : starEach (e0 :: es) X.env = (false, eval e0 X.env) :: starEach es X.env := by rfl)
    (hpl : ((backTo pos (starEach (e0 :: es) X.env)).any (·.1) || (backToKw pos (keywordEach [] X.env)).any (·.1.isNone)) = false := by rfl) :
    AOk X (.Call (.Name x p) (e0 :: es) [] pos) (gFnT g na f0 l) := by
  obtain ⟨t0, p0, j0⟩ := h0.ex
  obtain ⟨t, pa, ja⟩ := ha.ex
  refine ⟨_, callG_pe F hr hgd hg hm hk hb (pa_cons p0 pa he) hdb he hpl, fun δ a δ' hf σ H F0 os Q S kk => ?_⟩
  unfold gFnT at hf
  split at hf
  · next a0 δ1 h1 =>
    split at hf
    · next ds δ2 h2 =>
      split at hf
      · next hl =>
        split at hf
        · next r po hgr =>
          cases hf
          refine j0 δ a0 δ1 h1 σ H F0 os _ S fun v H1 F1 os1 st1 S1 => ?_
          obtain ⟨osf, mf, Sf, back⟩ := S1.frame
          refine ja δ1 ds _ h2 σ H1 F1 osf _ Sf fun vs H2 F2 os2 st2 S2 r2 => ?_
          obtain ⟨os3, S3, st3⟩ := back H2 F2 os2 _ _ st2 S2
          obtain ⟨osa, S4, aside⟩ := S3.aside
          refine ⟨by rw [List.length_cons, r2.length, hl], _, a, [po], F2, osa, hgr, S4.withAll r2, fun u H' F' os' st S' => ?_⟩
          have S' : SR X.K [some a, some po] [some u, some v] H' F' os' := S'
          obtain ⟨os5, S5, st5⟩ := aside H' F' os' _ _ st S'
          have S5 : SR X.K (some a :: some po :: _) (some u :: some v :: σ) H' F' os5 := S5
          obtain ⟨os6, S6, m6⟩ := S5.swap
          obtain ⟨os7, m7, S7⟩ := S6.drop
          exact kk u H' F' os7 ((st1.trans st3).trans (st5.less fun q z => m6 q (m7 q z))) S7
        · cases hf
      · cases hf
    · cases hf
  · cases hf
/-- f(x, e, ..), x the script -/
def gFnS (g : Fn) (i na : Nat) (l : M (List PyData)) : M AV := fun δ => match δ[i]? with
  | some (some (.sc ns)) => (match l δ with
    | some (ds, δ1) => if ds.length = na then (match g (.sc ns :: fzs ds) with
      | some (r, []) => some (r, δ1)
      | _ => none) else none
    | none => none)
  | _ => none
theorem a_callS (i : Nat) {g : Fn} {y : Str} {p2 : Pos} {es : List Expr} {l : M (List PyData)} {na : Nat} (F : FnG X.prog X.w X.K X.mg X.base k f fd (na + 1) ps (spF X.K false (na + 1) g)) (hr : Room k X.A) (hgd : X.A.guards = some []) (hg : Gl X x) (hm : X.mg x = some (.ref f)) (hk : PySem.W.keepIn X.K (.ref f) = true)
    (hb : BindK fd ps (na + 1) 0 [] (List.range (na + 1))) (ha : LOk X es l)
    (hN : X.N[i]? = some y := by rfl) (hv : Vis X.env.scope y := by first | exact Or.inl rfl | exact Or.inr (Or.inl rfl) | exact Or.inr (Or.inr rfl))
    (hd : (y == ("__debug__" : Str)) = false := by decide) (hcd : (y == ("__classdict__" : Str)) = false := by decide)
    (hdb : (x == ("__debug__" : Str)) = false := by decide) (he : starEach (.Name y p2 :: es) X.env = (false, eval (.Name y p2) X.env) :: starEach es X.env := by rfl)
    (hpl : ((backTo pos (starEach (.Name y p2 :: es) X.env)).any (·.1) || (backToKw pos (keywordEach [] X.env)).any (·.1.isNone)) = false := by rfl) :
    AOk X (.Call (.Name x p) (.Name y p2 :: es) [] pos) (gFnS g i na l) := by
  obtain ⟨t, pa, ja⟩ := ha.ex
  refine ⟨_, callG_pe F hr hgd hg hm hk hb (pa_cons (pe_var hN hv hd hcd) pa he) hdb he hpl, fun δ a δ' hf σ H F0 os Q S kk => ?_⟩
  unfold gFnS at hf
  split at hf
  · next ns h0 =>
    obtain ⟨v, o, hv1, r0, m0⟩ := S.at_ h0
    split at hf
    · next ds δ1 h1 =>
      split at hf
      · next hl =>
        split at hf
        · next r hgr =>
          cases hf
          refine ⟨v, hv1, ?_⟩
          refine ja δ ds _ h1 σ H F0 os _ S fun vs H1 F1 os1 st1 S1 r1 => ?_
          have Sa : SR X.K [some (AV.sc ns)] [some v] H1 F1 [] := by
            cases r0 with
            | sc q => exact ⟨.som (.sc (q.ext (st1.ext S.nf))) .nil, .nil, fun p m => absurd m List.not_mem_nil, S1.dom⟩
          refine ⟨by rw [List.length_cons, r1.length, hl], _, a, [], F1, [], hgr, Sa.withAll r1, fun u H' F' os' st S' => ?_⟩
          obtain ⟨os5, S5, st5⟩ := S1.beside rfl st S'
          exact kk u H' F' os5 (st1.trans st5) S5
        · cases hf
      · cases hf
    · cases hf
  · cases hf
end
/-! ### the law itself -/
section
variable {P : Program} {w : World} {K : PySem.W.Frag} {mg mb : Str → Option Value} {k : Nat} {fa a : Addr} {fd : FuncData} {x : Str} {s1 : Shared} {vs : List Value} {ns : List Int} {g : Fn}
/-- the law's def is entered; H tracks the script at most -/
theorem enter (H : Hp) (KX : K.In s1.heap) (hns : s1.heap.Ns mainGlobals mg) (hb : s1.heap.Ns builtinsNs mb) (hbb : ∀ x : Str, x ≠ "__name__" → mb x = bootBuiltins x) (hlim : s1.heap.NoLimit) (hgens : s1.gens = #[])
    (ha : s1.heap.get? a = some { cls := .type "list", data := .seq vs.toArray }) (hr : Room k callerA) (Fg : ∀ base : Heap, K.In base → base.Ns mainGlobals mg → FnG P w K mg base k fa fd 1 [x] (spF K false 1 g))
    (hbind : ∀ (s : Shared) (u : Value), BindsTo s fd ⟨[u], []⟩ [(x, u)]) (hq : ∃ F : Fz, QL K F H a (ns.map V.int) ∧ ∀ q, F q → H q ≠ none) (hg : g [.sc ns] = some (.fz (.bool true), []))
    (ok : HOk P w H s1.heap) (one : ∀ b, H b ≠ none → b = a ∧ K.lookup a = none ∧ ∃ o xs, H b = some (.frz o (.lst xs))) :
    codeAny (model P w) callerA (.call (.ref fa) ⟨[.ref a], []⟩) (fun r s' => r = .ok (.ret (.bool true)) ∧ OldK s1.heap s'.heap ∧ s'.os = s1.os ∧ AllBare s'.gens) s1 := by
  have un : ∀ {b : Addr} {o : Obj} {es : Array DictEntry} {ep : Nat}, s1.heap.get? b = some o → o.data = .dict es ep → H b = none := fun {b o es ep} e d => Classical.byContradiction fun n => by
    obtain ⟨rfl, _⟩ := one b n
    rw [ha] at e
    cases e
    cases (show Data.seq vs.toArray _ = Data.dict es ep from d)
  have ns' : ∀ {b : Addr} {m : Str → Option Value}, s1.heap.Ns b m → (hidT s1.heap H).Ns b m := fun ⟨o, es, ep, e, d, r⟩ => ⟨o, es, ep, hidT_get e (un e d), d, r⟩
  have kin : K.In (hidT s1.heap H) := fun b o e => hidT_get (KX b o e) (Classical.byContradiction fun n => by
    obtain ⟨rfl, q, _⟩ := one b n
    rw [q] at e
    cases e)
  obtain ⟨mc, l1, l2⟩ := hlim
  have e0 : Env0 P w K mg (hidT s1.heap H) callerA [] s1 H :=
    ⟨rfl, ⟨kin, ns' hns, ⟨mb, ns' hb, hbb⟩, ⟨mc, ns' l1, l2⟩⟩, fun b o e => of_hidT e, Nat.le_of_eq (hidT_size _ _), trivial, fun b m => absurd (show b ∈ ([] : List Addr) from m) List.not_mem_nil, ok, .of_eq hgens⟩
  obtain ⟨F, q, dom⟩ := hq
  have S : SR K [some (AV.sc ns)] [some (V.ref a)] H F [] := ⟨.som (.sc q) .nil, .nil, fun p m => absurd m List.not_mem_nil, dom⟩
  have sp : spF K false 1 g [.ref a] H fun v _ => v = .bl true := ⟨[.sc ns], _, [], F, [], hg, S, fun v H' F' os' st S' => by
    obtain ⟨env, _, _, _⟩ := S'
    cases env with
    | som r t =>
      cases r with
      | fz r => cases r; rfl⟩
  refine codeAny_mono ((Fg _ kin (ns' hns)).run callerA [] s1 H ⟨[.ref a], []⟩ [.ref a] [.ref a] _ rfl hr e0 (hbind s1 (.ref a)) (.cons rfl .nil) rfl sp) fun r s' h => ?_
  match r, h with
  | .error e, h => exact h.elim
  | .ok .next, h => exact h.elim
  | .ok .brk, h => exact h.elim
  | .ok .cont, h => exact h.elim
  | .ok (.ret u), ⟨v, H', os, bare, u2, ok2, rv, qv⟩ =>
    have qv : v = .bl true := qv
    subst qv
    have ru : u = Value.bool true := rv
    subst ru
    refine ⟨rfl, OldK.of_keep fun b o e => ?_, os, bare⟩
    by_cases n : H b = none
    · exact u2.keep b o e n List.not_mem_nil List.not_mem_nil
    · obtain ⟨_, _, o2, xs, z⟩ := one b n
      obtain ⟨e1, _⟩ := ok b _ z
      obtain ⟨e2, _⟩ := ok2 b _ (u2.frzs b o2 _ z)
      rw [e] at e1
      cases e1
      exact e2
theorem law_run (KX : K.In s1.heap) (hns : s1.heap.Ns mainGlobals mg) (hb : s1.heap.Ns builtinsNs mb) (hbb : ∀ x : Str, x ≠ "__name__" → mb x = bootBuiltins x) (hlim : s1.heap.NoLimit) (hgens : s1.gens = #[])
    (ha : s1.heap.get? a = some { cls := .type "list", data := .seq vs.toArray }) (hi : IntsAre vs ns) (hl : ns.length ≤ sizeLine) (hr : Room k callerA) (Fg : ∀ base : Heap, K.In base → base.Ns mainGlobals mg → FnG P w K mg base k fa fd 1 [x] (spF K false 1 g))
    (hbind : ∀ (s : Shared) (u : Value), BindsTo s fd ⟨[u], []⟩ [(x, u)]) (hg : g [.sc ns] = some (.fz (.bool true), [])) :
    codeAny (model P w) callerA (.call (.ref fa) ⟨[.ref a], []⟩) (fun r s' => r = .ok (.ret (.bool true)) ∧ OldK s1.heap s'.heap ∧ s'.os = s1.os ∧ AllBare s'.gens) s1 := by
  have rv := vals_ints hi
  have lv := hi.length
  cases hk : K.lookup a with
  | some o =>
    have e := KX a o hk
    rw [ha] at e
    cases e
    exact enter (fun _ => none) KX hns hb hbb hlim hgens ha hr Fg hbind ⟨fun _ => False, .inr fun H' => .inr ⟨_, vs.toArray, _, hk, rfl, rfl, rfl, by rw [List.size_toArray, lv]; exact hl, by simpa using rv⟩, fun q f => f.elim⟩ hg
      (fun b u z => by cases (show (none : Option HO) = some u from z)) fun b n => absurd rfl n
  | none =>
    refine enter (fun b => if b = a then some (.frz { cls := .type "list", data := .seq vs.toArray } (.lst (ns.map V.int))) else none) KX hns hb hbb hlim hgens ha hr Fg hbind
      ⟨fun q => q = a, .inl ⟨rfl, .inl (.inr ⟨{ cls := .type "list", data := .seq vs.toArray }, if_pos rfl⟩)⟩, fun q f z => ?_⟩ hg (fun b u z => ?_) fun b n => ?_
    · rw [if_pos f] at z
      cases z
    · by_cases e : b = a
      · have z' := (if_pos e).symm.trans z
        cases z'
        subst e
        exact ⟨ha, by rw [List.length_map]; exact hl, vs, _, rv, ha⟩
      · have z' := (if_neg e).symm.trans z
        cases z'
    · by_cases e : b = a
      · exact ⟨e, hk, _, _, if_pos e⟩
      · exact absurd (if_neg e) n
theorem law_ok {l : PySem.W.OpenLaw} {n : Nat} {q : Program} {loose : List Str} {XP : (Str → Option Value) → Heap → Prop} {YP : World → Heap → Prop} {d : DefRec}
    (hn : l.most = some n) (hn2 : n ≤ sizeLine) (hdf : d.params.defaults = []) (hr : Room k callerA)
    (Fs : ∀ (w : World) (mg : Str → Option Value) (fa : Addr) (h : Heap), YP w h → h.Ns mainGlobals mg → mg d.name = some (.ref fa) →
      ∃ (K : PySem.W.Frag) (fd : FuncData), K.In h ∧ (∀ (s : Shared) (u : Value), BindsTo s fd ⟨[u], []⟩ [(x, u)]) ∧
        ∀ base : Heap, K.In base → base.Ns mainGlobals mg → FnG l.prog w K mg base k fa fd 1 [x] (spF K false 1 g))
    (hg : ∀ ns : List Int, ns.length ≤ n → g [.sc ns] = some (.fz (.bool true), [])) :
    PySem.W.WalkO q loose XP YP l.row.toRowW d [] (fun f vs => PySem.call f vs) := by
  refine Att.attach_call hn hdf fun w s₀ s₁ mg mb fa o pm cd doc a vs ns G Y ho hd hcd hmg hobj hints hlen hgens => ?_
  obtain ⟨K, fd, KX, hb, hF⟩ := Fs w mg fa _ Y G.T.g hmg
  exact law_run KX G.T.g G.T.b G.T.builtins G.T.nolimit hgens hobj hints (Nat.le_trans hlen hn2) hr hF hb (hg ns hlen)
end
end Pv

namespace Pv
open PySem PySem.Spec L2
open PyProof.Rows hiding St
/-! Pv9: repr, zip and enumerate of lists and tuples, more targets -/
section
variable {X : Cx} {Z : List Nat} {e a b : Expr} {pos : Pos}
/-! ### repr -/
def flatK : List (PyData × PyData) → Bool
  | [] => true
  | _ => false
mutual
/-- no dict within -/
def noDct : PyData → Bool
  | .list ds => noDcts ds
  | .tuple ds => noDcts ds
  | .dict _ => false
  | _ => true
def noDcts : List PyData → Bool
  | [] => true
  | d :: r => noDct d && noDcts r
end
mutual
theorem noDct_has : ∀ d : PyData, noDct d = true → d.hasDict = false
  | .none, _ => rfl
  | .bool _, _ => rfl
  | .int _, _ => rfl
  | .str _, _ => rfl
  | .list ds, h => noDcts_has ds h
  | .tuple ds, h => noDcts_has ds h
  | .dict _, h => by cases h
theorem noDcts_has : ∀ d : List PyData, noDcts d = true → PyData.hasDictAll d = false
  | [], _ => rfl
  | d :: ds, h => by
    have h2 := Bool.and_eq_true_iff.mp (show (noDct d && noDcts ds) = true from h)
    show (d.hasDict || PyData.hasDictAll ds) = false
    rw [noDct_has d h2.1, noDcts_has ds h2.2]
    rfl
end
section
variable {pins : List (Addr × Obj)} {σ : St} {H : Hp} {s : Shared} {F : Fz}
mutual
theorem rd_reads (I : L2.Inv X pins σ H s) : ∀ (d : PyData) (v : V) (u : Value), RD X.K F H v d → RelV v u → noDct d = true → ∃ as, Reads s.heap u d as
  | .none, v, u, r, q, _ => by cases r; cases q; exact ⟨_, .none⟩
  | .bool b, v, u, r, q, _ => by cases r; cases q; exact ⟨_, .bool b⟩
  | .int i, v, u, r, q, _ => by cases r; obtain ⟨t, rfl⟩ := q; exact ⟨_, .int i t⟩
  | .str x, v, u, r, q, _ => by cases r; obtain ⟨t, rfl⟩ := q; exact ⟨_, .str x t⟩
  | .list ds, v, u, r, q, n => by
    obtain ⟨p, ws, rfl, _, hp, r2⟩ := rd_lst r
    cases q
    obtain ⟨its, rv, ⟨o, m, ho, hc, _, hd⟩, _⟩ := I.list (SqL.of hp)
    obtain ⟨as, h⟩ := rds_reads I ds _ its r2 rv n
    exact ⟨_, .list ho hc hd h⟩
  | .tuple ds, v, u, r, q, n => by
    obtain ⟨p, ws, rfl, hp, r2⟩ := rd_tup r
    cases q
    obtain ⟨its, rv, ⟨o, ho, hc, m, hd⟩, _⟩ := I.tuple hp.sq
    obtain ⟨as, h⟩ := rds_reads I ds _ its r2 rv n
    exact ⟨_, .tuple ho hc hd h⟩
  | .dict _, v, u, r, q, n => by cases n
theorem rds_reads (I : L2.Inv X pins σ H s) : ∀ (d : List PyData) (v : List V) (u : List Value), RDs X.K F H v d → Vals v u → noDcts d = true → ∃ as, ReadsAll s.heap u d as
  | [], v, u, r, q, _ => by cases r; cases q; exact ⟨_, .nil⟩
  | d :: ds, v, u, r, q, n => by
    have n2 := Bool.and_eq_true_iff.mp (show (noDct d && noDcts ds) = true from n)
    cases r with
    | cons r1 r2 =>
      cases q with
      | cons q1 q2 =>
        obtain ⟨as, h1⟩ := rd_reads I d _ _ r1 q1 n2.1
        obtain ⟨bs, h2⟩ := rds_reads I ds _ _ r2 q2 n2.2
        exact ⟨_, .cons h1 h2⟩
end
theorem rd_reads_dct (I : L2.Inv X pins σ H s) {v : V} {u : Value} (r : RD X.K F H v (.dict [])) (q : RelV v u) : ∃ as, Reads s.heap u (.dict []) as ∧ sysModules ∉ as := by
  cases r with
  | @dct a kvs _ f h rk =>
    cases rk
    cases q
    obtain ⟨_, ns, vs, kv, o, es, ep, h1, h2, h3, _, hp, _⟩ := I.hok a _ h
    have hl := kv.length
    have he : es.toList = [] := by
      have l2 := Pairs.length hp
      have : vs.length = 0 := hl.symm
      exact List.eq_nil_of_length_eq_zero (by omega)
    refine ⟨a :: [] ++ [], .dict h1 h2.1 h3 (by rw [he]; exact .nil) (by rw [he]; exact .nil), fun m => ?_⟩
    have e : sysModules = a := by simpa using m
    rw [← e] at ns
    cases ns
end
def reprOk (d : PyData) : Bool := (noDct d || (match d with | .dict [] => true | _ => false)) && (d.showable && (decide (d.depth ≤ 60) && decide (d.shown.length ≤ lim)))
def reprD : List PyData → Option AV
  | [d] => if reprOk d = true then some (.fz (.str d.shown)) else none
  | _ => none
theorem c_repr (hgd : X.A.guards = some []) (hu : X.A.units + 64 < cLine) : CallA X (.builtin "repr") reprD := by
  refine ⟨fun vs H Q => ∃ v d F, vs = [v] ∧ RD X.K F H v d ∧ reprOk d = true ∧ Q (.str d.shown) H, ?_, fun ds z hz vs H F Q dom r k => ?_⟩
  · rintro pins s σ H vs us Q I rv ⟨v, d, F, rfl, r, ok, q⟩
    obtain ⟨u, rfl, ru⟩ := vals1 rv
    obtain ⟨o1, o2⟩ := Bool.and_eq_true_iff.mp ok
    obtain ⟨o2, o3⟩ := Bool.and_eq_true_iff.mp o2
    obtain ⟨o3, o4⟩ := Bool.and_eq_true_iff.mp o3
    have o3 := of_decide_eq_true o3
    have o4 := Nat.le_trans (of_decide_eq_true o4) lim_line
    have big : ∀ {a : Addr} {as : List Addr}, u = .ref a → Reads s.heap (.ref a) d as → (d.hasDict = true → sysModules ∉ as) → wpAny (model X.prog X.w) X.A (call (.builtin "repr") [u]) (EP X pins σ Q) X.xe s := fun {a as} e rr hs => by
      rw [e]
      exact repr_of_reads' rr o2 hs hgd (by omega) (fun _ _ z => z) (fun h' u2 tk kept => ⟨.str d.shown, H, I.kept kept, ⟨_, rfl⟩, q⟩) o4
    cases r with
    | non => cases ru; exact PySem.P.repr_of_none ⟨.str _, H, I.tok _, ⟨_, rfl⟩, q⟩
    | bl b => cases ru; exact PySem.P.repr_of_bool ⟨.str _, H, I.tok _, ⟨_, rfl⟩, q⟩
    | int i =>
      obtain ⟨t, rfl⟩ := ru
      exact PySem.P.repr_of_int (of_decide_eq_true (by simpa [PyData.showable] using o2)) ⟨.str _, H, I.tok _, ⟨_, rfl⟩, q⟩
    | str x => obtain ⟨t, rfl⟩ := ru; exact PySem.P.repr_of_str ⟨.str _, H, I.tok _, ⟨_, rfl⟩, q⟩ o4
    | @lst _ _ dl f h r =>
      have n : noDct (.list dl) = true := by simpa using o1
      obtain ⟨as, rr⟩ := rd_reads I _ _ u (RD.lst f h r) ru n
      have eu : u = .ref _ := ru
      subst eu
      exact big rfl rr fun z => by rw [noDct_has _ n] at z; cases z
    | @tup _ _ dl h r =>
      have n : noDct (.tuple dl) = true := by simpa using o1
      obtain ⟨as, rr⟩ := rd_reads I _ _ u (RD.tup h r) ru n
      have eu : u = .ref _ := ru
      subst eu
      exact big rfl rr fun z => by rw [noDct_has _ n] at z; cases z
    | @dct a kvs ds f h rk =>
      cases ds with
      | nil =>
        obtain ⟨as, rr, ns⟩ := rd_reads_dct I (RD.dct f h rk) ru
        have eu : u = .ref _ := ru
        subst eu
        exact big rfl rr fun _ => ns
      | cons x xs => exact absurd o1 (by simp [noDct])
  · unfold reprD at hz
    split at hz
    · next d =>
      split at hz
      · next ok =>
        cases hz
        obtain ⟨v, rfl, r1⟩ := rds1 r
        exact ⟨v, d, F, rfl, r1, ok, k _ _ _ _ (Out.fz dom (.str _))⟩
      · cases hz
    · cases hz
/-- {} -/
theorem d_dict0 : DOk X (.Dict [] [] pos) (ret (.dict [])) := by
  refine ⟨_, pe_dnewK, fun δ d δ' hf σ H F os Q S k p hp => ?_⟩
  obtain ⟨rfl, rfl⟩ := ret_some hf
  have g : Grow H F (upd H p (.dK [])) (fun q => F q ∨ q = p) := Grow.new S.dom hp
  exact k _ _ _ os g.step (S.grow g) (.dct (.inr rfl) upd_same .nil)
/-- == of texts too -/
def eqX (x y : PyData) : Option Bool := match x, y with
  | .str a, .str b => some (decide (a = b))
  | x, y => eqD x y
def neX (x y : PyData) : Option Bool := (eqX x y).map not
theorem dec_strV {a b : Str} : decide (V.str a = V.str b) = decide (a = b) := by
  by_cases h : a = b
  · subst h; simp
  · rw [decide_eq_false h, decide_eq_false fun e => h (by injection e)]
theorem o_eqX (hu : X.A.units + 64 < cLine) : CmA X (compareOp .Eq) eqX := by
  obtain ⟨r, hr, jr⟩ := (o_eq (X := X) hu).ex
  refine ⟨_, op_eq.or hr, fun d e z hz x y H F Q rx ry k => ?_⟩
  unfold eqX at hz
  split at hz
  · cases hz
    cases rx
    cases ry
    exact .inl ⟨rfl, by rw [dec_strV]; exact k⟩
  · exact .inr (jr d e z hz x y H F Q rx ry k)
theorem o_neX (hu : X.A.units + 64 < cLine) : CmA X (compareOp .NotEq) neX := by
  obtain ⟨r, hr, jr⟩ := (o_ne (X := X) hu).ex
  refine ⟨_, op_ne.or hr, fun d e z hz x y H F Q rx ry k => ?_⟩
  unfold neX eqX at hz
  split at hz
  · cases hz
    cases rx
    cases ry
    exact .inl ⟨rfl, by rw [dec_strV]; exact k⟩
  · exact .inr (jr d e z hz x y H F Q rx ry k)
def divmodD : List PyData → Option AV
  | [.int i, .int j] => if 0 < j ∧ j < 1073741824 then some (.fz (.tuple [.int (i / j), .int (i % j)])) else none
  | _ => none
theorem c_divmod : CallA X (.builtin "divmod") divmodD := by
  refine ⟨_, call_divmod, fun ds z hz vs H F Q dom r k => ?_⟩
  unfold divmodD at hz
  split at hz
  · split at hz
    · next c =>
      cases hz
      obtain ⟨v, w, rfl, r1, r2⟩ := rds2 r
      cases r1
      cases r2
      exact ⟨_, _, rfl, c, fun p hp => k _ _ _ _ (Out.tup dom hp (.cons (.int _) (.cons (.int _) .nil)))⟩
    · cases hz
  · cases hz

/-! ### targets of an assignment, a tuple handed out -/
/-- a, b, .. = e -/
def gUnp (tgt : Tg) (f : M PyData) : Sm := fun δ => match f δ with
  | some (d, δ1) => (match tgt d δ1 with
    | some δ2 => some (.nx δ2)
    | none => none)
  | none => none
theorem s_unp {tg : Expr} {f : M PyData} {g : Tg} (he : DOk X e f) (hg : GOk X Z tg g) (hs : swapsWithSole [tg] e pos.line X.env = pure false := by rfl) (hw : swappedStores [tg] e X.env = pure none := by rfl)
    (h1 : (assignEach [tg] X.env).map (·.2) = [assign tg X.env] := by rfl) : SOk X Z (.Assign [tg] e pos) (gUnp g f) := by
  obtain ⟨te, pe, je⟩ := he.ex
  obtain ⟨t, pg, jg⟩ := hg.ex
  refine ⟨tAsg te t, ps_asg pe pg hs hw h1, fun δ r hf σ H F os D S k => ?_⟩
  unfold gUnp at hf
  split at hf
  · next d δ1 h1 =>
    split at hf
    · next δ2 h2 =>
      cases hf
      refine je δ d δ1 h1 σ H F os _ S fun v H1 F1 os1 st1 S1 r1 => ?_
      exact jg d δ1 δ2 h2 v σ H1 F1 os1 _ S1 r1 fun σ2 os2 fx S2 m => k σ2 H1 F1 os2 fx (st1.less m) S2
    · cases hf
  · cases hf
/-- x[i], y = e (e a pair): x a list of our own -/
def gUnpIx (i : Nat) (fi : M PyData) (j : Nat) (f : M PyData) : Sm := fun δ => match f δ with
  | some (.tuple [d1, d2], δ1) => (match δ1[i]? with
    | some (some (.ow _)) => (match fi δ1 with
      | some (.int n, δ2) => (match δ2[i]? with
        | some (some (.ow xs)) => (match ixN xs.length n with
          | some m => some (.nx ((δ2.set i (some (.ow (xs.set m (.fz d1))))).set j (some (.fz d2))))
          | none => none)
        | _ => none)
      | _ => none)
    | _ => none)
  | _ => none
theorem s_unpIx (i j : Nat) {x y : Str} {fi f : M PyData} {p p2 p3 p4 : Pos} {kk : Nat} (hc : X.calm = true) (hN : X.N.Nodup) (he : DOk X e f) (hb : DOk X b fi) (hz : j ∉ Z := by decide)
    (hNi : X.N[i]? = some x := by rfl) (hv : Vis X.env.scope x := by first | exact Or.inl rfl | exact Or.inr (Or.inl rfl) | exact Or.inr (Or.inr rfl))
    (hd : (x == ("__debug__" : Str)) = false := by decide) (hcd : (x == ("__classdict__" : Str)) = false := by decide)
    (hNj : X.N[j]? = some y := by rfl) (hy : Loc X.env.scope y := by first | exact Or.inl rfl | exact Or.inr rfl) (hf : X.fn y = true ∨ X.env.scope.names.lookup y = some .local := by first | exact .inl rfl | exact .inr rfl | assumption)
    (ha : ∀ v, assign (.Subscript (.Name x p) b p2) X.env v = (do
      let ov ← holding [v] (eval (.Name x p) X.env)
      let iv ← holding [v, ov] (eval b X.env)
      standAt p2
      holding [v, ov, iv] (setItem ov iv v)
      release [v, ov, iv] []) := by intro _; rfl)
    (hs1 : (assignEach [.Subscript (.Name x p) b p2, .Name y p3] X.env).map (·.2) = assign (.Subscript (.Name x p) b p2) X.env :: (assignEach [.Name y p3] X.env).map (·.2) := by rfl)
    (hs2 : (assignEach [.Name y p3] X.env).map (·.2) = assign (.Name y p3) X.env :: (assignEach [] X.env).map (·.2) := by rfl)
    (hn : (assignEach [.Subscript (.Name x p) b p2, .Name y p3] X.env).length = 2 := by rfl) (hst : (assignEach [.Subscript (.Name x p) b p2, .Name y p3] X.env).findIdx? (·.1) = none := by rfl)
    (hs : swapsWithSole [.Tuple [.Subscript (.Name x p) b p2, .Name y p3] kk p4] e pos.line X.env = pure false := by rfl) (hw : swappedStores [.Tuple [.Subscript (.Name x p) b p2, .Name y p3] kk p4] e X.env = pure none := by rfl)
    (h1 : (assignEach [.Tuple [.Subscript (.Name x p) b p2, .Name y p3] kk p4] X.env).map (·.2) = [assign (.Tuple [.Subscript (.Name x p) b p2, .Name y p3] kk p4) X.env] := by rfl) :
    SOk X Z (.Assign [.Tuple [.Subscript (.Name x p) b p2, .Name y p3] kk p4] e pos) (gUnpIx i fi j f) := by
  obtain ⟨te, pe, je⟩ := he.ex
  obtain ⟨tb, pb, jb⟩ := hb.ex
  refine ⟨_, ps_asg pe (pg_tup hc (pgs_cons (pg_sub (pe_var hNi hv hd hcd) pb set_list ha) (pgs_cons (pg_name hN hNj hy hf) pgs_nil hs2) hs1) hn hst) hs hw h1, fun δ r hf σ H F os D S k => ?_⟩
  unfold gUnpIx at hf
  split at hf
  · next d1 d2 δ1 h1 =>
    split at hf
    · next h0 =>
      split at hf
      · next n δ2 h2 =>
        split at hf
        · next xs h =>
          split at hf
          · next m hm =>
            cases hf
            refine je δ _ δ1 h1 σ H F os _ S fun v H1 F1 os1 st1 S1 r1 => ?_
            obtain ⟨pt, vs, rfl, qt, rv⟩ := rd_tup r1
            obtain ⟨v1, v2, rfl, rv1, rv2⟩ := rds2 rv
            refine ⟨pt, [v1, v2], rfl, qt.sq, rfl, v1, [v2], rfl, ?_⟩
            obtain ⟨u, _, hv1, r0, _⟩ := S1.at_ h0
            refine ⟨u, hv1, ?_⟩
            refine jb δ1 _ δ2 h2 σ H1 F1 os1 _ S1 fun iv H2 F2 os2 st2 S2 r2 => ?_
            cases r2
            have S3 := S2.cons (rv1.step S1 st2)
            obtain ⟨q2, ws, os4, h4, h5, h6, S4, st4⟩ := S3.wrAt (as' := xs.set m (.fz d1)) (g := fun vs => vs.set m v1) h fun vs o oa r1 r2 nd => ras_set r2 r1 nd
            rw [hv1] at h4
            cases h4
            refine ⟨q2, ws, n, m, rfl, rfl, h5, by rw [h6]; exact hm, v2, [], rfl, rfl, ?_⟩
            have S5 := S4.cons (((rv2.step S1 st2).step S3 st4))
            obtain ⟨os6, S6, m6⟩ := S5.put (i := j)
            exact k _ _ F2 os6 (.set hz) (((st1.trans st2).trans st4).less m6) S6
          · cases hf
        · cases hf
      · cases hf
    · cases hf
  · cases hf

/-! ### zip, enumerate -/
def SIt (k : Bool) (h : Heap) (it a : Addr) (i : Nat) : Prop := match k with
  | true => h.IsListIter it a i
  | false => h.IsTupleIter it a i
def SIs (k : Bool) (h : Heap) (a : Addr) (items : Array Value) : Prop := match k with
  | true => h.IsList a items
  | false => h.IsTuple a items
def SqK (k : Bool) (K : PySem.W.Frag) (H : Hp) (a : Addr) (xs : List V) : Prop := match k with
  | true => SqL K H a xs
  | false => SqT K H a xs
theorem SIt.obj {k : Bool} {h : Heap} {it a : Addr} {i : Nat} (s : SIt k h it a i) : ∃ o, h.get? it = some o ∧ ∀ v, o.data ≠ .cell v := by
  cases k with
  | true => obtain ⟨o, e, c, d⟩ := s; exact ⟨o, e, fun v z => by rw [d] at z; cases z⟩
  | false => obtain ⟨o, e, c, d⟩ := s; exact ⟨o, e, fun v z => by rw [d] at z; cases z⟩
theorem SIt.keep {k : Bool} {h h' : Heap} {it a : Addr} {i : Nat} (s : SIt k h it a i) (q : ∀ o, h.get? it = some o → h'.get? it = some o) : SIt k h' it a i := by
  cases k with
  | true => exact Heap.IsListIter.at s q
  | false => exact Heap.IsTupleIter.at s q
theorem draws_s {k : Bool} {P : Program} {w : World} {A : Around} (hh : A.handled = none) (it a : Addr) (hne : a ≠ it) (items : Array Value) :
    Draws P w A it [it, a] items.size (fun i v => items[i]? = some v) (fun i h => SIt k h it a i ∧ SIs k h a items) := by
  cases k with
  | true => exact Draws.list hh it a hne items
  | false => exact Draws.tuple hh it a hne items
theorem inv_s {k : Bool} {pins : List (Addr × Obj)} {σ : St} {H : Hp} {s : Shared} {a : Addr} {xs : List V} (I : L2.Inv X pins σ H s) (h : SqK k X.K H a xs) : ∃ its : List Value, Vals xs its ∧ SIs k s.heap a its.toArray ∧ a < s.heap.objs.size := by
  cases k with
  | true =>
    obtain ⟨its, rv, p, _⟩ := I.list h
    exact ⟨its, rv, p.isList, p.lt⟩
  | false =>
    obtain ⟨its, rv, p, _⟩ := I.tuple h
    exact ⟨its, rv, p, p.lt⟩
theorem inj_s {k : Bool} {pins : List (Addr × Obj)} {σ : St} {H : Hp} {s : Shared} {a : Addr} {xs ys : List V} (I : L2.Inv X pins σ H s) (h : SqK k X.K H a xs) (h' : SqK k X.K H a ys) : xs = ys := by
  cases k with
  | true => exact I.list_inj h h'
  | false => exact I.tuple_inj h h'
def Itm (K : PySem.W.Frag) (k1 k2 : Bool) (a b : Addr) : It :=
  ⟨fun i H => ∃ (xs ys : List V), SqK k1 K H a xs ∧ SqK k2 K H b ys ∧ i < xs.length ∧ i < ys.length,
   fun i H v H' => ∃ T x y, v = .ref T ∧ H T = none ∧ H' = upd H T (.tup [x, y]) ∧ (∀ xs, SqK k1 K H a xs → xs[i]? = some x) ∧ ∀ ys, SqK k2 K H b ys → ys[i]? = some y,
   fun i H => ∃ xs ys : List V, SqK k1 K H a xs ∧ SqK k2 K H b ys ∧ i ≤ xs.length ∧ i ≤ ys.length ∧ (i = xs.length ∨ i = ys.length)⟩
theorem turn_zm {P : Program} {w : World} {K : PySem.W.Frag} {elts : List Expr} {kk : Nat} {tpos : Pos} {k1 k2 : Bool} {a b z TI TO i1 i2 : Addr} (D : ZipSep2 z TI TO i1 i2 [i1, a] [i2, b]) (na : a ≠ i1) (nb : b ≠ i2) :
    Turn P w K (.Tuple elts kk tpos) (Itm K k1 k2 a b) [z, TI, TO, i1, i2] z (fun i h => IsZip h z TI TO .none ∧ IsTupOf2 h TI (.ref i1) (.ref i2) ∧ (∃ x y, IsTupOf2 h TO x y) ∧ SIt k1 h i1 a i ∧ SIt k2 h i2 b i) where
  mem := List.mem_cons_self ..
  obj := fun i h ⟨hz, hTI, ⟨x, y, hTO⟩, s1, s2⟩ c hc => by
    simp only [List.mem_cons, List.not_mem_nil, or_false] at hc
    rcases hc with rfl | rfl | rfl | rfl | rfl
    · exact ⟨_, hz, fun v q => nomatch q⟩
    · exact ⟨_, hTI, fun v q => nomatch q⟩
    · exact ⟨_, hTO, fun v q => nomatch q⟩
    · exact s1.obj
    · exact s2.obj
  keep := fun i h h' ⟨hz, hTI, ⟨x, y, hTO⟩, s1, s2⟩ q =>
    ⟨q z (by simp) _ hz, q TI (by simp) _ hTI, ⟨x, y, q TO (by simp) _ hTO⟩, s1.keep (q i1 (by simp)), s2.keep (q i2 (by simp))⟩
  item := by
    intro X hP hw hK hc i pins s σ H E I hf ⟨hz, hTI, ⟨x0, y0, hTO⟩, s1, s2⟩ ⟨xs, ys, hqx, hqy, lx, ly⟩
    subst hP hw hK
    obtain ⟨its, rv, p1, _⟩ := inv_s I hqx
    obtain ⟨its2, rv2, p2, _⟩ := inv_s I hqy
    have hh := I.ok.hd hc
    have zl : z < s.heap.objs.size := Heap.lt_size hz
    refine wpAny_pyNext_zipD2_item D (draws_s (A := X.A.in1) hh i1 a na its.toArray) (draws_s (A := X.A.in1) hh i2 b nb its2.toArray) hz hTI hTO ⟨s1, p1⟩ ⟨s2, p2⟩ (by rw [List.size_toArray, ← rv.length]; exact lx) (by rw [List.size_toArray, ← rv2.length]; exact ly) fun u u2 h' tk e1 e2 z' TO' d1 d2 hT hsz hk => ?_
    have hx := List.getElem?_eq_getElem lx
    have hy := List.getElem?_eq_getElem ly
    obtain ⟨u', g1, ru⟩ := rv.get hx
    obtain ⟨u2', g2, ru2⟩ := rv2.get hy
    have q1 : u' = u := by
      rw [List.getElem?_toArray] at e1
      exact Option.some.inj (g1.symm.trans e1)
    have q2 : u2' = u2 := by
      rw [List.getElem?_toArray] at e2
      exact Option.some.inj (g2.symm.trans e2)
    subst q1 q2
    refine ⟨_, rfl, wpAny_letOwnedTupleGo_zip (s := { s with heap := h', toks := tk }) z' fun h2 z2 sb => ?_⟩
    have hT2 : h2.get? s.heap.objs.size = some { cls := .type "tuple", data := .seq #[u', u2'] } := (sb.2 _ (Nat.ne_of_gt zl)).trans hT
    have new : ObjOk X.prog X.w (upd H s.heap.objs.size (.tup [xs[i], ys[i]])) h2 s.heap.objs.size (.tup [xs[i], ys[i]]) :=
      ⟨by show 2 ≤ sizeLine; decide, [u', u2'], .cons ru (.cons ru2 .nil), ⟨_, hT2, rfl, _, rfl⟩⟩
    have I1 : L2.Inv X pins σ (upd H s.heap.objs.size (.tup [xs[i], ys[i]])) { s with heap := h2, toks := tk } :=
      I.turnedNew (t' := tk) (ch := [z, TI, TO, i1, i2]) (fun c o hb q => (sb.2 c (fun q' => hb (by simp [q']))).trans (hk c o (fun q' => hb (by simp [q'])) (fun q' => hb (by simp [q'])) (fun q' => hb (by simp [q'])) (fun q' => hb (by simp [q'])) q)) hf (Nat.le_refl _) new
    refine ⟨.ref s.heap.objs.size, _, I1, rfl, ⟨_, xs[i], ys[i], rfl, I.hok.fresh (Nat.le_refl _), rfl, fun l hl => by rw [inj_s I hl hqx]; exact hx, fun l hl => by rw [inj_s I hl hqy]; exact hy⟩, ⟨z2, ?_, ⟨u', u2', ?_⟩, ?_, ?_⟩, fun c hcm => ?_⟩
    · exact (sb.2 _ D.TIz).trans (hk _ _ D.TIz D.TITO D.TIi1 D.TIi2 hTI)
    · exact (sb.2 _ D.TOz).trans TO'
    · exact d1.1.keep fun o q => (sb.2 _ D.zi1.symm).trans q
    · exact d2.1.keep fun o q => (sb.2 _ D.zi2.symm).trans q
    · have hlt : c < s.heap.objs.size := by
        simp only [List.mem_cons, List.not_mem_nil, or_false] at hcm
        rcases hcm with rfl | rfl | rfl | rfl | rfl
        · exact zl
        · exact Heap.lt_size hTI
        · exact Heap.lt_size hTO
        · obtain ⟨_, e1, _⟩ := s1.obj; exact Heap.lt_size e1
        · obtain ⟨_, e1, _⟩ := s2.obj; exact Heap.lt_size e1
      rw [upd_ne (Nat.ne_of_lt hlt)]
      exact (hf c hcm).1
  done := by
    intro X hP hw hK hc i pins s σ H E I hf ⟨hz, hTI, ⟨x0, y0, hTO⟩, s1, s2⟩ ⟨xs, ys, hqx, hqy, l1, l2, l3⟩
    subst hP hw hK
    obtain ⟨its, rv, p1, _⟩ := inv_s I hqx
    obtain ⟨its2, rv2, p2, _⟩ := inv_s I hqy
    have hh := I.ok.hd hc
    have e1 := rv.length
    have e2 := rv2.length
    exact wpAny_pyNext_zipD2_end D (draws_s (A := X.A.in1) hh i1 a na its.toArray) (draws_s (A := X.A.in1) hh i2 b nb its2.toArray) hz hTI hTO ⟨s1, p1⟩ ⟨s2, p2⟩ (by rw [List.size_toArray]; omega) (by rw [List.size_toArray]; omega) (by rw [List.size_toArray, List.size_toArray]; omega) fun h' tk hk =>
      ⟨rfl, I.turnedL (t' := tk) (ch := [z, TI, TO, i1, i2]) (fun c o hb q => hk c o (fun q' => hb (by simp [q'])) (fun q' => hb (by simp [q'])) (fun q' => hb (by simp [q'])) (fun q' => hb (by simp [q'])) q) hf⟩
  self := fun A i s Q E st h => wpAny_pyIter_zip st.1 h
def SIo (k : Bool) (a : Addr) : Obj := match k with
  | true => { cls := .type "list_iterator", data := .fields #[.ref a, .int 0 0] }
  | false => { cls := .type "tuple_iterator", data := .fields #[.ref a, .int 0 0] }
theorem begins_s (k : Bool) (a : Addr) (items : Array Value) : Begins (.ref a) (SIo k a) fun h => SIs k h a items := by
  cases k with
  | true => exact begins_list a items
  | false => exact begins_tuple a items
theorem SIt.new {k : Bool} {h : Heap} {it a : Addr} (e : h.get? it = some (SIo k a)) : SIt k h it a 0 := by
  cases k with
  | true => exact ⟨_, e, rfl, rfl⟩
  | false => exact ⟨_, e, rfl, rfl⟩
def iZm (K : PySem.W.Frag) (ta : TA) : TI := fun σ H R => ta σ H fun vs H1 => ∃ k1 k2 a b xs ys, vs = [.ref a, .ref b] ∧ SqK k1 K H1 a xs ∧ SqK k2 K H1 b ys ∧ R (Itm K k1 k2 a b) H1
theorem pi_zm {e2 : Expr} {ta : TA} {p tpos : Pos} {elts : List Expr} {kk : Nat} (hg : Gl X "zip") (hm : X.mg "zip" = none) (ha : PA X [e, e2] ta)
    (hs : starEach [e, e2] X.env = (false, eval e X.env) :: starEach [e2] X.env := by rfl) (hpl : (backTo pos (starEach [e2] X.env)).any (·.1) = false := by rfl) :
    PI X (.Tuple elts kk tpos) (.Call (.Name "zip" p) [e, e2] [] pos) (iZm X.K ta) := by
  refine ⟨fun pins s σ H R I h => ?_⟩
  refine Call_ (ld_blt I hg hm PyProof.Rows.boot_zip (PyProof.Rows.callWith_type1 (thn (ha.run pos pins s σ H _ I h) fun us s1 ⟨vs, H1, I1, r1, k1, k2, a, b, xs, ys, ex, hqx, hqy, q⟩ => ?_) hs hpl))
  subst ex
  obtain ⟨u, u2, rfl, ru, ru2⟩ := vals2 r1
  cases ru
  cases ru2
  obtain ⟨its, rv, p1, la⟩ := inv_s I1 hqx
  obtain ⟨its2, rv2, p2, lb⟩ := inv_s I1 hqy
  refine zip_begins2 (begins_s k1 a its.toArray) (begins_s k2 b its2.toArray) p1 p2 fun h' hz hTI hTO h1 h2 hsz hk => wpAny_pyIter_zip hz ?_
  refine ⟨s1.heap.objs.size + 4, [s1.heap.objs.size + 4, s1.heap.objs.size + 2, s1.heap.objs.size + 3, s1.heap.objs.size, s1.heap.objs.size + 1], _, _, H1, rfl, I1.kept (t' := s1.toks) hk,
    turn_zm (k1 := k1) (k2 := k2) (zip_sep2 (fun c hc => by rw [List.mem_singleton.mp hc]; exact la) (fun c hc => by rw [List.mem_singleton.mp hc]; exact lb)) (Nat.ne_of_lt la) (Nat.ne_of_lt (Nat.lt_succ_of_lt lb)), ⟨hz, hTI, ⟨_, _, hTO⟩, .new h1, .new h2⟩, fun c hcm => ?_, q⟩
  have hle : s1.heap.objs.size ≤ c := by
    simp only [List.mem_cons, List.not_mem_nil, or_false] at hcm
    rcases hcm with rfl | rfl | rfl | rfl | rfl
    · exact Nat.le_add_right _ _
    · exact Nat.le_add_right _ _
    · exact Nat.le_add_right _ _
    · exact Nat.le_refl _
    · exact Nat.le_add_right _ _
  exact I1.fpOk hle (I1.hok.fresh hle)
def zipD (xs ys : List PyData) : List PyData := List.zipWith (fun x y => .tuple [x, y]) xs ys
def gZip (f g : M PyData) : M (List PyData) := bnd f fun d => bnd g fun d2 => opt (match seqD d, seqD d2 with
  | some xs, some ys => some (zipD xs ys)
  | _, _ => none)
theorem rd_seq {K : PySem.W.Frag} {F : Fz} {H : Hp} {v : V} {d : PyData} {ds : List PyData} (r : RD K F H v d) (h : seqD d = some ds) : ∃ k a xs, v = .ref a ∧ SqK k K H a xs ∧ RDs K F H xs ds ∧ ∀ F' H', Ext F H F' H' → SqK k K H' a xs := by
  unfold seqD at h
  split at h
  · cases h
    cases r with
    | lst f hp rs => exact ⟨true, _, _, rfl, SqL.of hp, rs, fun F' H' ex => SqL.of (ex.2 _ _ f hp)⟩
  · cases h
    cases r with
    | tup q rs => exact ⟨false, _, _, rfl, q.sq, rs, fun F' H' ex => (q.ext ex).sq⟩
  · cases h
theorem i_zip {f g : M PyData} {p tpos : Pos} {elts : List Expr} {kk : Nat} (hg : Gl X "zip") (hm : X.mg "zip" = none) (ha : DOk X a f) (hb : DOk X b g)
    (hs : starEach [a, b] X.env = (false, eval a X.env) :: starEach [b] X.env := by rfl) (hs2 : starEach [b] X.env = (false, eval b X.env) :: starEach [] X.env := by rfl) (hpl : (backTo pos (starEach [b] X.env)).any (·.1) = false := by rfl) :
    IOk X (.Tuple elts kk tpos) (.Call (.Name "zip" p) [a, b] [] pos) (gZip f g) := by
  obtain ⟨ta, pa, ja⟩ := ha.ex
  obtain ⟨tb, pb, jb⟩ := hb.ex
  refine ⟨_, pi_zm hg hm (pa_cons pa (pa_cons pb pa_nil hs2) hs) hs hpl, fun δ items δ' hf σ H F os R S k => ?_⟩
  obtain ⟨d, δ1, h1, h2⟩ := bnd_some hf
  obtain ⟨d2, δ2, h3, h4⟩ := bnd_some h2
  obtain ⟨h5, rfl⟩ := opt_some h4
  refine ja δ d _ h1 σ H F os _ S fun v H1 F1 os1 st1 S1 r1 => ?_
  refine jb δ1 d2 _ h3 σ H1 F1 os1 _ S1 fun w H2 F2 os2 st2 S2 r2 => ?_
  cases e1 : seqD d with
  | none => rw [e1] at h5; cases h5
  | some xs =>
    cases e2 : seqD d2 with
    | none => rw [e1, e2] at h5; cases h5
    | some ys =>
      rw [e1, e2] at h5
      cases h5
      obtain ⟨k1, pa, vs, rfl, q1, rs1, ex1⟩ := rd_seq (r1.step S1 st2) e1
      obtain ⟨k2, pb, ws, rfl, q2, rs2, ex2⟩ := rd_seq r2 e2
      have lx := rs1.length
      have ly := rs2.length
      have lz : (zipD xs ys).length = min vs.length ws.length := by unfold zipD; rw [List.length_zipWith, lx, ly]
      refine ⟨k1, k2, pa, pb, vs, ws, rfl, q1, q2, k _ H2 F2 os2 (st1.trans st2) S2 ⟨fun H => SqK k1 X.K H pa vs ∧ SqK k2 X.K H pb ws, YPair (fun i => vs[i]?) (fun i => ws[i]?), ?_, fun F H ex => ⟨ex1 F H ex, ex2 F H ex⟩, fun i H v H' F hi ex dom y => ?_⟩⟩
      · rw [lz]
        exact ⟨fun i H hi q => ⟨vs, ws, q.1, q.2, by omega, by omega⟩, fun H q => ⟨vs, ws, q.1, q.2, by omega, by omega, by omega⟩, fun i H v H' hi q ⟨T, x, y, h1, h2, h3, h4, h5⟩ => ⟨T, x, y, h1, h2, h3, h4 vs q.1, h5 ws q.2⟩⟩
      · obtain ⟨T, x, y, rfl, hT, rfl, hx, hy⟩ := y
        have lt : i < xs.length ∧ i < ys.length := by rw [lz] at hi; omega
        have ex' : ∀ {vs : List V} {ds : List PyData} {i : Nat} {x : V}, RDs X.K F2 H2 vs ds → vs[i]? = some x → ∃ d, ds[i]? = some d ∧ RD X.K F2 H2 x d := by
          intro vs ds i x r hx
          have l := r.length
          have hlt := (List.getElem?_eq_some_iff.mp hx).1
          have hl2 : i < ds.length := by omega
          obtain ⟨v, hv, rv⟩ := rds_at r (List.getElem?_eq_getElem hl2)
          rw [hx] at hv
          cases hv
          exact ⟨_, List.getElem?_eq_getElem hl2, rv⟩
        obtain ⟨dx, gx, rx⟩ := ex' rs1 hx
        obtain ⟨dy, gy, ry⟩ := ex' rs2 hy
        have g : Grow H F (upd H T (.tup [x, y])) (fun q => F q ∨ q = T) := Grow.new dom hT
        refine ⟨.tuple [dx, dy], _, ?_, g, .tup (.inl ⟨.inr rfl, SqT.of upd_same⟩) (.cons ((rx.ext ex).ext g.ext) (.cons ((ry.ext ex).ext g.ext) .nil))⟩
        unfold zipD
        rw [List.getElem?_zipWith, gx, gy]
end
end Pv

namespace Pv
open PySem PySem.Spec L2
open PyProof.Rows hiding St
/-! Pv10: chains, minus, a def where it stands -/
section
variable {X : Cx} {Z : List Nat} {e a b c : Expr} {pos : Pos}
theorem d_chn {o o' : CmpOp} {op op' : PyData → PyData → Option Bool} {f g h : M PyData} (ho : CmA X (compareOp o) op) (ho' : CmA X (compareOp o') op') (ha : DOk X a f) (hb : DOk X b g) (hc : DOk X c h)
    (hm : lastMarks [o, o'] [b, c] = false := by with_unfolding_all rfl) : DOk X (.Compare a [o, o'] [b, c] pos) (gBl (gChn op op' f g h)) := by
  obtain ⟨r, hr, jr⟩ := ho.ex
  obtain ⟨r', hr', jr'⟩ := ho'.ex
  obtain ⟨ta, pa, ja⟩ := ha.ex
  obtain ⟨tb, pb, jb⟩ := hb.ex
  obtain ⟨tc, pc, jc⟩ := hc.ex
  refine ⟨_, pe_chain hr hr' pa pb pc hm, fun δ d δ' hf σ H F os Q S k => ?_⟩
  obtain ⟨z, δ1, h1, h2⟩ := bnd_some hf
  obtain ⟨rfl, rfl⟩ := ret_some h2
  exact chn_three (c := c) jr jr' ja jb jc h1 S fun H' F' os' st S' => k _ H' F' os' st S' (.bl z)
theorem t_chn {o o' : CmpOp} {op op' : PyData → PyData → Option Bool} {f g h : M PyData} (ho : CmA X (compareOp o) op) (ho' : CmA X (compareOp o') op') (ha : DOk X a f) (hb : DOk X b g) (hc : DOk X c h)
    (hm : lastMarks [o, o'] [b, c] = false := by with_unfolding_all rfl) : TOk X (.Compare a [o, o'] [b, c] pos) (gChn op op' f g h) := by
  obtain ⟨r, hr, jr⟩ := ho.ex
  obtain ⟨r', hr', jr'⟩ := ho'.ex
  obtain ⟨ta, pa, ja⟩ := ha.ex
  obtain ⟨tb, pb, jb⟩ := hb.ex
  obtain ⟨tc, pc, jc⟩ := hc.ex
  refine ⟨_, pt_chain hr hr' pa pb pc hm, fun δ z δ' hf σ H F os Q S k => ?_⟩
  exact chn_three (c := c) jr jr' ja jb jc hf S fun H' F' os' st S' => ⟨z, rfl, k H' F' os' st S'⟩
def negD : PyData → Option PyData
  | .int i => some (.int (-i))
  | _ => none
def gNeg (f : M PyData) : M PyData := bnd f fun d => opt (negD d)
theorem d_neg {f : M PyData} (h : DOk X a f) : DOk X (.UnaryOp .USub a pos) (gNeg f) := by
  obtain ⟨t, p, j⟩ := h.ex
  refine ⟨_, pe_un un_neg p, fun δ d δ' hf σ H F os Q S k => ?_⟩
  obtain ⟨c, δ1, h1, h2⟩ := bnd_some hf
  obtain ⟨h3, rfl⟩ := opt_some h2
  refine j δ c _ h1 σ H F os _ S fun v H1 F1 os1 st1 S1 r => ?_
  unfold negD at h3
  split at h3
  · cases h3
    cases r
    exact ⟨_, rfl, k _ H1 F1 os1 st1 S1 (.int _)⟩
  · cases h3
end
/-- a def of the top -/
structure DefAt (P : Program) (w : World) (K : PySem.W.Frag) (mg : Str → Option Value) (base : Heap) (x : Str) (params : Arguments) (k n : Nat) (ps : List Str) (io : Bool) (g : Fn) : Prop where
  ex : ∃ f fd body scope, FunD K x x params body scope [] [] f fd ∧ mg x = some (.ref f) ∧ FnG P w K mg base k f fd n ps (spF K io n g)
section
variable {P : Program} {w : World} {K : PySem.W.Frag} {mg : Str → Option Value} {base : Heap}
theorem def_at {x : Str} {params : Arguments} {body : List Stmt} {scope : Scope} {N ps : List Str} {b : Sm} {f : Addr} {fd : FuncData} {k : Nat} (io : Bool) (F : FunD K x x params body scope [] [] f fd) (hg : mg x = some (.ref f)) (S : FnScope N ps scope) (n m : Nat) (hn : ps.length = n) (hm : N.length = m)
    (hp : io = true → n ≠ 0)
    (hb : ∀ (cdv : Value) (A : Around) (outer : List Env) (s : Shared) (H : Hp), A.guards = some [] → Room k (A.deeper (envOfC x scope s.heap.objs.size f cdv)) → BOk (bodyCx P w K mg base N x scope f cdv A outer s H) (zOf io) body b) :
    DefAt P w K mg base x params (k + 1) n ps io (defF m n io b) := ⟨f, fd, body, scope, F, hg, def_ok io F S n m hn hm hp hb⟩
theorem def_none {x : Str} {params : Arguments} {body : List Stmt} {scope : Scope} {ps : List Str} {f : Addr} {fd : FuncData} (k : Nat) (io : Bool) (F : FunD K x x params body scope [] [] f fd) (hg : mg x = some (.ref f)) (n : Nat) (hn : ps.length = n) :
    DefAt P w K mg base x params k n ps io (fun _ => none) := ⟨f, fd, body, scope, F, hg, hn, fun A outer s H args us vs Q _ _ _ _ _ _ ⟨as, r, outs, F0, os, h, _⟩ => by cases h⟩
theorem DefAt.like {x : Str} {params : Arguments} {k j n : Nat} {ps : List Str} {io : Bool} {g g' : Fn} (D : DefAt P w K mg base x params k n ps io g) (hj : k ≤ j) (h : ∀ as r, g' as = some r → g as = some r) : DefAt P w K mg base x params j n ps io g' :=
  let ⟨f, fd, b, sc, F, hg, G⟩ := D.ex
  ⟨f, fd, b, sc, F, hg, G.like hj h⟩
end
/-- how so many positional and named arguments come to the parameters -/
abbrev Bnd (x : Str) (params : Arguments) (ps : List Str) (na m : Nat) (ks : List Str) (pm : List Nat) : Prop :=
  ∀ (body : List Stmt) (scope : Scope) (kV doc pv : Value) (an : Option Addr) (cdv ct : Value) (us ws : List Value), us.length = na → ws.length = m → bindArgs (PySem.W.fnOf x x params body scope .none kV doc pv an cdv ct) ⟨us, ks.zip ws⟩ = pure (ps.zip (pick pm (us ++ ws)))
section
variable {X : Cx} {Z : List Nat} {e : Expr} {es : List Expr} {kws : List Keyword} {pos p : Pos} {x : Str} {params : Arguments} {k n : Nat} {ps : List Str} {g : Fn}
theorem c_fn {l lk : M (List PyData)} {na m : Nat} {ks : List Str} {pm : List Nat} (D : DefAt X.prog X.w X.K X.mg X.base x params k n ps false g) (B : Bnd x params ps na m ks pm) (hr : Room k X.A) (hgd : X.A.guards = some []) (hg : Gl X x) (ha : LOk X (e :: es) l) (hkw : KOk X kws lk)
    (hpn : pm.length = n := by rfl) (hpm : ∀ i ∈ pm, i < na + m := by decide)
    (hall : (backToKw pos (keywordEach kws X.env)).all (·.1.isSome) = true := by rfl) (hks : (backToKw pos (keywordEach kws X.env)).filterMap (·.1) = ks := by rfl)
    (hdb : (x == ("__debug__" : Str)) = false := by decide) (he : starEach (e :: es) X.env = (false, eval e X.env) :: starEach es X.env := by rfl)
    (hpl : ((backTo pos (starEach (e :: es) X.env)).any (·.1) || (backToKw pos (keywordEach kws X.env)).any (·.1.isNone)) = false := by rfl) :
    AOk X (.Call (.Name x p) (e :: es) kws pos) (gFn g na m pm l lk) := by
  obtain ⟨f, fd, body, scope, F, gl, G⟩ := D.ex
  exact a_call G hr hgd hg gl F.kp (bindK_of F (B body scope)) ha hkw hpn hpm hall hks hdb he hpl
theorem c_fn0 {lk : M (List PyData)} {m : Nat} {ks : List Str} {pm : List Nat} (D : DefAt X.prog X.w X.K X.mg X.base x params k n ps false g) (B : Bnd x params ps 0 m ks pm) (hr : Room k X.A) (hgd : X.A.guards = some []) (hg : Gl X x) (hkw : KOk X kws lk)
    (hpn : pm.length = n := by rfl) (hpm : ∀ i ∈ pm, i < 0 + m := by decide)
    (hall : (backToKw pos (keywordEach kws X.env)).all (·.1.isSome) = true := by rfl) (hks : (backToKw pos (keywordEach kws X.env)).filterMap (·.1) = ks := by rfl)
    (hdb : (x == ("__debug__" : Str)) = false := by decide)
    (hpl : ((backTo pos (starEach [] X.env)).any (·.1) || (backToKw pos (keywordEach kws X.env)).any (·.1.isNone)) = false := by rfl) :
    AOk X (.Call (.Name x p) [] kws pos) (gFn g 0 m pm (ret []) lk) := by
  obtain ⟨f, fd, body, scope, F, gl, G⟩ := D.ex
  exact a_call0 G hr hgd hg gl F.kp (bindK_of F (B body scope)) hkw hpn hpm hall hks hdb hpl
theorem c_fnP (i : Nat) {y : Str} {p2 : Pos} {l : M (List PyData)} {na : Nat} (D : DefAt X.prog X.w X.K X.mg X.base x params k (na + 1) ps true g) (B : Bnd x params ps (na + 1) 0 [] (List.range (na + 1))) (hr : Room k X.A) (hgd : X.A.guards = some []) (hg : Gl X x) (ha : LOk X es l)
    (hN : X.N[i]? = some y := by rfl) (hv : Vis X.env.scope y := by first | exact Or.inl rfl | exact Or.inr (Or.inl rfl) | exact Or.inr (Or.inr rfl))
    (hd : (y == ("__debug__" : Str)) = false := by decide) (hcd : (y == ("__classdict__" : Str)) = false := by decide)
    (hdb : (x == ("__debug__" : Str)) = false := by decide) (he : starEach (.Name y p2 :: es) X.env = (false, eval (.Name y p2) X.env) :: starEach es X.env := by rfl)
    (hpl : ((backTo pos (starEach (.Name y p2 :: es) X.env)).any (·.1) || (backToKw pos (keywordEach [] X.env)).any (·.1.isNone)) = false := by rfl) :
    AOk X (.Call (.Name x p) (.Name y p2 :: es) [] pos) (gFnP g i na l) := by
  obtain ⟨f, fd, body, scope, F, gl, G⟩ := D.ex
  exact a_callP i G hr hgd hg gl F.kp (bindK_of F (B body scope)) ha hN hv hd hcd hdb he hpl
theorem c_fnT {e0 : Expr} {f0 : M AV} {l : M (List PyData)} {na : Nat} (D : DefAt X.prog X.w X.K X.mg X.base x params k (na + 1) ps true g) (B : Bnd x params ps (na + 1) 0 [] (List.range (na + 1))) (hr : Room k X.A) (hgd : X.A.guards = some []) (hg : Gl X x) (h0 : AOk X e0 f0) (ha : LOk X es l)
    (hdb : (x == ("__debug__" : Str)) = false := by decide) (he : starEach (e0 :: es) X.env = (false, eval e0 X.env) :: starEach es X.env := by rfl)
    (hpl : ((backTo pos (starEach (e0 :: es) X.env)).any (·.1) || (backToKw pos (keywordEach [] X.env)).any (·.1.isNone)) = false := by rfl) :
    AOk X (.Call (.Name x p) (e0 :: es) [] pos) (gFnT g na f0 l) := by
  obtain ⟨f, fd, body, scope, F, gl, G⟩ := D.ex
  exact a_callT G hr hgd hg gl F.kp (bindK_of F (B body scope)) h0 ha hdb he hpl
theorem c_fnS (i : Nat) {y : Str} {p2 : Pos} {l : M (List PyData)} {na : Nat} (D : DefAt X.prog X.w X.K X.mg X.base x params k (na + 1) ps false g) (B : Bnd x params ps (na + 1) 0 [] (List.range (na + 1))) (hr : Room k X.A) (hgd : X.A.guards = some []) (hg : Gl X x) (ha : LOk X es l)
    (hN : X.N[i]? = some y := by rfl) (hv : Vis X.env.scope y := by first | exact Or.inl rfl | exact Or.inr (Or.inl rfl) | exact Or.inr (Or.inr rfl))
    (hd : (y == ("__debug__" : Str)) = false := by decide) (hcd : (y == ("__classdict__" : Str)) = false := by decide)
    (hdb : (x == ("__debug__" : Str)) = false := by decide) (he : starEach (.Name y p2 :: es) X.env = (false, eval (.Name y p2) X.env) :: starEach es X.env := by rfl)
    (hpl : ((backTo pos (starEach (.Name y p2 :: es) X.env)).any (·.1) || (backToKw pos (keywordEach [] X.env)).any (·.1.isNone)) = false := by rfl) :
    AOk X (.Call (.Name x p) (.Name y p2 :: es) [] pos) (gFnS g i na l) := by
  obtain ⟨f, fd, body, scope, F, gl, G⟩ := D.ex
  exact a_callS i G hr hgd hg gl F.kp (bindK_of F (B body scope)) ha hN hv hd hcd hdb he hpl
end
end Pv

namespace Pv
open PySem PySem.Spec L2
open PyProof.Rows hiding St
/-! Pv11: values side by side, stored side by side; append to a thing at hand -/
section
variable (K : PySem.W.Frag)
def ASJ (f : M (List AV)) (t : TA) : Prop := ∀ δ as δ', f δ = some (as, δ') → ∀ (σ : St) (H : Hp) (F : Fz) (os : List Addr) (Q : List V → Hp → Prop), SR K δ σ H F os →
  (∀ vs H' F' os', Step H F os H' F' os' → SR K (as.map some ++ δ') (vs.map some ++ σ) H' F' os' → vs.length = as.length → Q vs H') → t σ H Q
end
structure AsOk (X : Cx) (es : List Expr) (f : M (List AV)) : Prop where
  ex : ∃ t, PA X es t ∧ ASJ X.K f t
section
variable {X : Cx} {Z : List Nat} {e a b c : Expr} {pos : Pos}
theorem as_nil : AsOk X [] (ret []) := ⟨tNil, pa_nil, fun δ as δ' hf σ H F os Q S k => by obtain ⟨rfl, rfl⟩ := ret_some hf; exact k [] H F os .refl S rfl⟩
def acons (f : M AV) (g : M (List AV)) : M (List AV) := bnd f fun a => bnd g fun r => ret (a :: r)
theorem as_cons {es : List Expr} {f : M AV} {g : M (List AV)} (ha : AOk X e f) (hr : AsOk X es g) (hs : starEach (e :: es) X.env = (false, eval e X.env) :: starEach es X.env := by rfl) : AsOk X (e :: es) (acons f g) := by
  obtain ⟨ta, pa, ja⟩ := ha.ex
  obtain ⟨tr, pr, jr⟩ := hr.ex
  refine ⟨tCons ta tr, pa_cons pa pr hs, fun δ as δ' hf σ H F os Q S k => ?_⟩
  obtain ⟨x, δ1, h1, h2⟩ := bnd_some hf
  obtain ⟨r, δ2, h3, h4⟩ := bnd_some h2
  obtain ⟨rfl, rfl⟩ := ret_some h4
  refine ja δ x δ1 h1 σ H F os _ S fun v H1 F1 os1 st1 S1 => ?_
  obtain ⟨osf, mf, Sf, back⟩ := S1.frame
  refine jr δ1 r _ h3 σ H1 F1 osf _ Sf fun vs H2 F2 os2 st2 S2 hl => ?_
  obtain ⟨os3, S3, st3⟩ := back H2 F2 os2 _ _ st2 S2
  exact k (v :: vs) H2 F2 os3 (st1.trans st3) S3 (congrArg (· + 1) hl)
def setL : List Nat → List AV → En → En
  | i :: is, a :: as, δ => setL is as (δ.set i (some a))
  | _, _, δ => δ
def setV : List Nat → List V → St → St
  | i :: is, a :: as, δ => setV is as (δ.set i (some a))
  | _, _, δ => δ
theorem set_append {α : Type} {xs ys : List α} {i : Nat} {y : α} : (xs ++ ys).set (xs.length + i) y = xs ++ ys.set i y := by
  induction xs with
  | nil => simp
  | cons x xs ih => rw [List.length_cons, Nat.succ_add]; simp [ih]
theorem SR.putL {K : PySem.W.Frag} {F : Fz} {H : Hp} : ∀ {is : List Nat} {as : List AV} {vs : List V} {δ : En} {σ : St} {os : List Addr}, SR K (as.map some ++ δ) (vs.map some ++ σ) H F os → vs.length = as.length → is.length = as.length →
    ∃ os', SR K (setL is as δ) (setV is vs σ) H F os' ∧ ∀ q ∈ os', q ∈ os
  | [], [], [], δ, σ, os, S, _, _ => ⟨os, S, fun _ h => h⟩
  | i :: is, a :: as, v :: vs, δ, σ, os, S, h1, h2 => by
    have S : SR K (some a :: (as.map some ++ δ)) (some v :: (vs.map some ++ σ)) H F os := S
    obtain ⟨os1, S1, m1⟩ := S.put (i := (as.map some).length + i)
    have e : (as.map some).length = (vs.map some).length := by simpa using h1.symm
    rw [set_append, e, set_append] at S1
    obtain ⟨os2, S2, m2⟩ := SR.putL (is := is) S1 (by simpa using h1) (by simpa using h2)
    exact ⟨os2, S2, fun q h => m1 q (m2 q h)⟩
  | [], _ :: _, _, _, _, _, _, _, h => by simp at h
  | _ :: _, [], _, _, _, _, _, _, h => by simp at h
  | [], [], _ :: _, _, _, _, _, h, _ => by simp at h
  | _ :: _, _ :: _, [], _, _, _, _, h, _ => by simp at h
theorem fix_setV {Z : List Nat} : ∀ {is : List Nat} {vs : List V} {σ : St}, (∀ i ∈ is, i ∉ Z) → Fix Z σ (setV is vs σ)
  | [], _, _, _ => .refl
  | _ :: _, [], _, _ => .refl
  | i :: is, v :: vs, σ, h => (Fix.set (h i (List.mem_cons_self ..))).trans (fix_setV fun j m => h j (List.mem_cons_of_mem _ m))
/-- a, b, .. = x, y, .. -/
def gParL (is : List Nat) (f : M (List AV)) : Sm := fun δ => match f δ with
  | some (as, δ1) => if as.length = is.length then some (.nx (setL is as δ1)) else none
  | none => none
theorem sj_par {is : List Nat} {f : M (List AV)} {ta : TA} (ja : ASJ X.K f ta) (hz : ∀ i ∈ is, i ∉ Z) : SJ X.K Z (gParL is f) (fun D σ H => ta σ H fun vs H1 => vs.length = is.length ∧ D.nx (setV is vs σ) H1) := by
  intro δ r hf σ H F os D S k
  unfold gParL at hf
  split at hf
  · next as δ1 h1 =>
    split at hf
    · next hl =>
      cases hf
      refine ja δ as δ1 h1 σ H F os _ S fun vs H1 F1 os1 st1 S1 e => ⟨e.trans hl, ?_⟩
      obtain ⟨os2, S2, m2⟩ := S1.putL e hl.symm
      exact k _ H1 F1 os2 (fix_setV hz) (st1.less m2) S2
    · cases hf
  · cases hf
theorem PS.of {st : Stmt} {t t' : TS} (h : PS X st t) (w : ∀ D σ H, t' D σ H → t D σ H) : PS X st t' := ⟨fun pins s σ H D I q => h.run pins s σ H D I (w D σ H q)⟩
theorem PA.mono {es : List Expr} {t : TA} (h : PA X es t) {σ : St} {H : Hp} : True := trivial
theorem len2 {vs : List V} (h : vs.length = 2) : ∃ a b, vs = [a, b] := by
  match vs, h with
  | [a, b], _ => exact ⟨a, b, rfl⟩
theorem len3 {vs : List V} (h : vs.length = 3) : ∃ a b c, vs = [a, b, c] := by
  match vs, h with
  | [a, b, c], _ => exact ⟨a, b, c, rfl⟩
theorem s_par2 {i j : Nat} {x y : Str} {f : M (List AV)} {px py pt : Pos} {kt k2 pt2} (hc : X.calm = true) (hN : X.N.Nodup) (ha : AsOk X [a, b] f) (hz : ∀ q ∈ [i, j], q ∉ Z := by decide)
    (hi : X.N[i]? = some x := by rfl) (hj : X.N[j]? = some y := by rfl) (hij : i ≠ j := by decide)
    (hx : X.env.scope.names.lookup x = some .local := by rfl) (hy : X.env.scope.names.lookup y = some .local := by rfl)
    (hw : swappedStores [.Tuple [.Name x px, .Name y py] kt pt] (.Tuple [a, b] k2 pt2) X.env = pure (some [x, y]) := by rfl)
    (hs : swapsWithSole [.Tuple [.Name x px, .Name y py] kt pt] (.Tuple [a, b] k2 pt2) pos.line X.env = pure false := by rfl) :
    SOk X Z (.Assign [.Tuple [.Name x px, .Name y py] kt pt] (.Tuple [a, b] k2 pt2) pos) (gParL [i, j] f) := by
  obtain ⟨ta, pa, ja⟩ := ha.ex
  refine ⟨_, ps_par hc hN hi hj hij hx hy (ta := fun σ H Q => ta σ H fun vs H1 => vs.length = 2 ∧ Q vs H1) ⟨fun pos pins s σ H Q I q => ?_⟩ hw hs, ?_⟩
  · exact thn (pa.run pos pins s σ H _ I q) fun us s1 ⟨vs, H1, I1, r1, _, q1⟩ => ⟨vs, H1, I1, r1, q1⟩
  · intro δ r hf σ H F os D S k
    unfold gParL at hf
    split at hf
    · next as δ1 h1 =>
      split at hf
      · next hl =>
        cases hf
        refine ja δ as δ1 h1 σ H F os _ S fun vs H1 F1 os1 st1 S1 e => ?_
        obtain ⟨v, w, rfl⟩ := len2 (e.trans hl)
        obtain ⟨os2, S2, m2⟩ := S1.putL e hl.symm
        exact ⟨rfl, v, w, rfl, k _ H1 F1 os2 (fix_setV (is := [i, j]) (vs := [v, w]) hz) (st1.less m2) S2⟩
      · cases hf
    · cases hf
theorem s_par3 {i j l : Nat} {x y z : Str} {f : M (List AV)} {px py pz pt : Pos} {kt k2 pt2} (hc : X.calm = true) (hN : X.N.Nodup) (ha : AsOk X [a, b, c] f) (hZ : ∀ q ∈ [i, j, l], q ∉ Z := by decide)
    (hi : X.N[i]? = some x := by rfl) (hj : X.N[j]? = some y := by rfl) (hl : X.N[l]? = some z := by rfl) (hij : i ≠ j := by decide) (hil : i ≠ l := by decide) (hjl : j ≠ l := by decide)
    (hx : X.env.scope.names.lookup x = some .local := by rfl) (hy : X.env.scope.names.lookup y = some .local := by rfl) (hz : X.env.scope.names.lookup z = some .local := by rfl)
    (hw : swappedStores [.Tuple [.Name x px, .Name y py, .Name z pz] kt pt] (.Tuple [a, b, c] k2 pt2) X.env = pure (some [x, y, z]) := by rfl)
    (hs : swapsWithSole [.Tuple [.Name x px, .Name y py, .Name z pz] kt pt] (.Tuple [a, b, c] k2 pt2) pos.line X.env = pure false := by rfl) :
    SOk X Z (.Assign [.Tuple [.Name x px, .Name y py, .Name z pz] kt pt] (.Tuple [a, b, c] k2 pt2) pos) (gParL [i, j, l] f) := by
  obtain ⟨ta, pa, ja⟩ := ha.ex
  refine ⟨_, ps_par3 hc hN hi hj hl hij hil hjl hx hy hz pa hw hs, ?_⟩
  intro δ r hf σ H F os D S k
  unfold gParL at hf
  split at hf
  · next as δ1 h1 =>
    split at hf
    · next hl =>
      cases hf
      refine ja δ as δ1 h1 σ H F os _ S fun vs H1 F1 os1 st1 S1 e => ?_
      obtain ⟨v, w, u, rfl⟩ := len3 (e.trans hl)
      obtain ⟨os2, S2, m2⟩ := S1.putL e hl.symm
      exact ⟨v, w, u, rfl, k _ H1 F1 os2 (fix_setV (is := [i, j, l]) (vs := [v, w, u]) hZ) (st1.less m2) S2⟩
    · cases hf
  · cases hf
/-- names that are stored to, one behind the other -/
inductive Nms (X : Cx) (Z : List Nat) : List Expr → List Nat → Prop where
  | nil : Nms X Z [] []
  | cons {i : Nat} {x : Str} {p : Pos} {ts : List Expr} {is : List Nat} : X.N[i]? = some x → Loc X.env.scope x → (X.fn x = true ∨ X.env.scope.names.lookup x = some .local) → i ∉ Z →
      (assignEach (.Name x p :: ts) X.env).map (·.2) = assign (.Name x p) X.env :: (assignEach ts X.env).map (·.2) → Nms X Z ts is → Nms X Z (.Name x p :: ts) (i :: is)
theorem nm (i : Nat) {x : Str} {p : Pos} {ts : List Expr} {is : List Nat} (h : Nms X Z ts is) (hi : X.N[i]? = some x := by rfl) (hx : Loc X.env.scope x := by first | exact Or.inl rfl | exact Or.inr rfl)
    (hf : X.fn x = true ∨ X.env.scope.names.lookup x = some .local := by first | exact .inl rfl | exact .inr rfl | assumption) (hz : i ∉ Z := by decide)
    (hs : (assignEach (.Name x p :: ts) X.env).map (·.2) = assign (.Name x p) X.env :: (assignEach ts X.env).map (·.2) := by rfl) : Nms X Z (.Name x p :: ts) (i :: is) := .cons hi hx hf hz hs h
def tgL : List Nat → TGs
  | [] => L2.gNil
  | i :: is => gCons (gName i) (tgL is)
theorem Nms.pgs (hN : X.N.Nodup) : ∀ {ts : List Expr} {is : List Nat}, Nms X Z ts is → PGs X ts (tgL is)
  | _, _, .nil => pgs_nil
  | _, _, .cons hi hx hf _ hs h => pgs_cons (pg_name hN hi hx hf) (h.pgs hN) hs
theorem Nms.out : ∀ {ts : List Expr} {is : List Nat}, Nms X Z ts is → ∀ i ∈ is, i ∉ Z
  | _, _, .nil, i, m => absurd m List.not_mem_nil
  | _, _, .cons _ _ _ hz _ h, i, m => by
    rcases List.mem_cons.mp m with rfl | m
    · exact hz
    · exact h.out i m
theorem tgL_run : ∀ {is : List Nat} {vs : List V} {σ : St} {H : Hp} {Q : St → Hp → Prop}, vs.length = is.length → Q (setV is vs σ) H → tgL is vs σ H Q
  | [], [], _, _, _, _, q => ⟨rfl, q⟩
  | i :: is, v :: vs, σ, H, Q, h, q => ⟨v, vs, rfl, tgL_run (is := is) (by simpa using h) q⟩
  | [], _ :: _, _, _, _, h, _ => by simp at h
  | _ :: _, [], _, _, _, h, _ => by simp at h
/-- the pair itself is not tracked -/
theorem s_parG {ts es : List Expr} {is : List Nat} {f : M (List AV)} {kt : Nat} {pt pt2 : Pos} {k2 : Nat} {n : Nat} (hc : X.calm = true) (hN : X.N.Nodup) (ha : AsOk X es f) (hn : Nms X Z ts is)
    (hlen : is.length = n := by rfl) (hn3 : n ≤ sizeLine := by decide) (hns : (assignEach ts X.env).length = n := by rfl) (hst : (assignEach ts X.env).findIdx? (·.1) = none := by rfl)
    (hs : swapsWithSole [.Tuple ts kt pt] (.Tuple es k2 pt2) pos.line X.env = pure false := by rfl) (hw : swappedStores [.Tuple ts kt pt] (.Tuple es k2 pt2) X.env = pure none := by rfl)
    (h1 : (assignEach [.Tuple ts kt pt] X.env).map (·.2) = [assign (.Tuple ts kt pt) X.env] := by rfl) :
    SOk X Z (.Assign [.Tuple ts kt pt] (.Tuple es k2 pt2) pos) (gParL is f) := by
  obtain ⟨ta, pa, ja⟩ := ha.ex
  refine ⟨_, ⟨fun pins s σ H D I h => ?_⟩, sj_par ja hn.out⟩
  refine wpAny_Assign_stores (Tuple_ (thn (pa.run _ pins s σ H _ I h) fun us s1 ⟨vs, H1, I1, r1, l1, q1⟩ => ?_)) hs hw
  rw [h1]
  have lu : us.length = n := by rw [← hlen, ← l1]; exact r1.length.symm
  refine wpAny_newObj_type ?_ (by show us.toArray.size ≤ sizeLine; rw [List.size_toArray, lu]; exact hn3)
  have I2 : Inv X pins σ H1 { s1 with heap := s1.heap.push { cls := .type "tuple", data := .seq us.toArray } } := I1.kept (t' := s1.toks) fun b o e => Heap.get?_push_of_some _ e
  have fin : wpAny (model X.prog X.w) X.A (assign (.Tuple ts kt pt) X.env (.ref s1.heap.objs.size)) (fun _ s' => ∃ σ' H', Inv X pins σ' H' s' ∧ D.nx σ' H') X.xe { s1 with heap := s1.heap.push { cls := .type "tuple", data := .seq us.toArray } } := by
    refine assign_Tuple_tuple (I.ok.hd hc) (IsTup.new s1.heap _) (by rw [List.size_toArray, lu, hns]) hst fun h' hx => ?_
    have I3 := I2.kept (h' := h') (t' := s1.toks) fun b o e => hx b o (Nat.ne_of_lt (Heap.lt_size e)) e
    exact (hn.pgs hN).run pins _ σ H1 vs us D.nx I3 r1 (tgL_run l1 q1)
  exact thn fin fun _ s2 q => q
/-- e.append(x), e at hand -/
def gAppT (f g : M AV) : M AV := fun δ => match f δ with
  | some (.ow xs, δ1) => (match g δ1 with
    | some (_, δ2) => if xs.length < lim then some (.fz .none, δ2) else none
    | none => none)
  | _ => none
theorem a_appT {f g : M AV} {apos cpos : Pos} (ha : AOk X a f) (hb : AOk X e g)
    (hbase : attributeBase a "append" X.env (eval a X.env) = eval a X.env := by rfl)
    (hfew : ((backTo cpos (starEach [e] X.env)).all (fun x => !x.1) && (backToKw cpos (keywordEach [] X.env)).all (fun x => x.1.isSome)
      && decide (([e] : List Expr).length + ([] : List Keyword).length + (if ([] : List Keyword).isEmpty then 0 else 1) < 30)) = true := by rfl)
    (hline : (apos.endLine == cpos.line) = true := by rfl) (hs : starEach [e] X.env = (false, eval e X.env) :: starEach [] X.env := by rfl) (hplain : (backTo cpos (starEach [] X.env)).any (·.1) = false := by rfl) :
    AOk X (.Call (.Attribute a "append" apos) [e] [] cpos) (gAppT f g) := by
  obtain ⟨ta, pa, ja⟩ := ha.ex
  obtain ⟨tb, pb, jb⟩ := hb.ex
  refine ⟨_, pe_bm PySem.F.plainAttrs_list PySem.F.slot_list_append PySem.F.type_list_append mt_append pa (pa_cons pb pa_nil hs) hbase hfew hline hs hplain, fun δ r δ' hf σ H F os Q S k => ?_⟩
  unfold gAppT at hf
  split at hf
  · next xs δ1 h1 =>
    split at hf
    · next b δ2 h2 =>
      split at hf
      · next hl =>
        cases hf
        refine ja δ _ δ1 h1 σ H F os _ S fun v H1 F1 os1 st1 S1 => ?_
        have hv : ∃ p ws, v = .ref p ∧ H1 p = some (.lst ws) := by
          cases S1.env with
          | som ra _ => cases ra with | ow hp _ => exact ⟨_, _, rfl, hp⟩
        obtain ⟨p0, ws, rfl, hp0⟩ := hv
        refine ⟨.inl ⟨rfl, ws, SqL.of hp0⟩, ?_⟩
        obtain ⟨osf, mf, Sf, back⟩ := S1.frame
        refine jb δ1 b _ h2 σ H1 F1 osf _ Sf fun w H2 F2 os2 st2 S2 => ?_
        obtain ⟨os3, S3, st3⟩ := back H2 F2 os2 _ _ st2 S2
        have S3 : SR X.K (some (.ow xs) :: some b :: δ') (some (.ref p0) :: some w :: σ) H2 F2 os3 := S3
        obtain ⟨vs, os4, h3, h4, S4, st4⟩ := S3.wr (as' := xs ++ [b]) (g := fun vs => vs ++ [w]) fun vs o oa r1 r2 nd =>
          ⟨o ++ (oa ++ []), ras_app (.cons r2 .nil) r1, by rw [List.append_nil]; exact nd, fun q m => by simpa using m⟩
        refine ⟨p0, vs, w, rfl, rfl, h3, by rw [h4]; exact Nat.lt_of_lt_of_le hl lim_line, ?_⟩
        obtain ⟨os5, m5, S5⟩ := S4.drop
        exact k .non _ F2 os5 ((st1.trans st3).trans (st4.less m5)) (S5.cons .non)
      · cases hf
    · cases hf
  · cases hf
end
theorem room_u64 {k : Nat} {A : Around} (r : Room k A) : A.units + 64 < cLine := by have := r.un; omega
theorem _root_.L2.Room.u64 {k : Nat} {A : Around} (r : Room k A) : A.units + 64 < cLine := room_u64 r
/-- how far a slot's number goes down at most -/
def natAt (i : Nat) (δ : En) : Nat := match δ[i]? with
  | some (some (.fz (.int n))) => n.natAbs + 2
  | _ => 0
theorem d_gint {X : Cx} {x : Str} {i : Int} {t : Tok} {pos : Pos} (hg : Gl X x) (hm : X.mg x = some (.int i t)) (hd : (x == ("__debug__" : Str)) = false := by decide) : DOk X (.Name x pos) (ret (.int i)) :=
  d_glob (v := .int i) hg hm ⟨_, rfl⟩ (fun _ _ => .int _) hd
end Pv

namespace Pv
open PySem PySem.Spec L2
open PyProof.Rows hiding St
/-! Pv12: x[::-1] -/
section
variable {prog : Program} {w : World} {A : Around} {E : Value → Shared → Prop} {s : Shared}
theorem fm_congr {α β : Type} {f g : α → Option β} : ∀ {l : List α}, (∀ x ∈ l, f x = g x) → l.filterMap f = l.filterMap g
  | [], _ => rfl
  | x :: l, h => by
    rw [List.filterMap_cons, List.filterMap_cons, h x (List.mem_cons_self ..), fm_congr fun y m => h y (List.mem_cons_of_mem _ m)]
theorem fm_get {α : Type} : ∀ (xs : List α) (f : Nat → Nat), (∀ k, k < xs.length → f k = xs.length - 1 - k) → (List.range xs.length).filterMap (fun k => xs[f k]?) = xs.reverse := by
  intro xs f hf
  apply List.ext_getElem?
  have e : (List.range xs.length).filterMap (fun k => xs[f k]?) = (List.range xs.length).filterMap (fun k => (xs.reverse)[k]?) := by
    apply fm_congr
    intro k hk
    have hk := List.mem_range.mp hk
    rw [hf k hk, List.getElem?_reverse hk]
  rw [e]
  have e2 : ∀ ys : List α, (List.range ys.length).filterMap (fun k => ys[k]?) = ys := by
    intro ys
    induction ys with
    | nil => rfl
    | cons y ys ih =>
      rw [List.length_cons, List.range_succ_eq_map, List.filterMap_cons]
      simp only [List.getElem?_cons_zero, List.filterMap_map]
      congr 1
  have := e2 xs.reverse
  rw [List.length_reverse] at this
  rw [this]
  intro i; rfl
theorem pick_rev (xs : Array Value) : slicePick xs none none (some (-1)) = xs.toList.reverse.toArray := by
  unfold slicePick sliceBounds sliceRange
  have h1 : ¬ ((some (-1 : Int)).getD 1 > 0) := by decide
  simp only [h1, if_false]
  have hl : (if ((xs.size : Int) - 1) > -1 then (((xs.size : Int) - 1) - -1 - (some (-1 : Int)).getD 1 - 1) / (-(some (-1 : Int)).getD 1) else 0).toNat = xs.size := by
    show (if ((xs.size : Int) - 1) > -1 then (((xs.size : Int) - 1) - -1 - -1 - 1) / (- -1) else 0).toNat = xs.size
    split
    · rw [show (-(-1 : Int)) = 1 from rfl, Int.ediv_one]; omega
    · omega
  rw [hl, List.filterMap_map]
  congr 1
  have := fm_get xs.toList (fun k => (((xs.size : Int) - 1) + (some (-1 : Int)).getD 1 * (k : Int)).toNat) (fun k hk => by
    have hk' : k < xs.size := by simpa using hk
    show (((xs.size : Int) - 1) + -1 * (k : Int)).toNat = xs.toList.length - 1 - k
    rw [Array.length_toList]
    omega)
  rw [Array.length_toList] at this
  simpa [Function.comp_def] using this
theorem sliceApplied_rev {sl : Addr} {t : Tok} {n : Nat} {Q : Int × Int × Nat → Shared → Prop} (hs : s.heap.IsSliceOf sl .none .none (.int (-1) t)) (h : Q ((n : Int) - 1, -1, n) s) :
    wpAny (model prog w) A (Builtin.Slice.sliceApplied (.ref sl) (pure (n : Int))) Q E s := by
  obtain ⟨os, hos, hcs, hds⟩ := id hs
  unfold Builtin.Slice.sliceApplied Builtin.Slice.sliceFields
  refine wpAny_bind (wpAny_bind (wpAny_field hos hds (x := .none) rfl (wpAny_bind (wpAny_field hos hds (x := .none) rfl (wpAny_bind (wpAny_field hos hds (x := .int (-1) t) rfl (wpAny_pure ?_)))))))
  refine wpAny_bind (HT.slicePart_ (.int (-1) t) ?_)
  show wpAny _ _ (if ((-1 : Int) == 0) = true then _ else _) _ _ s
  rw [if_neg (by decide)]
  refine wpAny_bind (HT.slicePart_ .none (wpAny_bind (HT.slicePart_ .none (wpAny_bind (wpAny_pure ?_)))))
  show wpAny _ _ (pure ((n : Int) - 1, (-1 : Int), Builtin.Slice.slicePlaces ((n : Int) - 1) (-1) (-1))) _ _ s
  have e : Builtin.Slice.slicePlaces ((n : Int) - 1) (-1) (-1) = n := by
    unfold Builtin.Slice.slicePlaces
    rw [if_neg (by decide), show (-(-1 : Int)) = 1 from rfl, Int.ediv_one]
    split <;> omega
  rw [e]
  exact wpAny_pure h
theorem pick_revT (xs : Array Value) : ((List.range xs.size).filterMap fun (k : Nat) => xs[(((xs.size : Int) - 1) + (k : Int) * -1).toNat]?).toArray = xs.toList.reverse.toArray := by
  have := fm_get xs.toList (fun k => (((xs.size : Int) - 1) + (k : Int) * -1).toNat) (fun k hk => by
    have hk' : k < xs.size := by simpa using hk
    rw [Array.length_toList]
    omega)
  rw [Array.length_toList] at this
  rw [← this]
  simp
theorem getItem_tuple_rev {t sl : Addr} {tk : Tok} {items : Array Value} {Q : Value → Shared → Prop} (ht : IsTup s.heap t items) (hs : s.heap.IsSliceOf sl .none .none (.int (-1) tk))
    (h : Q (.ref s.heap.objs.size) { s with heap := s.heap.push { cls := .type "tuple", data := .seq items.toList.reverse.toArray } })
    (hsz : items.size ≤ sizeLine) : wpAny (model prog w) A (getItem (.ref t) (.ref sl)) Q E s := by
  have htake : sizeOk (.seq items.toList.reverse.toArray) := by
    show items.toList.reverse.toArray.size ≤ sizeLine
    simpa using hsz
  obtain ⟨os, hos, hcs, hds⟩ := id hs
  have hTs : s.TypeIs (.ref sl) "slice" := ⟨os, hos, hcs⟩
  unfold getItem
  try with_reducible refine wpAny_holding ?_
  first | refine wpAny_bind (wpAny_pure ?_) | skip
  refine wpAny_bind (wpAny_sequenceKey ht.typeIs (by decide) ?_)
  refine wpAny_bind (wpAny_callSpecial?_slot (name := Str.ofString "__getitem__") ht.typeIs PyProof.Rows.slot_tuple_getitem
    (wpAny_call_entry PyProof.Rows.slot_tuple_getitem ht.typeIs entry_tuple_getitem ?_ (args_tuple_getitem _ _)))
  show wpAny _ _ (Builtin.Tuple.tupleItemsOf (.ref t) >>= _) _ _ s
  refine wpAny_bind (tupleItemsOf_ ht ?_)
  refine wpAny_bind (wpAny_typeOf hTs ?_)
  rw [if_pos (by decide)]
  refine wpAny_bind (sliceApplied_rev hs ?_)
  show wpAny _ _ (if (((items.size : Int) - 1) == 0 && (-1 : Int) == 1 && items.size == items.size) = true then _ else _) _ _ s
  rw [if_neg (by simp), pick_revT]
  first
    | exact wpAny_bind (m := Builtin.Tuple.tupleExact _) (wpAny_newObj_type (wpAny_pure ⟨_, rfl, wpAny_pure h⟩) htake)
    | exact wpAny_bind (m := Builtin.Tuple.tupleExact _) (wpAny_newObj_type (wpAny_bind (wpAny_pure (wpAny_pure ⟨_, rfl, wpAny_pure h⟩))) htake)
    | exact wpAny_bind (wpAny_bind (m := Builtin.Tuple.tupleExact _) (wpAny_newObj_type (wpAny_pure (wpAny_pure ⟨_, rfl, wpAny_pure h⟩)) htake))
    | exact wpAny_bind (wpAny_bind (m := Builtin.Tuple.tupleExact _) (wpAny_newObj_type (wpAny_pure ⟨_, rfl, wpAny_pure h⟩) htake))
end
section
variable {X : Cx} {Z : List Nat} {e a b c : Expr} {pos : Pos}
def rRev (K : PySem.W.Frag) : V → Hp → VK → Prop := fun x H Q => ∃ a xs, x = .ref a ∧ ((SqL K H a xs ∧ ∀ p, H p = none → Q (.ref p) (upd H p (.lst xs.reverse))) ∨ (SqT K H a xs ∧ ∀ p, H p = none → Q (.ref p) (upd H p (.tup xs.reverse))))
theorem pe_rev {te : TE} {p1 p2 p3 : Pos} {j : Nat} (he : PE X e te) : PE X (.Subscript e (.Slice none none (some (.UnaryOp .USub (.Constant (.int 1) j p1) p2)) p3) pos) (fun σ H Q => te σ H fun x H1 => rRev X.K x H1 Q) := by
  refine ⟨fun pins s σ H Q I h => ?_⟩
  refine Subscript_ (thn (he.run pins s σ H _ I h) fun v s1 ⟨x, H1, I1, r1, q1⟩ => ?_)
  refine wpAny_Slice ?_
  rw [evalPart_none, evalPart_some]
  refine wpAny_pure (wpAny_pure ?_)
  refine thn ((pe_un (X := X) (pos := p2) un_neg (pe_int (i := 1) (j := j) (pos := p1))).run pins s1 σ H1 (fun z H' => z = V.int (-1) ∧ rRev X.K x H' Q) I1 ⟨1, rfl, rfl, q1⟩) fun v3 s3 ⟨z, H3, I3, r3, e3, q3⟩ => ?_
  subst e3
  obtain ⟨tk, rfl⟩ := r3
  have I4 : Inv X pins σ H3 { s3 with heap := s3.heap.push { cls := .type "slice", data := .fields #[.none, .none, .int (-1) tk] } } := I3.kept (t' := s3.toks) fun b ob q => Heap.get?_push_of_some _ q
  have hs : Heap.IsSliceOf (s3.heap.push { cls := .type "slice", data := .fields #[.none, .none, .int (-1) tk] }) s3.heap.objs.size .none .none (.int (-1) tk) := Heap.IsSliceOf.new ..
  show wpAny (model X.prog X.w) X.A (subscriptTail e _ v (.ref s3.heap.objs.size)) (EP X pins σ Q) X.xe { s3 with heap := s3.heap.push { cls := .type "slice", data := .fields #[.none, .none, .int (-1) tk] } }
  obtain ⟨a, xs, rfl, q3⟩ := q3
  cases r1
  rcases q3 with ⟨hx, q⟩ | ⟨hx, q⟩
  · obtain ⟨its, r, ht, hz⟩ := I4.list hx
    have hlen := r.length
    refine tail_any (ops := [.ref a, .ref s3.heap.objs.size]) (T := "list") ht.isList.typeIs slot_list_getitem.lookup ?_ (by with_unfolding_all rfl)
    refine wpAny_getItem_list_slice ht.isList hs .none .none (.int (-1) tk) (by simp) ?_ (by rw [List.size_toArray] <;> omega)
    rw [pick_rev]
    refine ⟨.ref (s3.heap.push { cls := .type "slice", data := .fields #[.none, .none, .int (-1) tk] }).objs.size, _, I4.laid (t' := s3.toks) (o := .lst xs.reverse) (fun b ob q => Heap.get?_push_of_some _ q) (Nat.le_refl _) ?_, rfl, q _ (I4.hok.fresh (Nat.le_refl _))⟩
    exact ⟨by rw [List.length_reverse]; exact hz, _, 0, r.reverse, Heap.get?_push_size _ rfl⟩
  · obtain ⟨its, r, ht, hz⟩ := I4.tuple hx
    have hlen : its.toArray.size = xs.length := by rw [List.size_toArray]; exact r.length.symm
    refine tail_any (ops := [.ref a, .ref s3.heap.objs.size]) (T := "tuple") ht.typeIs PyProof.Rows.slot_tuple_getitem.lookup ?_ (by with_unfolding_all rfl)
    refine getItem_tuple_rev ht hs ?_ (by rw [hlen]; exact hz)
    refine ⟨.ref (s3.heap.push { cls := .type "slice", data := .fields #[.none, .none, .int (-1) tk] }).objs.size, _, I4.laid (t' := s3.toks) (o := .tup xs.reverse) (fun b ob q => Heap.get?_push_of_some _ q) (Nat.le_refl _) ?_, rfl, q _ (I4.hok.fresh (Nat.le_refl _))⟩
    exact ⟨by rw [List.length_reverse]; exact hz, _, r.reverse, IsTup.new _ _⟩
def revD : PyData → Option AV
  | .list ds => some (.ow (fzs ds.reverse))
  | .tuple ds => some (.fz (.tuple ds.reverse))
  | _ => none
def gRev (f : M PyData) : M AV := bnd f fun d => opt (revD d)
theorem rds_rev {K : PySem.W.Frag} {F : Fz} {H : Hp} : ∀ {vs : List V} {ds : List PyData}, RDs K F H vs ds → RDs K F H vs.reverse ds.reverse
  | _, _, .nil => .nil
  | _, _, .cons r t => by
    rw [List.reverse_cons, List.reverse_cons]
    exact rds_append (rds_rev t) (.cons r .nil)
theorem a_rev {f : M PyData} {p1 p2 p3 : Pos} {j : Nat} (he : DOk X e f) : AOk X (.Subscript e (.Slice none none (some (.UnaryOp .USub (.Constant (.int 1) j p1) p2)) p3) pos) (gRev f) := by
  obtain ⟨te, pe, je⟩ := he.ex
  refine ⟨_, pe_rev pe, fun δ a δ' hf σ H F os Q S k => ?_⟩
  obtain ⟨d, δ1, h1, h2⟩ := bnd_some hf
  obtain ⟨h3, rfl⟩ := opt_some h2
  refine je δ d _ h1 σ H F os _ S fun v H1 F1 os1 st1 S1 r1 => ?_
  have fin : ∀ {v : V} {H' : Hp} {F' : Fz} {o : List Addr}, Out X.K F1 H1 a v H' F' o → Q v H' := fun out => by
    obtain ⟨S4, st4⟩ := S1.out out
    exact k _ _ _ _ (st1.trans st4) S4
  unfold revD at h3
  split at h3
  · cases h3
    obtain ⟨p, ws, rfl, f1, q1, r4⟩ := rd_lst r1
    exact ⟨p, ws, rfl, .inl ⟨SqL.of q1, fun n hn => fin (Out.lst S1.dom hn (rds_rev r4))⟩⟩
  · cases h3
    obtain ⟨p, ws, rfl, q1, r4⟩ := rd_tup r1
    exact ⟨p, ws, rfl, .inr ⟨q1.sq, fun n hn => fin (Out.tup S1.dom hn (rds_rev r4))⟩⟩
  · cases h3
end
end Pv

namespace Pv
open PySem PySem.Spec L2
open PyProof.Rows hiding St
/-! Pv13: constants of the module, sorted, max and min of a list, enumerate -/
section
variable {X : Cx} {Z : List Nat} {e a b c : Expr} {pos : Pos}
theorem d_gstr {x z : Str} {t : Tok} (hg : Gl X x) (hm : X.mg x = some (.str z t)) (hd : (x == ("__debug__" : Str)) = false := by decide) : DOk X (.Name x pos) (ret (.str z)) :=
  d_glob (v := .str z) hg hm ⟨_, rfl⟩ (fun _ _ => .str _) hd
theorem d_gtup {x : Str} {vs : List He.Dv} {ds : List PyData} (hg : Gl X x) (hm : X.mg x = some (.ref (He.ga X.K x))) (ht : He.tupB X.K x vs = true) (hr : ∀ F H, RDs X.K F H (vs.map (He.Dv.v X.K)) ds) (hd : (x == ("__debug__" : Str)) = false := by decide) :
    DOk X (.Name x pos) (ret (.tuple ds)) :=
  d_glob (v := .ref (He.ga X.K x)) hg hm rfl (fun F H => .tup (.inr fun H' => He.tupB_ok ht H') (hr F H)) hd
def sortI (ns : List Int) : List Int := ns.mergeSort (fun i j => decide (i ≤ j))
theorem sort_uniq {ns ms : List Int} (hp : ms.Perm ns) (hs : ms.Pairwise (· ≤ ·)) : ms = sortI ns := by
  have h1 : (sortI ns).Pairwise (· ≤ ·) := by
    have := List.pairwise_mergeSort (le := fun i j : Int => decide (i ≤ j)) (fun a b c h1 h2 => by simp at *; omega) (fun a b => by simp; omega) ns
    exact this.imp fun h => by simpa using h
  exact List.Perm.eq_of_pairwise (fun a b _ _ h1 h2 => by omega) hs h1 (hp.trans (List.mergeSort_perm ns _).symm)
def sortedD : List PyData → Option AV
  | [.list ds] => if ds.length < 64 then (intsOf ds).map fun ns => .ow (fzs ((sortI ns).map .int)) else none
  | _ => none
theorem rds_ofInts {K : PySem.W.Frag} {F : Fz} {H : Hp} : ∀ {ns : List Int}, RDs K F H (ns.map V.int) (ns.map .int)
  | [] => .nil
  | n :: ns => .cons (.int n) rds_ofInts
theorem ints_len : ∀ {ds : List PyData} {ns : List Int}, intsOf ds = some ns → ns.length = ds.length
  | [], ns, h => by cases h; rfl
  | d :: ds, ns, h => by
    cases d with
    | int i =>
      have h2 : (intsOf ds).map (i :: ·) = some ns := h
      cases e : intsOf ds with
      | none => rw [e] at h2; cases h2
      | some ms => rw [e] at h2; cases h2; exact congrArg (· + 1) (ints_len e)
    | _ => cases h
theorem c_sorted : CallA X (.builtin "sorted") sortedD := by
  refine ⟨_, cr_sorted, fun ds z hz vs H F Q dom r k => ?_⟩
  unfold sortedD at hz
  split at hz
  · next ds =>
    split at hz
    · next hl =>
      obtain ⟨v, rfl, r1⟩ := rds1 r
      obtain ⟨p, ws, rfl, f1, q1, r2⟩ := rd_lst r1
      cases e : intsOf ds with
      | none => rw [e] at hz; cases hz
      | some ns =>
        rw [e] at hz
        cases hz
        have q := rds_ints r2 e
        subst q
        refine ⟨p, ns, rfl, SqL.of q1, by rw [ints_len e]; exact hl, fun ms n hp hs hn => ?_⟩
        have em := sort_uniq hp hs
        subst em
        exact k _ _ _ _ (Out.lst dom hn rds_ofInts)
    · cases hz
  · cases hz
def maxI : List Int → Option Int
  | [] => none
  | n :: ns => some (ns.foldl max n)
def minI : List Int → Option Int
  | [] => none
  | n :: ns => some (ns.foldl min n)
theorem fold_max : ∀ (ns : List Int) (n : Int), (ns.foldl max n = n ∨ ns.foldl max n ∈ ns) ∧ n ≤ ns.foldl max n ∧ ∀ y ∈ ns, y ≤ ns.foldl max n
  | [], n => ⟨.inl rfl, Int.le_refl _, fun y m => absurd m List.not_mem_nil⟩
  | x :: ns, n => by
    obtain ⟨h1, h2, h3⟩ := fold_max ns (max n x)
    rw [List.foldl_cons]
    refine ⟨?_, by omega, fun y m => ?_⟩
    · rcases h1 with h1 | h1
      · rw [h1]
        rcases Int.le_total n x with h | h
        · rw [Int.max_eq_right h]; exact .inr (List.mem_cons_self ..)
        · rw [Int.max_eq_left h]; exact .inl rfl
      · exact .inr (List.mem_cons_of_mem _ h1)
    · rcases List.mem_cons.mp m with rfl | m
      · omega
      · exact h3 y m
theorem fold_min : ∀ (ns : List Int) (n : Int), (ns.foldl min n = n ∨ ns.foldl min n ∈ ns) ∧ ns.foldl min n ≤ n ∧ ∀ y ∈ ns, ns.foldl min n ≤ y
  | [], n => ⟨.inl rfl, Int.le_refl _, fun y m => absurd m List.not_mem_nil⟩
  | x :: ns, n => by
    obtain ⟨h1, h2, h3⟩ := fold_min ns (min n x)
    rw [List.foldl_cons]
    refine ⟨?_, by omega, fun y m => ?_⟩
    · rcases h1 with h1 | h1
      · rw [h1]
        rcases Int.le_total n x with h | h
        · rw [Int.min_eq_left h]; exact .inl rfl
        · rw [Int.min_eq_right h]; exact .inr (List.mem_cons_self ..)
      · exact .inr (List.mem_cons_of_mem _ h1)
    · rcases List.mem_cons.mp m with rfl | m
      · omega
      · exact h3 y m
def max1D : List PyData → Option AV
  | [.list ds] => (intsOf ds).bind fun ns => (maxI ns).map fun z => .fz (.int z)
  | _ => none
def min1D : List PyData → Option AV
  | [.list ds] => (intsOf ds).bind fun ns => (minI ns).map fun z => .fz (.int z)
  | _ => none
theorem c_max1 (hc : X.calm = true) : CallA X (.builtin "max") max1D := by
  refine ⟨_, cr_max hc, fun ds z hz vs H F Q dom r k => ?_⟩
  unfold max1D at hz
  split at hz
  · next ds =>
    obtain ⟨v, rfl, r1⟩ := rds1 r
    obtain ⟨p, ws, rfl, f1, q1, r2⟩ := rd_lst r1
    cases e : intsOf ds with
    | none => rw [e] at hz; cases hz
    | some ns =>
      rw [e] at hz
      have q := rds_ints r2 e
      subst q
      cases ns with
      | nil => cases hz
      | cons n ns =>
        cases hz
        obtain ⟨g1, g2, g3⟩ := fold_max ns n
        refine ⟨p, n :: ns, rfl, SqL.of q1, Nat.succ_pos _, fun m hm hy => ?_⟩
        have em : m = ns.foldl max n := by
          have a1 : m ≤ ns.foldl max n := by
            rcases List.mem_cons.mp hm with rfl | hm
            · exact g2
            · exact g3 m hm
          have a2 : ns.foldl max n ≤ m := by
            rcases g1 with g1 | g1
            · rw [g1]; exact hy n (List.mem_cons_self ..)
            · exact hy _ (List.mem_cons_of_mem _ g1)
          omega
        subst em
        exact k _ _ _ _ (Out.fz dom (.int _))
  · cases hz
theorem c_min1 (hc : X.calm = true) : CallA X (.builtin "min") min1D := by
  refine ⟨_, cr_min hc, fun ds z hz vs H F Q dom r k => ?_⟩
  unfold min1D at hz
  split at hz
  · next ds =>
    obtain ⟨v, rfl, r1⟩ := rds1 r
    obtain ⟨p, ws, rfl, f1, q1, r2⟩ := rd_lst r1
    cases e : intsOf ds with
    | none => rw [e] at hz; cases hz
    | some ns =>
      rw [e] at hz
      have q := rds_ints r2 e
      subst q
      cases ns with
      | nil => cases hz
      | cons n ns =>
        cases hz
        obtain ⟨g1, g2, g3⟩ := fold_min ns n
        refine ⟨p, n :: ns, rfl, SqL.of q1, Nat.succ_pos _, fun m hm hy => ?_⟩
        have em : m = ns.foldl min n := by
          have a1 : ns.foldl min n ≤ m := by
            rcases List.mem_cons.mp hm with rfl | hm
            · exact g2
            · exact g3 m hm
          have a2 : m ≤ ns.foldl min n := by
            rcases g1 with g1 | g1
            · rw [g1]; exact hy n (List.mem_cons_self ..)
            · exact hy _ (List.mem_cons_of_mem _ g1)
          omega
        subst em
        exact k _ _ _ _ (Out.fz dom (.int _))
  · cases hz
def enumD (i : Int) : List PyData → List PyData
  | [] => []
  | d :: ds => .tuple [.int i, d] :: enumD (i + 1) ds
theorem enum_len : ∀ {ds : List PyData} {i : Int}, (enumD i ds).length = ds.length
  | [], _ => rfl
  | d :: ds, i => congrArg (· + 1) enum_len
theorem enum_at : ∀ {ds : List PyData} {i : Int} {j : Nat} {d : PyData}, ds[j]? = some d → (enumD i ds)[j]? = some (.tuple [.int (i + j), d])
  | [], _, _, _, h => by simp at h
  | x :: ds, i, 0, d, h => by
    have e : x = d := by simpa using h
    subst e
    show some _ = some _
    simp
  | x :: ds, i, j + 1, d, h => by
    have := enum_at (i := i + 1) (j := j) (ds := ds) (d := d) (by simpa using h)
    show (enumD (i + 1) ds)[j]? = _
    rw [this]
    congr 4
    omega
def gEnum (f : M PyData) : M (List PyData) := bnd f fun d => opt (match d with
  | .list ds => some (enumD 0 ds)
  | _ => none)
theorem i_enum {f : M PyData} {p tpos : Pos} {elts : List Expr} {kk : Nat} (hg : Gl X "enumerate") (hm : X.mg "enumerate" = none) (ha : DOk X a f)
    (hs : starEach [a] X.env = [(false, eval a X.env)] := by rfl) : IOk X (.Tuple elts kk tpos) (.Call (.Name "enumerate" p) [a] [] pos) (gEnum f) := by
  obtain ⟨ta, pa, ja⟩ := ha.ex
  refine ⟨_, pi_enum hg hm (pa_cons pa pa_nil hs) hs, fun δ items δ' hf σ H F os R S k => ?_⟩
  obtain ⟨d, δ1, h1, h2⟩ := bnd_some hf
  obtain ⟨h3, rfl⟩ := opt_some h2
  refine ja δ d _ h1 σ H F os _ S fun v H1 F1 os1 st1 S1 r1 => ?_
  split at h3
  · next ds =>
    cases h3
    obtain ⟨p, ws, rfl, f1, q1, r2⟩ := rd_lst r1
    have l := r2.length
    refine ⟨p, ws, rfl, SqL.of q1, k _ H1 F1 os1 st1 S1 ⟨fun H => SqL X.K H p ws, YPair (fun i => some (.int (i : Nat))) (fun i => ws[i]?), by rw [enum_len, ← l]; exact walk_enum, fun F H ex => SqL.of (ex.2 p _ f1 q1), fun i H v H' F hi ex dom y => ?_⟩⟩
    obtain ⟨T, x, y, rfl, hT, rfl, hx, hy⟩ := y
    cases hx
    have hy : ws[i]? = some y := hy
    rw [enum_len] at hi
    obtain ⟨w, hw, rw'⟩ := rds_at r2 (List.getElem?_eq_getElem hi)
    rw [hy] at hw
    cases hw
    have g : Grow H F (upd H T (.tup [.int (i : Nat), y])) (fun q => F q ∨ q = T) := Grow.new dom hT
    refine ⟨.tuple [.int (0 + (i : Nat)), ds[i]], _, enum_at (List.getElem?_eq_getElem hi), g, .tup (.inl ⟨.inr rfl, SqT.of upd_same⟩) (.cons ?_ (.cons ((rw'.ext ex).ext g.ext) .nil))⟩
    rw [Int.zero_add]
    exact .int _
  · cases h3
end
end Pv

namespace Pv
open PySem PySem.Spec L2
open PyProof.Rows hiding St
/-! Pv14: zip of three -/
section
variable {X : Cx} {Z : List Nat} {e a b c : Expr} {pos : Pos}
def Itm3 (K : PySem.W.Frag) (k1 k2 k3 : Bool) (a b c : Addr) : It :=
  ⟨fun i H => ∃ (xs ys zs : List V), SqK k1 K H a xs ∧ SqK k2 K H b ys ∧ SqK k3 K H c zs ∧ i < xs.length ∧ i < ys.length ∧ i < zs.length,
   fun i H v H' => ∃ T x y z, v = .ref T ∧ H T = none ∧ H' = upd H T (.tup [x, y, z]) ∧ (∀ xs, SqK k1 K H a xs → xs[i]? = some x) ∧ (∀ ys, SqK k2 K H b ys → ys[i]? = some y) ∧ ∀ zs, SqK k3 K H c zs → zs[i]? = some z,
   fun i H => ∃ xs ys zs : List V, SqK k1 K H a xs ∧ SqK k2 K H b ys ∧ SqK k3 K H c zs ∧ i ≤ xs.length ∧ i ≤ ys.length ∧ i ≤ zs.length ∧ (i = xs.length ∨ i = ys.length ∨ i = zs.length)⟩
theorem turn_z3 {P : Program} {w : World} {K : PySem.W.Frag} {elts : List Expr} {kk : Nat} {tpos : Pos} {k1 k2 k3 : Bool} {a b c z TI TO i1 i2 i3 : Addr} (D : ZipSep3 z TI TO i1 i2 i3 [i1, a] [i2, b] [i3, c]) (na : a ≠ i1) (nb : b ≠ i2) (nc : c ≠ i3) :
    Turn P w K (.Tuple elts kk tpos) (Itm3 K k1 k2 k3 a b c) [z, TI, TO, i1, i2, i3] z (fun i h => IsZip h z TI TO .none ∧ IsTupOf3 h TI (.ref i1) (.ref i2) (.ref i3) ∧ (∃ x y u, IsTupOf3 h TO x y u) ∧ SIt k1 h i1 a i ∧ SIt k2 h i2 b i ∧ SIt k3 h i3 c i) where
  mem := List.mem_cons_self ..
  obj := fun i h ⟨hz, hTI, ⟨x, y, u, hTO⟩, s1, s2, s3⟩ q hq => by
    simp only [List.mem_cons, List.not_mem_nil, or_false] at hq
    rcases hq with rfl | rfl | rfl | rfl | rfl | rfl
    · exact ⟨_, hz, fun v q => nomatch q⟩
    · exact ⟨_, hTI, fun v q => nomatch q⟩
    · exact ⟨_, hTO, fun v q => nomatch q⟩
    · exact s1.obj
    · exact s2.obj
    · exact s3.obj
  keep := fun i h h' ⟨hz, hTI, ⟨x, y, u, hTO⟩, s1, s2, s3⟩ q =>
    ⟨q z (by simp) _ hz, q TI (by simp) _ hTI, ⟨x, y, u, q TO (by simp) _ hTO⟩, s1.keep (q i1 (by simp)), s2.keep (q i2 (by simp)), s3.keep (q i3 (by simp))⟩
  item := by
    intro X hP hw hK hc i pins s σ H E I hf ⟨hz, hTI, ⟨x0, y0, u0, hTO⟩, s1, s2, s3⟩ ⟨xs, ys, us, hqx, hqy, hqu, lx, ly, lu⟩
    subst hP hw hK
    obtain ⟨its, rv, p1, _⟩ := inv_s I hqx
    obtain ⟨its2, rv2, p2, _⟩ := inv_s I hqy
    obtain ⟨its3, rv3, p3, _⟩ := inv_s I hqu
    have hh := I.ok.hd hc
    have zl : z < s.heap.objs.size := Heap.lt_size hz
    refine wpAny_pyNext_zipD3_item D (draws_s (A := X.A.in1) hh i1 a na its.toArray) (draws_s (A := X.A.in1) hh i2 b nb its2.toArray) (draws_s (A := X.A.in1) hh i3 c nc its3.toArray) hz hTI hTO ⟨s1, p1⟩ ⟨s2, p2⟩ ⟨s3, p3⟩
      (by rw [List.size_toArray, ← rv.length]; exact lx) (by rw [List.size_toArray, ← rv2.length]; exact ly) (by rw [List.size_toArray, ← rv3.length]; exact lu) fun u u2 u3 h' tk e1 e2 e3 z' TO' d1 d2 d3 hT hsz hk => ?_
    have hx := List.getElem?_eq_getElem lx
    have hy := List.getElem?_eq_getElem ly
    have hu := List.getElem?_eq_getElem lu
    obtain ⟨u', g1, ru⟩ := rv.get hx
    obtain ⟨u2', g2, ru2⟩ := rv2.get hy
    obtain ⟨u3', g3, ru3⟩ := rv3.get hu
    have q1 : u' = u := by
      rw [List.getElem?_toArray] at e1
      exact Option.some.inj (g1.symm.trans e1)
    have q2 : u2' = u2 := by
      rw [List.getElem?_toArray] at e2
      exact Option.some.inj (g2.symm.trans e2)
    have q3 : u3' = u3 := by
      rw [List.getElem?_toArray] at e3
      exact Option.some.inj (g3.symm.trans e3)
    subst q1 q2 q3
    refine ⟨_, rfl, wpAny_letOwnedTupleGo_zip (s := { s with heap := h', toks := tk }) z' fun h2 z2 sb => ?_⟩
    have hT2 : h2.get? s.heap.objs.size = some { cls := .type "tuple", data := .seq #[u', u2', u3'] } := (sb.2 _ (Nat.ne_of_gt zl)).trans hT
    have new : ObjOk X.prog X.w (upd H s.heap.objs.size (.tup [xs[i], ys[i], us[i]])) h2 s.heap.objs.size (.tup [xs[i], ys[i], us[i]]) :=
      ⟨by show 3 ≤ sizeLine; decide, [u', u2', u3'], .cons ru (.cons ru2 (.cons ru3 .nil)), ⟨_, hT2, rfl, _, rfl⟩⟩
    have I1 : L2.Inv X pins σ (upd H s.heap.objs.size (.tup [xs[i], ys[i], us[i]])) { s with heap := h2, toks := tk } :=
      I.turnedNew (t' := tk) (ch := [z, TI, TO, i1, i2, i3]) (fun c o hb q => (sb.2 c (fun q' => hb (by simp [q']))).trans (hk c o (fun q' => hb (by simp [q'])) (fun q' => hb (by simp [q'])) (fun q' => hb (by simp [q'])) (fun q' => hb (by simp [q'])) (fun q' => hb (by simp [q'])) q)) hf (Nat.le_refl _) new
    refine ⟨.ref s.heap.objs.size, _, I1, rfl, ⟨_, xs[i], ys[i], us[i], rfl, I.hok.fresh (Nat.le_refl _), rfl, fun l hl => by rw [inj_s I hl hqx]; exact hx, fun l hl => by rw [inj_s I hl hqy]; exact hy, fun l hl => by rw [inj_s I hl hqu]; exact hu⟩, ⟨z2, ?_, ⟨u', u2', u3', ?_⟩, ?_, ?_, ?_⟩, fun q hqm => ?_⟩
    · exact (sb.2 _ D.TIz).trans (hk _ _ D.TIz D.TITO D.TIi1 D.TIi2 D.TIi3 hTI)
    · exact (sb.2 _ D.TOz).trans TO'
    · exact d1.1.keep fun o q => (sb.2 _ D.zi1.symm).trans q
    · exact d2.1.keep fun o q => (sb.2 _ D.zi2.symm).trans q
    · exact d3.1.keep fun o q => (sb.2 _ D.zi3.symm).trans q
    · have hlt : q < s.heap.objs.size := by
        simp only [List.mem_cons, List.not_mem_nil, or_false] at hqm
        rcases hqm with rfl | rfl | rfl | rfl | rfl | rfl
        · exact zl
        · exact Heap.lt_size hTI
        · exact Heap.lt_size hTO
        · obtain ⟨_, e1, _⟩ := s1.obj; exact Heap.lt_size e1
        · obtain ⟨_, e1, _⟩ := s2.obj; exact Heap.lt_size e1
        · obtain ⟨_, e1, _⟩ := s3.obj; exact Heap.lt_size e1
      rw [upd_ne (Nat.ne_of_lt hlt)]
      exact (hf q hqm).1
  done := by
    intro X hP hw hK hc i pins s σ H E I hf ⟨hz, hTI, ⟨x0, y0, u0, hTO⟩, s1, s2, s3⟩ ⟨xs, ys, us, hqx, hqy, hqu, l1, l2, l3, l4⟩
    subst hP hw hK
    obtain ⟨its, rv, p1, _⟩ := inv_s I hqx
    obtain ⟨its2, rv2, p2, _⟩ := inv_s I hqy
    obtain ⟨its3, rv3, p3, _⟩ := inv_s I hqu
    have hh := I.ok.hd hc
    have e1 := rv.length
    have e2 := rv2.length
    have e3 := rv3.length
    exact wpAny_pyNext_zipD3_end D (draws_s (A := X.A.in1) hh i1 a na its.toArray) (draws_s (A := X.A.in1) hh i2 b nb its2.toArray) (draws_s (A := X.A.in1) hh i3 c nc its3.toArray) hz hTI hTO ⟨s1, p1⟩ ⟨s2, p2⟩ ⟨s3, p3⟩
      (by rw [List.size_toArray]; omega) (by rw [List.size_toArray]; omega) (by rw [List.size_toArray]; omega) (by rw [List.size_toArray, List.size_toArray, List.size_toArray]; omega) fun h' tk hk =>
      ⟨rfl, I.turnedL (t' := tk) (ch := [z, TI, TO, i1, i2, i3]) (fun c o hb q => hk c o (fun q' => hb (by simp [q'])) (fun q' => hb (by simp [q'])) (fun q' => hb (by simp [q'])) (fun q' => hb (by simp [q'])) (fun q' => hb (by simp [q'])) q) hf⟩
  self := fun A i s Q E st h => wpAny_pyIter_zip st.1 h
def iZ3 (K : PySem.W.Frag) (ta : TA) : TI := fun σ H R => ta σ H fun vs H1 => ∃ k1 k2 k3 a b c xs ys zs, vs = [.ref a, .ref b, .ref c] ∧ SqK k1 K H1 a xs ∧ SqK k2 K H1 b ys ∧ SqK k3 K H1 c zs ∧ R (Itm3 K k1 k2 k3 a b c) H1
theorem vals3 {x y z : V} {us : List Value} (r : Vals [x, y, z] us) : ∃ u v w, us = [u, v, w] ∧ RelV x u ∧ RelV y v ∧ RelV z w := by
  cases r with
  | cons p q =>
    cases q with
    | cons p' q' =>
      cases q' with
      | cons p'' q'' => cases q''; exact ⟨_, _, _, rfl, p, p', p''⟩
theorem pi_z3 {e2 e3 : Expr} {ta : TA} {p tpos : Pos} {elts : List Expr} {kk : Nat} (hg : Gl X "zip") (hm : X.mg "zip" = none) (ha : PA X [e, e2, e3] ta)
    (hs : starEach [e, e2, e3] X.env = (false, eval e X.env) :: starEach [e2, e3] X.env := by rfl) (hpl : (backTo pos (starEach [e2, e3] X.env)).any (·.1) = false := by rfl) :
    PI X (.Tuple elts kk tpos) (.Call (.Name "zip" p) [e, e2, e3] [] pos) (iZ3 X.K ta) := by
  refine ⟨fun pins s σ H R I h => ?_⟩
  refine Call_ (ld_blt I hg hm PyProof.Rows.boot_zip (PyProof.Rows.callWith_type1 (thn (ha.run pos pins s σ H _ I h) fun us s1 ⟨vs, H1, I1, r1, k1, k2, k3, a, b, c, xs, ys, zs, ex, hqx, hqy, hqz, q⟩ => ?_) hs hpl))
  subst ex
  obtain ⟨u, u2, u3, rfl, ru, ru2, ru3⟩ := vals3 r1
  cases ru
  cases ru2
  cases ru3
  obtain ⟨its, rv, p1, la⟩ := inv_s I1 hqx
  obtain ⟨its2, rv2, p2, lb⟩ := inv_s I1 hqy
  obtain ⟨its3, rv3, p3, lc⟩ := inv_s I1 hqz
  refine zip_begins3 (begins_s k1 a its.toArray) (begins_s k2 b its2.toArray) (begins_s k3 c its3.toArray) p1 p2 p3 fun h' hz hTI hTO h1 h2 h3 hsz hk => wpAny_pyIter_zip hz ?_
  refine ⟨s1.heap.objs.size + 5, [s1.heap.objs.size + 5, s1.heap.objs.size + 3, s1.heap.objs.size + 4, s1.heap.objs.size, s1.heap.objs.size + 1, s1.heap.objs.size + 2], _, _, H1, rfl, I1.kept (t' := s1.toks) hk,
    turn_z3 (k1 := k1) (k2 := k2) (k3 := k3) (zip_sep3 (fun c hc => by rw [List.mem_singleton.mp hc]; exact la) (fun c hc => by rw [List.mem_singleton.mp hc]; exact lb) (fun q hc => by rw [List.mem_singleton.mp hc]; exact lc)) (Nat.ne_of_lt la) (Nat.ne_of_lt (Nat.lt_succ_of_lt lb)) (Nat.ne_of_lt (Nat.lt_succ_of_lt (Nat.lt_succ_of_lt lc))),
    ⟨hz, hTI, ⟨_, _, _, hTO⟩, .new h1, .new h2, .new h3⟩, fun q hqm => ?_, q⟩
  have hle : s1.heap.objs.size ≤ q := by
    simp only [List.mem_cons, List.not_mem_nil, or_false] at hqm
    rcases hqm with rfl | rfl | rfl | rfl | rfl | rfl
    · exact Nat.le_add_right _ _
    · exact Nat.le_add_right _ _
    · exact Nat.le_add_right _ _
    · exact Nat.le_refl _
    · exact Nat.le_add_right _ _
    · exact Nat.le_add_right _ _
  exact I1.fpOk hle (I1.hok.fresh hle)
def zip3D : List PyData → List PyData → List PyData → List PyData
  | x :: xs, y :: ys, z :: zs => .tuple [x, y, z] :: zip3D xs ys zs
  | _, _, _ => []
theorem zip3_len : ∀ {xs ys zs : List PyData}, (zip3D xs ys zs).length = min xs.length (min ys.length zs.length)
  | [], _, _ => by simp [zip3D]
  | _ :: _, [], _ => by simp [zip3D]
  | _ :: _, _ :: _, [] => by simp [zip3D]
  | x :: xs, y :: ys, z :: zs => by
    show (zip3D xs ys zs).length + 1 = _
    rw [zip3_len]; simp only [List.length_cons]; omega
theorem zip3_at : ∀ {xs ys zs : List PyData} {i : Nat} {x y z : PyData}, xs[i]? = some x → ys[i]? = some y → zs[i]? = some z → (zip3D xs ys zs)[i]? = some (.tuple [x, y, z])
  | [], _, _, _, _, _, _, h, _, _ => by simp at h
  | _ :: _, [], _, _, _, _, _, _, h, _ => by simp at h
  | _ :: _, _ :: _, [], _, _, _, _, _, _, h => by simp at h
  | a :: xs, b :: ys, c :: zs, 0, x, y, z, h1, h2, h3 => by
    have e1 : a = x := by simpa using h1
    have e2 : b = y := by simpa using h2
    have e3 : c = z := by simpa using h3
    subst e1 e2 e3
    rfl
  | a :: xs, b :: ys, c :: zs, i + 1, x, y, z, h1, h2, h3 => by
    show (zip3D xs ys zs)[i]? = _
    exact zip3_at (by simpa using h1) (by simpa using h2) (by simpa using h3)
def gZip3 (f g h : M PyData) : M (List PyData) := bnd f fun d => bnd g fun d2 => bnd h fun d3 => opt (match seqD d, seqD d2, seqD d3 with
  | some xs, some ys, some zs => some (zip3D xs ys zs)
  | _, _, _ => none)
theorem i_zip3 {f g h : M PyData} {p tpos : Pos} {elts : List Expr} {kk : Nat} (hg : Gl X "zip") (hm : X.mg "zip" = none) (ha : DOk X a f) (hb : DOk X b g) (hc : DOk X c h)
    (hs : starEach [a, b, c] X.env = (false, eval a X.env) :: starEach [b, c] X.env := by rfl) (hs2 : starEach [b, c] X.env = (false, eval b X.env) :: starEach [c] X.env := by rfl) (hs3 : starEach [c] X.env = (false, eval c X.env) :: starEach [] X.env := by rfl)
    (hpl : (backTo pos (starEach [b, c] X.env)).any (·.1) = false := by rfl) :
    IOk X (.Tuple elts kk tpos) (.Call (.Name "zip" p) [a, b, c] [] pos) (gZip3 f g h) := by
  obtain ⟨ta, pa, ja⟩ := ha.ex
  obtain ⟨tb, pb, jb⟩ := hb.ex
  obtain ⟨tc, pc, jc⟩ := hc.ex
  refine ⟨_, pi_z3 hg hm (pa_cons pa (pa_cons pb (pa_cons pc pa_nil hs3) hs2) hs) hs hpl, fun δ items δ' hf σ H F os R S k => ?_⟩
  obtain ⟨d, δ1, h1, h2⟩ := bnd_some hf
  obtain ⟨d2, δ2, h3, h4⟩ := bnd_some h2
  obtain ⟨d3, δ3, h5, h6⟩ := bnd_some h4
  obtain ⟨h7, rfl⟩ := opt_some h6
  refine ja δ d _ h1 σ H F os _ S fun v H1 F1 os1 st1 S1 r1 => ?_
  refine jb δ1 d2 _ h3 σ H1 F1 os1 _ S1 fun w H2 F2 os2 st2 S2 r2 => ?_
  refine jc δ2 d3 _ h5 σ H2 F2 os2 _ S2 fun u H3 F3 os3 st3 S3 r3 => ?_
  cases e1 : seqD d with
  | none => rw [e1] at h7; cases h7
  | some xs =>
    cases e2 : seqD d2 with
    | none => rw [e1, e2] at h7; cases h7
    | some ys =>
      cases e3 : seqD d3 with
      | none => rw [e1, e2, e3] at h7; cases h7
      | some zs =>
        rw [e1, e2, e3] at h7
        cases h7
        obtain ⟨k1, pa, vs, rfl, q1, rs1, ex1⟩ := rd_seq ((r1.step S1 st2).step S2 st3) e1
        obtain ⟨k2, pb, ws, rfl, q2, rs2, ex2⟩ := rd_seq (r2.step S2 st3) e2
        obtain ⟨k3, pc, us, rfl, q3, rs3, ex3⟩ := rd_seq r3 e3
        have lx := rs1.length
        have ly := rs2.length
        have lz := rs3.length
        have ll : (zip3D xs ys zs).length = min vs.length (min ws.length us.length) := by rw [zip3_len, lx, ly, lz]
        refine ⟨k1, k2, k3, pa, pb, pc, vs, ws, us, rfl, q1, q2, q3, k _ H3 F3 os3 ((st1.trans st2).trans st3) S3 ⟨fun H => SqK k1 X.K H pa vs ∧ SqK k2 X.K H pb ws ∧ SqK k3 X.K H pc us,
          fun i H v H' => ∃ T x y z, v = .ref T ∧ H T = none ∧ H' = upd H T (.tup [x, y, z]) ∧ vs[i]? = some x ∧ ws[i]? = some y ∧ us[i]? = some z, ?_, fun F H ex => ⟨ex1 F H ex, ex2 F H ex, ex3 F H ex⟩, fun i H v H' F hi ex dom y => ?_⟩⟩
        · rw [ll]
          exact ⟨fun i H hi q => ⟨vs, ws, us, q.1, q.2.1, q.2.2, by omega, by omega, by omega⟩, fun H q => ⟨vs, ws, us, q.1, q.2.1, q.2.2, by omega, by omega, by omega, by omega⟩, fun i H v H' hi q ⟨T, x, y, z, h1, h2, h3, h4, h5, h6⟩ => ⟨T, x, y, z, h1, h2, h3, h4 vs q.1, h5 ws q.2.1, h6 us q.2.2⟩⟩
        · obtain ⟨T, x, y, z, rfl, hT, rfl, hx, hy, hz⟩ := y
          have ex' : ∀ {vs : List V} {ds : List PyData} {i : Nat} {x : V}, RDs X.K F3 H3 vs ds → vs[i]? = some x → ∃ d, ds[i]? = some d ∧ RD X.K F3 H3 x d := by
            intro vs ds i x r hx
            have l := r.length
            have hlt := (List.getElem?_eq_some_iff.mp hx).1
            have hl2 : i < ds.length := by omega
            obtain ⟨v, hv, rv⟩ := rds_at r (List.getElem?_eq_getElem hl2)
            rw [hx] at hv
            cases hv
            exact ⟨_, List.getElem?_eq_getElem hl2, rv⟩
          obtain ⟨dx, gx, rx⟩ := ex' rs1 hx
          obtain ⟨dy, gy, ry⟩ := ex' rs2 hy
          obtain ⟨dz, gz, rz⟩ := ex' rs3 hz
          have g : Grow H F (upd H T (.tup [x, y, z])) (fun q => F q ∨ q = T) := Grow.new dom hT
          exact ⟨.tuple [dx, dy, dz], _, zip3_at gx gy gz, g, .tup (.inl ⟨.inr rfl, SqT.of upd_same⟩) (.cons ((rx.ext ex).ext g.ext) (.cons ((ry.ext ex).ext g.ext) (.cons ((rz.ext ex).ext g.ext) .nil)))⟩
end
end Pv

namespace Pv
open PySem PySem.Spec L2
open PyProof.Rows hiding St
/-! Pv15: is True, is False -/
section
variable {X : Cx}
theorem same_bl {M : Model} {A : Around} {E : Value → Shared → Prop} {s : Shared} {x : V} {u : Value} {b : Bool} {R : Bool → Shared → Prop} (r : RelV x u) (q : R (decide (x = V.bl b)) s) : wpAny M A (isSame u (.bool b)) R E s := by
  cases x with
  | ref a => cases r; exact wpAny_pure q
  | non => cases r; exact wpAny_pure q
  | bl c =>
    cases r
    refine wpAny_pure ?_
    have e : (Value.bool c == Value.bool b) = decide (V.bl c = V.bl b) := by cases c <;> cases b <;> rfl
    rw [e]; exact q
  | int i => obtain ⟨t, rfl⟩ := r; exact wpAny_pure q
  | str x => obtain ⟨t, rfl⟩ := r; exact wpAny_pure q
  | byt x => obtain ⟨t, rfl⟩ := r; exact wpAny_pure q
  | flt x => obtain ⟨t, rfl⟩ := r; exact wpAny_pure q
  | ty n => cases r; exact wpAny_pure q
theorem op_isB : OpR X (compareOp .Is) (fun x y H Q => ∃ b, y = .bl b ∧ Q (.bl (decide (x = .bl b))) H) := by
  intro pins s σ H x y v u Q I rx ry h
  obtain ⟨b, rfl, q⟩ := h
  cases ry
  show wpAny _ _ ((isSame v (Value.bool b)) >>= fun z => pure (Value.bool z)) _ _ s
  exact wpAny_bind (same_bl rx (wpAny_pure (fin_bl I q rfl)))
theorem op_isntB : OpR X (compareOp .IsNot) (fun x y H Q => ∃ b, y = .bl b ∧ Q (.bl (!decide (x = .bl b))) H) := by
  intro pins s σ H x y v u Q I rx ry h
  obtain ⟨b, rfl, q⟩ := h
  cases ry
  show wpAny _ _ ((isSame v (Value.bool b)) >>= fun z => pure (Value.bool (!z))) _ _ s
  exact wpAny_bind (same_bl rx (wpAny_pure (fin_bl I q rfl)))
def isBl (b : Bool) : PyData → Bool
  | .bool c => c == b
  | _ => false
def isbD (x y : PyData) : Option Bool := match y with
  | .bool b => some (isBl b x)
  | _ => none
def isntbD (x y : PyData) : Option Bool := (isbD x y).map not
theorem rd_bl {K : PySem.W.Frag} {F : Fz} {H : Hp} {v : V} {d : PyData} {b : Bool} (r : RD K F H v d) : decide (v = V.bl b) = isBl b d := by
  cases r with
  | bl c => cases c <;> cases b <;> rfl
  | _ => simp [isBl]
theorem o_isb : CmA X (compareOp .Is) isbD := by
  refine ⟨_, op_isB, fun d e z hz x y H F Q rx ry k => ?_⟩
  unfold isbD at hz
  split at hz
  · cases ry
    cases hz
    exact ⟨_, rfl, by rw [rd_bl rx]; exact k⟩
  · cases hz
theorem o_isntb : CmA X (compareOp .IsNot) isntbD := by
  refine ⟨_, op_isntB, fun d e z hz x y H F Q rx ry k => ?_⟩
  unfold isntbD isbD at hz
  split at hz
  · cases ry
    cases hz
    exact ⟨_, rfl, by rw [rd_bl rx]; exact k⟩
  · cases hz
end
end Pv

/-! Pv16: sorted of a tuple -/
namespace PyProof.Rows
open PySem Calls
section
variable {prog : Program} {w : World} {A : Around} {E : Value → Shared → Prop} {s : Shared}
/-- what stands in a list or a tuple, collected -/
theorem collect_seqLT {l : Addr} {T : String} {o : Obj} {vs : List Value} {n : Nat} {Q : List Value → Shared → Prop} (hT : T = "list" ∨ T = "tuple") (ho : s.heap.get? l = some o) (hc : o.cls = .type T) (hd : o.data = .seq vs.toArray n)
    (h : Q vs { s with heap := (s.heap.push (seqObj "list" #[] 0)).update s.heap.objs.size (Obj.mapSeq (· ++ vs.toArray)) }) (hsz : vs.length ≤ sizeLine := by size_fits) :
    wpAny (model prog w) A (collect (.ref l)) Q E s := by
  unfold collect
  refine wpAny_bind (wpAny_runValue (codeAny_builtin entry_proto_collect' ?_))
  show wpAny _ _ (do again (.builtin "list.__iadd__" ⟨[← newList [], .ref l], []⟩)) _ _ s
  refine wpAny_bind (wpAny_newList (wpAny_pure ⟨Code.quiet_builtin _ (by decide +kernel), codeAny_builtin entry_list_iadd' ?_⟩))
  show wpAny _ _ (Builtin.List.listExtendWith (.ref s.heap.objs.size) (.ref l) (.ref s.heap.objs.size)) _ _ { s with heap := s.heap.push (seqObj "list" #[] 0) }
  unfold Builtin.List.listExtendWith
  have ho' : (s.heap.push (seqObj "list" #[] 0)).get? l = some o := Heap.get?_push_of_some _ ho
  refine wpAny_bind (wpAny_typeOf (T := T) ⟨o, ho', hc⟩ ?_)
  have ht : ((Value.type T == Value.type "list") || (Value.type T == Value.type "tuple")) = true := by rcases hT with rfl | rfl <;> rfl
  rw [if_pos (by rw [Bool.or_assoc, ht]; simp)]
  refine wpAny_bind (listItems_at ho' hd ?_)
  refine wpAny_bind (listItems_at (xs := #[]) (n := 0) (Heap.get?_push_size _ rfl) rfl ?_)
  rw [if_neg (by simp)]
  refine wpAny_bind (listUpdate_at (xs := #[]) (n := 0) (Heap.get?_push_size _ rfl) rfl ?_ (Nat.zero_le _) (by show (#[] ++ vs.toArray).size ≤ sizeLine + 1; simp only [Array.size_append, List.size_toArray, List.length_nil]; omega))
  refine wpAny_pure ?_
  show wpAny (model prog w) A (do
      let o ← load s.heap.objs.size
      match o.data with
      | .seq xs _ => pure xs.toList
      | _ => unsupported "internal:collect") Q E { s with heap := (s.heap.push (seqObj "list" #[] 0)).update s.heap.objs.size (Obj.mapSeq (· ++ vs.toArray)) }
  refine wpAny_bind (wpAny_load (get?_update_seq (Heap.get?_push_size _ rfl) _) ?_)
  show wpAny _ _ (pure ((#[] : Array Value) ++ vs.toArray).toList) Q E _
  rw [show ((#[] : Array Value) ++ vs.toArray).toList = vs by simp]
  exact wpAny_pure h
theorem sorted_intsLT {l : Addr} {T : String} {o : Obj} {n : Nat} {vs : List Value} {ns : List Int} {Q : Value → Shared → Prop} (hT : T = "list" ∨ T = "tuple") (ho : s.heap.get? l = some o) (hc : o.cls = .type T) (hd : o.data = .seq vs.toArray n) (hI : IntsAre vs ns) (h64 : vs.length < 64)
    (h : ∀ (out : Array Value) (ns' : List Int), IntsAre out.toList ns' → ns'.Perm ns → ns'.Pairwise (· ≤ ·) → Q (.ref (s.heap.objs.size + 1)) { s with heap := sortedAll s.heap vs out }) :
    wpAny (model prog w) A (call (.builtin "sorted") [.ref l]) Q E s := by
  refine Calls.call_function_entry kind_sorted plain_sorted entry_sorted (args_sorted1 _) ?_
  unfold Builtin.«sorted»
  refine wpAny_bind (m := checkCount "sorted" 1 1 _) (wpAny_pure ?_)
  refine wpAny_bind (collect_seqLT hT ho hc hd ?_)
  refine wpAny_bind (wpAny_newList ?_)
  have hsz : ((s.heap.push (seqObj "list" #[] 0)).update s.heap.objs.size (Obj.mapSeq (· ++ vs.toArray))).objs.size = s.heap.objs.size + 1 := by
    rw [Heap.size_update, size_push']
  have hoL : (((s.heap.push (seqObj "list" #[] 0)).update s.heap.objs.size (Obj.mapSeq (· ++ vs.toArray))).push (seqObj "list" vs.toArray 0)).get? (s.heap.objs.size + 1) = some (seqObj "list" vs.toArray 0) := by
    rw [← hsz]; exact Heap.get?_push_size _ rfl
  show wpAny _ _ _ _ _ { s with heap := ((s.heap.push (seqObj "list" #[] 0)).update s.heap.objs.size (Obj.mapSeq (· ++ vs.toArray))).push (seqObj "list" vs.toArray 0) }
  rw [hsz]
  refine wpAny_bind (wpAny_holding (wpAny_call_entry slot_list_sort ⟨_, hoL, rfl⟩ entry_list_sort (list_sort_tree hoL hI h64 fun out ns' a1 a2 a3 => ⟨_, rfl, ?_⟩) (args_list_sort _)))
  exact wpAny_pure ⟨_, rfl, h out ns' a1 a2 a3⟩
end
end PyProof.Rows
namespace Pv
open PySem PySem.Spec L2 PyProof.Rows
section
variable {X : Cx}
def rSortedLT (K : PySem.W.Frag) : List V → Hp → VK → Prop := fun vs H Q => ∃ (a : Addr) (ns : List Int), vs = [V.ref a] ∧ (SqL K H a (ns.map V.int) ∨ SqT K H a (ns.map V.int)) ∧ ns.length < 64 ∧
  ∀ (ns' : List Int) (p : Addr), ns'.Perm ns → ns'.Pairwise (· ≤ ·) → H p = none → Q (.ref p) (upd H p (.lst (ns'.map V.int)))
theorem cr_sortedLT : CallR X (.builtin "sorted") (rSortedLT X.K) := by
  intro pins s σ H vs us Q I r h
  obtain ⟨a, ns, rfl, hs, h64, q⟩ := h
  rw [Vals.ref1 r]
  have fin : ∀ {T : String} {o : Obj} {n : Nat} {its : List Value}, (T = "list" ∨ T = "tuple") → Vals (ns.map V.int) its → s.heap.get? a = some o → o.cls = .type T → o.data = .seq its.toArray n → wpAny (model X.prog X.w) X.A (call (Value.builtin "sorted") [Value.ref a]) (EP X pins σ Q) X.xe s := fun hT rv ho hc hd =>
    PyProof.Rows.sorted_intsLT hT ho hc hd rv.ints (by rw [rv.ints.length]; exact h64) fun out ns' h1 h2 h3 => by
      obtain ⟨ep, he'⟩ := PyProof.Rows.sortedAll_at s.heap _ out
      have hlen : (ns'.map V.int).length ≤ sizeLine := by rw [List.length_map, h2.length_eq]; exact small64 h64
      exact ⟨.ref _, upd H (s.heap.objs.size + 1) (.lst (ns'.map V.int)), I.laid (t' := s.toks) (fun _ _ => PyProof.Rows.sortedAll_old) (Nat.le_succ _) ⟨hlen, out.toList, ep, vals_of_ints h1, he'⟩, rfl, q ns' _ h2 h3 (I.hok.fresh (Nat.le_succ _))⟩
  rcases hs with hs | hs
  · obtain ⟨its, rv, pl, hz⟩ := I.list hs
    obtain ⟨o, ho, hc, n, hd⟩ := pl.isList
    exact fin (.inl rfl) rv ho hc hd
  · obtain ⟨its, rv, pl, hz⟩ := I.tuple hs
    obtain ⟨o, ho, hc, n, hd⟩ := pl
    exact fin (.inr rfl) rv ho hc hd
def sortedD2 : List PyData → Option AV
  | [.list ds] => if ds.length < 64 then (intsOf ds).map fun ns => .ow (fzs ((sortI ns).map .int)) else none
  | [.tuple ds] => if ds.length < 64 then (intsOf ds).map fun ns => .ow (fzs ((sortI ns).map .int)) else none
  | _ => none
theorem c_sorted2 : CallA X (.builtin "sorted") sortedD2 := by
  refine ⟨_, cr_sortedLT, fun ds z hz vs H F Q dom r k => ?_⟩
  unfold sortedD2 at hz
  split at hz
  · next ds =>
    split at hz
    · next hl =>
      obtain ⟨v, rfl, r1⟩ := rds1 r
      obtain ⟨p, ws, rfl, f1, q1, r2⟩ := rd_lst r1
      cases e : intsOf ds with
      | none => rw [e] at hz; cases hz
      | some ns =>
        rw [e] at hz
        cases hz
        have q := rds_ints r2 e
        subst q
        refine ⟨p, ns, rfl, .inl (SqL.of q1), by rw [ints_len e]; exact hl, fun ms n hp hs hn => ?_⟩
        have em := sort_uniq hp hs
        subst em
        exact k _ _ _ _ (Out.lst dom hn rds_ofInts)
    · cases hz
  · next ds =>
    split at hz
    · next hl =>
      obtain ⟨v, rfl, r1⟩ := rds1 r
      cases r1 with
      | tup q1 r2 =>
        rename_i p ws
        cases e : intsOf ds with
        | none => rw [e] at hz; cases hz
        | some ns =>
          rw [e] at hz
          cases hz
          have q := rds_ints r2 e
          subst q
          refine ⟨p, ns, rfl, .inr q1.sq, by rw [ints_len e]; exact hl, fun ms n hp hs hn => ?_⟩
          have em := sort_uniq hp hs
          subst em
          exact k _ _ _ _ (Out.lst dom hn rds_ofInts)
    · cases hz
  · cases hz
end
end Pv

/-! Pv17: in, not in; pop, index, count -/
namespace Pv
open PySem PySem.Spec L2
open PyProof.Rows hiding St
theorem _root_.L2.Room.u65 {k : Nat} {A : Around} (r : Room k A) : A.units + 65 < cLine := by have := r.un; omega
section
variable {X : Cx} {Z : List Nat} {e a b : Expr} {pos : Pos}
/-! ### in, not in -/
def rInLT (K : PySem.W.Frag) (neg : Bool) : R2 := fun x y H Q => ∃ d ds, Dp K H x d ∧ (Dp K H y (.list ds) ∧ SeqAt.shaped (.list ds) = true ∨ Dp K H y (.tuple ds) ∧ SeqAt.shaped (.tuple ds) = true) ∧ SeqAt.shaped d = true ∧
  Q (.bl (if neg then !ds.any fun z => PyData.eqv z d else ds.any fun z => PyData.eqv z d)) H
theorem op_inLT (hu : X.A.units + 65 < cLine) : OpR X (compareOp .In) (rInLT X.K false) := by
  intro pins s σ H x y v u Q I rx ry h
  obtain ⟨d, ds, hd, he, sd, q⟩ := h
  obtain ⟨as, r1⟩ := Dp.reads I d x v hd rx
  rcases he with ⟨he, se⟩ | ⟨he, se⟩
  · obtain ⟨bs, r2⟩ := Dp.reads I (.list ds) y u he ry
    exact SeqAt.in_list_reads r2 r1 (SeqAt.canLay_of_shaped se) (SeqAt.canLay_of_shaped sd) (room_in_shaped sd hu) ⟨.bl _, H, I, rfl, q⟩
  · obtain ⟨bs, r2⟩ := Dp.reads I (.tuple ds) y u he ry
    exact SeqAt.in_tuple_reads r2 r1 (SeqAt.canLay_of_shaped se) (SeqAt.canLay_of_shaped sd) (room_in_shaped sd hu) ⟨.bl _, H, I, rfl, q⟩
theorem op_ninLT (hu : X.A.units + 65 < cLine) : OpR X (compareOp .NotIn) (rInLT X.K true) := by
  intro pins s σ H x y v u Q I rx ry h
  obtain ⟨d, ds, hd, he, sd, q⟩ := h
  obtain ⟨as, r1⟩ := Dp.reads I d x v hd rx
  rcases he with ⟨he, se⟩ | ⟨he, se⟩
  · obtain ⟨bs, r2⟩ := Dp.reads I (.list ds) y u he ry
    exact SeqAt.notIn_list_reads r2 r1 (SeqAt.canLay_of_shaped se) (SeqAt.canLay_of_shaped sd) (room_in_shaped sd hu) ⟨.bl _, H, I, rfl, q⟩
  · obtain ⟨bs, r2⟩ := Dp.reads I (.tuple ds) y u he ry
    exact SeqAt.notIn_tuple_reads r2 r1 (SeqAt.canLay_of_shaped se) (SeqAt.canLay_of_shaped sd) (room_in_shaped sd hu) ⟨.bl _, H, I, rfl, q⟩
def inD (x y : PyData) : Option Bool := match y with
  | .list ds => if SeqAt.shaped x = true ∧ SeqAt.shaped (.list ds) = true then some (ds.any fun z => PyData.eqv z x) else none
  | .tuple ds => if SeqAt.shaped x = true ∧ SeqAt.shaped (.tuple ds) = true then some (ds.any fun z => PyData.eqv z x) else none
  | _ => none
def ninD (x y : PyData) : Option Bool := (inD x y).map not
theorem o_in (hu : X.A.units + 65 < cLine) : CmA X (compareOp .In) inD := by
  refine ⟨_, op_inLT hu, fun d e z hz x y H F Q rx ry k => ?_⟩
  unfold inD at hz
  split at hz
  · next ds =>
    split at hz
    · next c =>
      cases hz
      exact ⟨d, ds, rd_dp d x rx (SeqAt.canLay_of_shaped c.1), .inl ⟨rd_dp _ y ry (SeqAt.canLay_of_shaped c.2), c.2⟩, c.1, k⟩
    · cases hz
  · next ds =>
    split at hz
    · next c =>
      cases hz
      exact ⟨d, ds, rd_dp d x rx (SeqAt.canLay_of_shaped c.1), .inr ⟨rd_dp _ y ry (SeqAt.canLay_of_shaped c.2), c.2⟩, c.1, k⟩
    · cases hz
  · cases hz
theorem o_nin (hu : X.A.units + 65 < cLine) : CmA X (compareOp .NotIn) ninD := by
  refine ⟨_, op_ninLT hu, fun d e z hz x y H F Q rx ry k => ?_⟩
  unfold ninD inD at hz
  split at hz
  · next ds =>
    split at hz
    · next c =>
      cases hz
      exact ⟨d, ds, rd_dp d x rx (SeqAt.canLay_of_shaped c.1), .inl ⟨rd_dp _ y ry (SeqAt.canLay_of_shaped c.2), c.2⟩, c.1, k⟩
    · cases hz
  · next ds =>
    split at hz
    · next c =>
      cases hz
      exact ⟨d, ds, rd_dp d x rx (SeqAt.canLay_of_shaped c.1), .inr ⟨rd_dp _ y ry (SeqAt.canLay_of_shaped c.2), c.2⟩, c.1, k⟩
    · cases hz
  · cases hz
/-! ### x.pop() of a list of our own whose last item is frozen -/
theorem ras_drop {K : PySem.W.Frag} {F : Fz} {H : Hp} : ∀ {as : List AV} {vs : List V} {o : List Addr}, RAs K F H as vs o → ∃ o', RAs K F H as.dropLast vs.dropLast o' ∧ (o.Nodup → o'.Nodup) ∧ ∀ q ∈ o', q ∈ o
  | [], _, _, r => by cases r; exact ⟨[], .nil, fun _ => .nil, fun q m => m⟩
  | [a], _, _, r => by
    cases r with
    | cons r t => cases t; exact ⟨[], .nil, fun _ => .nil, fun q m => absurd m List.not_mem_nil⟩
  | a :: b :: as, _, _, r => by
    cases r with
    | @cons _ _ ob _ _ ot r t =>
      obtain ⟨o', h1, h2, h3⟩ := ras_drop t
      cases t with
      | cons r2 t2 =>
        refine ⟨ob ++ o', .cons r h1, fun nd => ?_, fun q m => ?_⟩
        · obtain ⟨n1, n2, n3⟩ := List.nodup_append.mp nd
          exact List.nodup_append.mpr ⟨n1, h2 n2, fun x hx y hy e => n3 x hx y (h3 y hy) e⟩
        · rcases List.mem_append.mp m with m | m
          · exact List.mem_append_left _ m
          · exact List.mem_append_right _ (h3 q m)
def gPop (i : Nat) : M PyData := fun δ => match δ[i]? with
  | some (some (.ow as)) => (match as[as.length - 1]? with
    | some (.fz d) => some (d, δ.set i (some (.ow as.dropLast)))
    | _ => none)
  | _ => none
theorem d_pop (i : Nat) {x : Str} {p apos cpos : Pos} (hN : X.N[i]? = some x := by rfl) (hv : Vis X.env.scope x := by first | exact Or.inl rfl | exact Or.inr (Or.inl rfl) | exact Or.inr (Or.inr rfl))
    (hd : (x == ("__debug__" : Str)) = false := by decide) (hcd : (x == ("__classdict__" : Str)) = false := by decide)
    (hbase : attributeBase (.Name x p) "pop" X.env (eval (.Name x p) X.env) = eval (.Name x p) X.env := by rfl) (hline : (apos.endLine == cpos.line) = true := by rfl) :
    DOk X (.Call (.Attribute (.Name x p) "pop" apos) [] [] cpos) (gPop i) := by
  refine ⟨_, pe_bm0 PySem.F.plainAttrs_list PySem.F.slot_list_pop PySem.F.type_list_pop mt_pop (pe_var hN hv hd hcd) hbase hline, fun δ d δ' hf σ H F os Q S k => ?_⟩
  unfold gPop at hf
  split at hf
  · next as h0 =>
    split at hf
    · next d' hl =>
      cases hf
      obtain ⟨v, o, hv1, r0, _⟩ := S.at_ h0
      cases r0 with
      | @ow p0 _ ws _ hp0 rs0 =>
        obtain ⟨u, o2, h4, r4⟩ := ras_at rs0 hl
        cases r4 with
        | fz r4 =>
          have S1 := S.cons r4
          obtain ⟨p2, vs, os2, h5, h6, h7, S2, st2⟩ := S1.wrAt (as' := as.dropLast) (g := List.dropLast) h0 fun vs o oa r1 r2 nd => by
            obtain ⟨o', g1, g2, g3⟩ := ras_drop r1
            exact ⟨o', g1, g2 (List.nodup_append.mp nd).1, fun q m => .inl (g3 q m)⟩
          rw [hv1] at h5
          cases h5
          rw [hp0] at h6
          cases h6
          refine ⟨.ref p0, hv1, .inl ⟨rfl, ws, SqL.of hp0⟩, p0, ws, u, rfl, rfl, hp0, by rw [h7]; exact h4, ?_⟩
          exact k u _ F os2 st2 S2 (r4.step S st2)
    · cases hf
  · cases hf
/-! ### xs.index(y), xs.count(y) -/
def idxD (l d : PyData) : Option PyData := match l with
  | .list ds => if SeqAt.shaped (.list ds) = true ∧ SeqAt.shaped d = true then (ds.findIdx? fun z => PyData.eqv z d).map fun j => .int (j : Nat) else none
  | _ => none
def cntD (l d : PyData) : Option PyData := match l, d with
  | .list ds, .int k => (intsOf ds).map fun ns => .int (ns.count k : Nat)
  | _, _ => none
def gMet (op : PyData → PyData → Option PyData) (f g : M PyData) : M PyData := bnd f fun l => bnd g fun d => opt (op l d)
theorem d_index {f g : M PyData} {apos cpos : Pos} (hu : X.A.units + 65 < cLine) (ha : DOk X a f) (hb : DOk X b g)
    (hbase : attributeBase a "index" X.env (eval a X.env) = eval a X.env := by rfl)
    (hfew : ((backTo cpos (starEach [b] X.env)).all (fun x => !x.1) && (backToKw cpos (keywordEach [] X.env)).all (fun x => x.1.isSome)
      && decide (([b] : List Expr).length + ([] : List Keyword).length + (if ([] : List Keyword).isEmpty then 0 else 1) < 30)) = true := by rfl)
    (hline : (apos.endLine == cpos.line) = true := by rfl) (hs : starEach [b] X.env = (false, eval b X.env) :: starEach [] X.env := by rfl) (hplain : (backTo cpos (starEach [] X.env)).any (·.1) = false := by rfl) :
    DOk X (.Call (.Attribute a "index" apos) [b] [] cpos) (gMet idxD f g) := by
  obtain ⟨ta, pa, ja⟩ := ha.ex
  obtain ⟨tb, pb, jb⟩ := hb.ex
  refine ⟨_, pe_bm PySem.F.plainAttrs_list PySem.F.slot_list_index PySem.F.type_list_index (mt_indexD hu) pa (pa_cons pb pa_nil hs) hbase hfew hline hs hplain, fun δ d δ' hf σ H F os Q S k => ?_⟩
  obtain ⟨l, δ1, h1, h2⟩ := bnd_some hf
  obtain ⟨y, δ2, h3, h4⟩ := bnd_some h2
  obtain ⟨h5, rfl⟩ := opt_some h4
  refine ja δ l _ h1 σ H F os _ S fun v H1 F1 os1 st1 S1 r1 => ?_
  unfold idxD at h5
  split at h5
  · next ds =>
    split at h5
    · next c =>
      obtain ⟨p, ws, rfl, f1, q1, r2⟩ := rd_lst r1
      refine ⟨.inl ⟨rfl, ws, SqL.of q1⟩, ?_⟩
      refine jb δ1 y _ h3 σ H1 F1 os1 _ S1 fun w H2 F2 os2 st2 S2 ry => ?_
      have r1' := r1.step S1 st2
      obtain ⟨j, hj, rfl⟩ := Option.map_eq_some_iff.mp h5
      obtain ⟨hlt, hz, hno⟩ := List.findIdx?_eq_some_iff_getElem.mp hj
      refine ⟨p, w, y, ds, j, ds[j], rfl, rfl, rd_dp _ _ r1' (SeqAt.canLay_of_shaped c.1), rd_dp _ _ ry (SeqAt.canLay_of_shaped c.2), c.1, c.2, List.getElem?_eq_getElem hlt, hz, fun m z' hm hz' => ?_, ?_⟩
      · have hm2 : m < ds.length := by omega
        rw [List.getElem?_eq_getElem hm2] at hz'
        cases hz'
        have := hno m hm
        simpa using this
      · exact k _ H2 F2 os2 (st1.trans st2) S2 (.int _)
    · cases h5
  · cases h5
theorem d_count {f g : M PyData} {apos cpos : Pos} (ha : DOk X a f) (hb : DOk X b g)
    (hbase : attributeBase a "count" X.env (eval a X.env) = eval a X.env := by rfl)
    (hfew : ((backTo cpos (starEach [b] X.env)).all (fun x => !x.1) && (backToKw cpos (keywordEach [] X.env)).all (fun x => x.1.isSome)
      && decide (([b] : List Expr).length + ([] : List Keyword).length + (if ([] : List Keyword).isEmpty then 0 else 1) < 30)) = true := by rfl)
    (hline : (apos.endLine == cpos.line) = true := by rfl) (hs : starEach [b] X.env = (false, eval b X.env) :: starEach [] X.env := by rfl) (hplain : (backTo cpos (starEach [] X.env)).any (·.1) = false := by rfl) :
    DOk X (.Call (.Attribute a "count" apos) [b] [] cpos) (gMet cntD f g) := by
  obtain ⟨ta, pa, ja⟩ := ha.ex
  obtain ⟨tb, pb, jb⟩ := hb.ex
  refine ⟨_, pe_bm PySem.F.plainAttrs_list PySem.F.slot_list_count PySem.F.type_list_count mt_lcount pa (pa_cons pb pa_nil hs) hbase hfew hline hs hplain, fun δ d δ' hf σ H F os Q S k => ?_⟩
  obtain ⟨l, δ1, h1, h2⟩ := bnd_some hf
  obtain ⟨y, δ2, h3, h4⟩ := bnd_some h2
  obtain ⟨h5, rfl⟩ := opt_some h4
  refine ja δ l _ h1 σ H F os _ S fun v H1 F1 os1 st1 S1 r1 => ?_
  unfold cntD at h5
  split at h5
  · next ds n =>
    obtain ⟨p, ws, rfl, f1, q1, r2⟩ := rd_lst r1
    refine ⟨.inl ⟨rfl, ws, SqL.of q1⟩, ?_⟩
    refine jb δ1 _ _ h3 σ H1 F1 os1 _ S1 fun w H2 F2 os2 st2 S2 ry => ?_
    have r1' := r1.step S1 st2
    obtain ⟨p', ws', e', f1', q1', r2'⟩ := rd_lst r1'
    cases e'
    cases ry
    cases e : intsOf ds with
    | none => rw [e] at h5; cases h5
    | some ns =>
      rw [e] at h5
      cases h5
      have q := rds_ints r2' e
      subst q
      exact ⟨p, ns, n, rfl, rfl, SqL.of q1', k _ H2 F2 os2 (st1.trans st2) S2 (.int _)⟩
  · cases h5
end
end Pv

/-! Pv18: an expression whose answer is flat looks at lists of our own, which stay our own -/
namespace Pv
open PySem PySem.Spec L2
open PyProof.Rows hiding St
def hide1 : Option AV → Option AV
  | none => none
  | some a => if a.dat = true then some (.fz a.d) else match a with
    | .sc ns => some (.sc ns)
    | _ => none
def hide (δ : En) : En := δ.map hide1
def flatD : PyData → Bool
  | .none => true
  | .bool _ => true
  | .int _ => true
  | .str _ => true
  | _ => false
section
variable {K : PySem.W.Frag} {F F' F1 F2 : Fz} {H H' H1 H2 : Hp} {os os' os1 os2 : List Addr} {δ δ' δ1 : En} {σ σ' : St}
theorem RE.hide (hF : ∀ q, F q → F' q) : ∀ {δ : En} {σ : St} {os : List Addr}, RE K F H δ σ os → (∀ q ∈ os, F' q) → RE K F' H (hide δ) σ []
  | _, _, _, .nil, _ => .nil
  | _, _, _, .non t, m => .non (RE.hide hF t m)
  | _, _, _, @RE.som _ _ _ a v o δ σ os r t, m => by
    have t' := RE.hide hF t fun q h => m q (List.mem_append_right _ h)
    show RE K F' H (hide1 (some a) :: Pv.hide δ) (some v :: σ) []
    cases a with
    | fz d =>
      have c : hide1 (some (.fz d)) = some (.fz d) := rfl
      rw [c]
      exact .som (o := []) (os := []) (.fz (RA.frozen hF (.fz d) _ _ r rfl fun q h => m q (List.mem_append_left _ h))) t'
    | ow xs =>
      by_cases c : AV.dat (.ow xs) = true
      · have e : hide1 (some (.ow xs)) = some (.fz (AV.ow xs).d) := if_pos c
        rw [e]
        exact .som (o := []) (os := []) (.fz (RA.frozen hF (.ow xs) _ _ r c fun q h => m q (List.mem_append_left _ h))) t'
      · have e : hide1 (some (.ow xs)) = none := if_neg c
        rw [e]
        exact .non t'
    | sc ns =>
      have c : hide1 (some (.sc ns)) = some (.sc ns) := rfl
      rw [c]
      cases r with
      | sc q => exact .som (o := []) (os := []) (.sc (QL.ext ⟨hF, fun _ _ _ h => h⟩ q)) t'
    | odT ks => exact .non t'
    | odK ks => exact .non t'
theorem SR.hide (S : SR K δ σ H F os) : SR K (hide δ) σ H (fun q => F q ∨ q ∈ os) [] :=
  ⟨RE.hide (fun q h => .inl h) S.env fun q m => .inr m, .nil, fun p m => absurd m List.not_mem_nil, fun p h => h.elim (S.dom p) (RE.there S.env p)⟩
theorem SR.unhide (S : SR K δ σ H F os) {F1 : Fz} (st : Step H F1 [] H2 F2 os2) : SR K δ σ H2 F os ∧ Step H F os H2 F os := by
  have kp : ∀ q o, H q = some o → H2 q = some o := fun q o h => st.keep q o h List.not_mem_nil
  have lv : ∀ q, H q ≠ none → H2 q ≠ none := st.live
  exact ⟨⟨S.env.apart ⟨⟨fun _ h => h, fun q o _ h => kp q o h⟩, fun q _ u h => kp q u h⟩, S.nd, S.nf, fun p f => lv p (S.dom p f)⟩,
    ⟨fun q o h _ => kp q o h, fun _ h => h, fun _ h => .inl h, fun _ h => .inl h, lv⟩⟩
end
section
variable {X : Cx} {e : Expr}
def gBor (f : M PyData) : M PyData := fun δ => match f (hide δ) with
  | some (d, _) => if flatD d = true then some (d, δ) else none
  | none => none
theorem d_bor {f : M PyData} (he : DOk X e f) : DOk X e (gBor f) := by
  obtain ⟨te, pe, je⟩ := he.ex
  refine ⟨te, pe, fun δ d δ' hf σ H F os Q S k => ?_⟩
  unfold gBor at hf
  split at hf
  · next d0 δ1 h1 =>
    split at hf
    · next hd =>
      cases hf
      refine je _ d _ h1 σ H _ [] Q S.hide fun v H2 F2 os2 st2 S2 r => ?_
      obtain ⟨S3, st3⟩ := S.unhide st2
      refine k v H2 F os st3 S3 ?_
      cases r with
      | non => exact .non
      | bl b => exact .bl b
      | int i => exact .int i
      | str x => exact .str x
      | lst _ _ _ => cases hd
      | tup _ _ => cases hd
      | dct _ _ _ => cases hd
    · cases hf
  · cases hf
def gBorT (f : M Bool) : M Bool := fun δ => match f (hide δ) with
  | some (b, _) => some (b, δ)
  | none => none
theorem t_bor {f : M Bool} (he : TOk X e f) : TOk X e (gBorT f) := by
  obtain ⟨te, pe, je⟩ := he.ex
  refine ⟨te, pe, fun δ b δ' hf σ H F os Q S k => ?_⟩
  unfold gBorT at hf
  split at hf
  · next b0 δ1 h1 =>
    cases hf
    refine je _ b _ h1 σ H _ [] Q S.hide fun H2 F2 os2 st2 S2 => ?_
    obtain ⟨S3, st3⟩ := S.unhide st2
    exact k H2 F os st3 S3
  · cases hf
end
end Pv

/-! Pv19: lists of our own frozen ahead of an expression or a statement -/
namespace Pv
open PySem PySem.Spec L2
open PyProof.Rows hiding St
def frz1 (i : Nat) (δ : En) : En := match δ[i]? with
  | some (some (.ow xs)) => if AV.dats xs = true then δ.set i (some (.fz (.list (AV.ds xs)))) else δ
  | _ => δ
def frz : List Nat → En → En
  | [], δ => δ
  | i :: is, δ => frz is (frz1 i δ)
section
variable {K : PySem.W.Frag} {F : Fz} {H : Hp} {os : List Addr} {δ : En} {σ : St}
theorem SR.frz1 (S : SR K δ σ H F os) (i : Nat) : ∃ F' os', Step H F os H F' os' ∧ SR K (Pv.frz1 i δ) σ H F' os' := by
  unfold Pv.frz1
  split
  · next xs h =>
    split
    · next c =>
      obtain ⟨v, F', os', _, st, S', _⟩ := S.freezeAt h (show (AV.ow xs).dat = true from c)
      exact ⟨F', os', st, S'⟩
    · exact ⟨F, os, .refl, S⟩
  · exact ⟨F, os, .refl, S⟩
theorem SR.frz : ∀ {is : List Nat} {δ : En} {F : Fz} {os : List Addr}, SR K δ σ H F os → ∃ F' os', Step H F os H F' os' ∧ SR K (Pv.frz is δ) σ H F' os'
  | [], _, _, _, S => ⟨_, _, .refl, S⟩
  | i :: is, _, _, _, S => by
    obtain ⟨F1, os1, st1, S1⟩ := S.frz1 i
    obtain ⟨F2, os2, st2, S2⟩ := SR.frz (is := is) S1
    exact ⟨F2, os2, st1.trans st2, S2⟩
end
section
variable {X : Cx} {Z : List Nat} {e : Expr} {s : Stmt}
def gFrz {α : Type} (is : List Nat) (f : En → α) : En → α := fun δ => f (frz is δ)
theorem a_frz (is : List Nat) {f : M AV} (he : AOk X e f) : AOk X e (gFrz is f) := by
  obtain ⟨te, pe, je⟩ := he.ex
  refine ⟨te, pe, fun δ d δ' hf σ H F os Q S k => ?_⟩
  obtain ⟨F1, os1, st1, S1⟩ := S.frz (is := is)
  exact je _ d δ' hf σ H F1 os1 Q S1 fun v H2 F2 os2 st2 S2 => k v H2 F2 os2 (st1.trans st2) S2
theorem d_frz (is : List Nat) {f : M PyData} (he : DOk X e f) : DOk X e (gFrz is f) := by
  obtain ⟨te, pe, je⟩ := he.ex
  refine ⟨te, pe, fun δ d δ' hf σ H F os Q S k => ?_⟩
  obtain ⟨F1, os1, st1, S1⟩ := S.frz (is := is)
  exact je _ d δ' hf σ H F1 os1 Q S1 fun v H2 F2 os2 st2 S2 => k v H2 F2 os2 (st1.trans st2) S2
theorem s_frz (is : List Nat) {f : Sm} (he : SOk X Z s f) : SOk X Z s (gFrz is f) := by
  obtain ⟨te, pe, je⟩ := he.ex
  refine ⟨te, pe, fun δ r hf σ H F os D S k => ?_⟩
  obtain ⟨F1, os1, st1, S1⟩ := S.frz (is := is)
  exact je _ r hf σ H F1 os1 D S1 (k.from .refl st1)
end
end Pv

/-! Pv20: list(range(..)), tuple(range(..)) -/
namespace Pv
open PySem PySem.Spec L2
open PyProof.Rows hiding St
def rgI (a b : Int) : List Int := (List.range (b - a).toNat).map fun i => a + (i : Nat)
theorem rgV_eq (a b : Int) : rgV a b = (rgI a b).map V.int := by unfold rgV rgI; rw [List.map_map]; rfl
def rgD (l : Bool) (i j : PyData) : Option AV := match i, j with
  | .int a, .int b => if (-1000000 ≤ a ∧ a ≤ 1000000) ∧ (-1000000 ≤ b ∧ b ≤ 1000000) then some (if l = true then .ow (fzs ((rgI a b).map .int)) else .fz (.tuple ((rgI a b).map .int))) else none
  | _, _ => none
def gRg1 (l : Bool) (f : M PyData) : M AV := bnd f fun d => opt (rgD l (.int 0) d)
def gRg2 (l : Bool) (f g : M PyData) : M AV := bnd f fun c => bnd g fun d => opt (rgD l c d)
theorem rgOk {a b : Int} (h : (-1000000 ≤ a ∧ a ≤ 1000000) ∧ (-1000000 ≤ b ∧ b ≤ 1000000)) : RgOk a b := ⟨by omega, by omega, by omega, by omega, by omega⟩
section
variable {X : Cx} {a b : Expr} {p p2 pos pos2 : Pos}
theorem fin_rg {K : PySem.W.Frag} {δ : En} {σ : St} {H : Hp} {F : Fz} {os : List Addr} {l : Bool} {i j : PyData} {z : AV} (h : rgD l i j = some z) (S : SR K δ σ H F os) :
    ∃ m n, i = .int m ∧ j = .int n ∧ RgOk m n ∧ ∀ q, H q = none → ∃ F' os', Step H F os (upd H q (if l = true then .lst (rgV m n) else .tup (rgV m n))) F' os' ∧ SR K (some z :: δ) (some (.ref q) :: σ) (upd H q (if l = true then .lst (rgV m n) else .tup (rgV m n))) F' os' := by
  unfold rgD at h
  split at h
  · next m n =>
    split at h
    · next c =>
      cases h
      refine ⟨m, n, rfl, rfl, rgOk c, fun q hq => ?_⟩
      rw [rgV_eq]
      cases l with
      | true =>
        obtain ⟨S4, st4⟩ := S.out (Out.lst S.dom hq (rds_ofInts (ns := rgI m n)))
        exact ⟨_, _, st4, S4⟩
      | false =>
        obtain ⟨S4, st4⟩ := S.out (Out.tup S.dom hq (rds_ofInts (ns := rgI m n)))
        exact ⟨_, _, st4, S4⟩
    · cases h
  · cases h
theorem a_rgL1 {f : M PyData} (hc : X.calm = true) (hg : Gl X "list") (hm : X.mg "list" = none) (hg2 : Gl X "range") (hm2 : X.mg "range" = none) (ha : DOk X a f)
    (na : starEach [a] X.env = (false, eval a X.env) :: starEach [] X.env := by rfl) (nb : starEach [.Call (.Name "range" p2) [a] [] pos2] X.env = (false, eval (.Call (.Name "range" p2) [a] [] pos2) X.env) :: starEach [] X.env := by rfl) :
    AOk X (.Call (.Name "list" p) [.Call (.Name "range" p2) [a] [] pos2] [] pos) (gRg1 true f) := by
  obtain ⟨ta, pa, ja⟩ := ha.ex
  refine ⟨_, pe_listRg hc hg hm (prg_1 hg2 hm2 pa na) nb, fun δ z δ' hf σ H F os Q S k => ?_⟩
  obtain ⟨d, δ1, h1, h2⟩ := bnd_some hf
  obtain ⟨h3, rfl⟩ := opt_some h2
  refine ja δ d _ h1 σ H F os _ S fun v H1 F1 os1 st1 S1 r1 => ?_
  obtain ⟨m, n, em, rfl, ok, fin⟩ := fin_rg h3 S1
  cases em
  cases r1
  refine ⟨n, rfl, ok, fun q hq => ?_⟩
  obtain ⟨F', os', st, S'⟩ := fin q hq
  exact k _ _ F' os' (st1.trans st) S'
theorem a_rgT1 {f : M PyData} (hc : X.calm = true) (hg : Gl X "tuple") (hm : X.mg "tuple" = none) (hg2 : Gl X "range") (hm2 : X.mg "range" = none) (ha : DOk X a f)
    (na : starEach [a] X.env = (false, eval a X.env) :: starEach [] X.env := by rfl) (nb : starEach [.Call (.Name "range" p2) [a] [] pos2] X.env = (false, eval (.Call (.Name "range" p2) [a] [] pos2) X.env) :: starEach [] X.env := by rfl) :
    AOk X (.Call (.Name "tuple" p) [.Call (.Name "range" p2) [a] [] pos2] [] pos) (gRg1 false f) := by
  obtain ⟨ta, pa, ja⟩ := ha.ex
  refine ⟨_, pe_tupRg hc hg hm (prg_1 hg2 hm2 pa na) nb, fun δ z δ' hf σ H F os Q S k => ?_⟩
  obtain ⟨d, δ1, h1, h2⟩ := bnd_some hf
  obtain ⟨h3, rfl⟩ := opt_some h2
  refine ja δ d _ h1 σ H F os _ S fun v H1 F1 os1 st1 S1 r1 => ?_
  obtain ⟨m, n, em, rfl, ok, fin⟩ := fin_rg h3 S1
  cases em
  cases r1
  refine ⟨n, rfl, ok, fun q hq => ?_⟩
  obtain ⟨F', os', st, S'⟩ := fin q hq
  exact k _ _ F' os' (st1.trans st) S'
theorem a_rgL2 {f g : M PyData} (hc : X.calm = true) (hg : Gl X "list") (hm : X.mg "list" = none) (hg2 : Gl X "range") (hm2 : X.mg "range" = none) (ha : DOk X a f) (hb : DOk X b g)
    (na : starEach [a, b] X.env = (false, eval a X.env) :: starEach [b] X.env := by rfl) (na2 : starEach [b] X.env = (false, eval b X.env) :: starEach [] X.env := by rfl) (hp : (backTo pos2 (starEach [b] X.env)).any (·.1) = false := by rfl) (nb : starEach [.Call (.Name "range" p2) [a, b] [] pos2] X.env = (false, eval (.Call (.Name "range" p2) [a, b] [] pos2) X.env) :: starEach [] X.env := by rfl) :
    AOk X (.Call (.Name "list" p) [.Call (.Name "range" p2) [a, b] [] pos2] [] pos) (gRg2 true f g) := by
  obtain ⟨ta, pa, ja⟩ := ha.ex
  obtain ⟨tb, pb, jb⟩ := hb.ex
  refine ⟨_, pe_listRg hc hg hm (prg_2 hg2 hm2 pa pb na na2 hp) nb, fun δ z δ' hf σ H F os Q S k => ?_⟩
  obtain ⟨c, δ1, h1, h2⟩ := bnd_some hf
  obtain ⟨d, δ2, h3, h4⟩ := bnd_some h2
  obtain ⟨h5, rfl⟩ := opt_some h4
  refine ja δ c _ h1 σ H F os _ S fun v H1 F1 os1 st1 S1 r1 => ?_
  refine jb δ1 d _ h3 σ H1 F1 os1 _ S1 fun w H2 F2 os2 st2 S2 r2 => ?_
  obtain ⟨m, n, rfl, rfl, ok, fin⟩ := fin_rg h5 S2
  cases r1
  cases r2
  refine ⟨m, n, rfl, rfl, ok, fun q hq => ?_⟩
  obtain ⟨F', os', st, S'⟩ := fin q hq
  exact k _ _ F' os' ((st1.trans st2).trans st) S'
theorem a_rgT2 {f g : M PyData} (hc : X.calm = true) (hg : Gl X "tuple") (hm : X.mg "tuple" = none) (hg2 : Gl X "range") (hm2 : X.mg "range" = none) (ha : DOk X a f) (hb : DOk X b g)
    (na : starEach [a, b] X.env = (false, eval a X.env) :: starEach [b] X.env := by rfl) (na2 : starEach [b] X.env = (false, eval b X.env) :: starEach [] X.env := by rfl) (hp : (backTo pos2 (starEach [b] X.env)).any (·.1) = false := by rfl) (nb : starEach [.Call (.Name "range" p2) [a, b] [] pos2] X.env = (false, eval (.Call (.Name "range" p2) [a, b] [] pos2) X.env) :: starEach [] X.env := by rfl) :
    AOk X (.Call (.Name "tuple" p) [.Call (.Name "range" p2) [a, b] [] pos2] [] pos) (gRg2 false f g) := by
  obtain ⟨ta, pa, ja⟩ := ha.ex
  obtain ⟨tb, pb, jb⟩ := hb.ex
  refine ⟨_, pe_tupRg hc hg hm (prg_2 hg2 hm2 pa pb na na2 hp) nb, fun δ z δ' hf σ H F os Q S k => ?_⟩
  obtain ⟨c, δ1, h1, h2⟩ := bnd_some hf
  obtain ⟨d, δ2, h3, h4⟩ := bnd_some h2
  obtain ⟨h5, rfl⟩ := opt_some h4
  refine ja δ c _ h1 σ H F os _ S fun v H1 F1 os1 st1 S1 r1 => ?_
  refine jb δ1 d _ h3 σ H1 F1 os1 _ S1 fun w H2 F2 os2 st2 S2 r2 => ?_
  obtain ⟨m, n, rfl, rfl, ok, fin⟩ := fin_rg h5 S2
  cases r1
  cases r2
  refine ⟨m, n, rfl, rfl, ok, fun q hq => ?_⟩
  obtain ⟨F', os', st, S'⟩ := fin q hq
  exact k _ _ F' os' ((st1.trans st2).trans st) S'
end
end Pv

/-! Pv21: a new thing frozen at once -/
namespace Pv
open PySem PySem.Spec L2
open PyProof.Rows hiding St
section
variable {X : Cx} {e : Expr}
def gFzA (f : M AV) : M AV := fun δ => match f δ with
  | some (a, δ') => if a.dat = true then some (.fz a.d, δ') else none
  | none => none
theorem a_fzA {f : M AV} (he : AOk X e f) : AOk X e (gFzA f) := by
  obtain ⟨te, pe, je⟩ := he.ex
  refine ⟨te, pe, fun δ a δ' hf σ H F os Q S k => ?_⟩
  unfold gFzA at hf
  split at hf
  · next a0 δ1 h1 =>
    split at hf
    · next hd =>
      cases hf
      refine je δ a0 _ h1 σ H F os Q S fun v H1 F1 os1 st1 S1 => ?_
      obtain ⟨F2, os2, st2, S2, r, _⟩ := S1.freeze hd
      exact k v H1 F2 os2 (st1.trans st2) (S2.cons r)
    · cases hf
  · cases hf
end
/-! ### a list of things of our own -/
section
variable {K : PySem.W.Frag} {F : Fz} {H : Hp} {δ : En} {σ : St}
theorem RE.cut : ∀ {as : List AV} {vs : List V} {os : List Addr}, RE K F H (as.map some ++ δ) (vs.map some ++ σ) os → vs.length = as.length → ∃ o1 o2, os = o1 ++ o2 ∧ RAs K F H as vs o1 ∧ RE K F H δ σ o2
  | [], [], os, r, _ => ⟨[], os, rfl, .nil, r⟩
  | a :: as, v :: vs, _, r, h => by
    cases r with
    | @som _ _ o _ _ os1 ra t =>
      obtain ⟨o1, o2, rfl, r1, r2⟩ := RE.cut (as := as) (vs := vs) t (by simpa using h)
      exact ⟨o ++ o1, o2, by rw [List.append_assoc], .cons ra r1, r2⟩
theorem SR.lst {as : List AV} {vs : List V} {os : List Addr} (S : SR K (as.map some ++ δ) (vs.map some ++ σ) H F os) (hl : vs.length = as.length) {p : Addr} (hp : H p = none) :
    ∃ os', SR K (some (.ow as) :: δ) (some (.ref p) :: σ) (upd H p (.lst vs)) F os' ∧ Step H F os (upd H p (.lst vs)) F os' := by
  obtain ⟨o1, o2, rfl, r1, r2⟩ := RE.cut S.env hl
  have nep : ∀ {q : Addr}, H q ≠ none → q ≠ p := fun h e => h (by rw [e]; exact hp)
  have kp : ∀ q o, H q = some o → upd H p (.lst vs) q = some o := fun q o h => by rw [upd_ne (nep (by rw [h]; intro z; cases z))]; exact h
  have ext : Ext F H F (upd H p (.lst vs)) := ⟨fun _ h => h, fun q o _ h => kp q o h⟩
  have there := RE.there S.env
  obtain ⟨n1, n2, n3⟩ := List.nodup_append.mp S.nd
  refine ⟨(p :: o1) ++ o2, ⟨.som (.ow upd_same (RAs.apart r1 ⟨ext, fun q _ u h => kp q u h⟩)) (r2.apart ⟨ext, fun q _ u h => kp q u h⟩), ?_, fun q m f => ?_, fun q f => ?_⟩, ⟨fun q o h _ => kp q o h, fun _ h => h, fun _ h => .inl h, fun q m => ?_, fun q h => ?_⟩⟩
  · refine List.nodup_append.mpr ⟨List.nodup_cons.mpr ⟨fun m => nep (there p (List.mem_append_left _ m)) rfl, n1⟩, n2, fun x hx y hy e => ?_⟩
    rcases List.mem_cons.mp hx with rfl | hx
    · exact nep (there y (List.mem_append_right _ hy)) e.symm
    · exact n3 x hx y hy e
  · rcases List.mem_append.mp m with m | m
    · rcases List.mem_cons.mp m with rfl | m
      · exact S.dom q f hp
      · exact S.nf q (List.mem_append_left _ m) f
    · exact S.nf q (List.mem_append_right _ m) f
  · have := S.dom q f
    rw [upd_ne (nep this)]; exact this
  · rcases List.mem_append.mp m with m | m
    · rcases List.mem_cons.mp m with rfl | m
      · exact .inr hp
      · exact .inl (List.mem_append_left _ m)
    · exact .inl (List.mem_append_right _ m)
  · rw [upd_ne (nep h)]; exact h
end
section
variable {X : Cx} {pos : Pos}
def gLstA (g : M (List AV)) : M AV := bnd g fun as => opt (if as.length ≤ 30 then some (.ow as) else none)
theorem a_lstA {es : List Expr} {g : M (List AV)} (h : AsOk X es g) : AOk X (.List es pos) (gLstA g) := by
  obtain ⟨tr, pr, jr⟩ := h.ex
  refine ⟨tLst tr, pe_lst pr, fun δ d δ' hf σ H F os Q S k => ?_⟩
  obtain ⟨as, δ1, h1, h2⟩ := bnd_some hf
  obtain ⟨h3, rfl⟩ := opt_some h2
  split at h3
  · next hl =>
    cases h3
    refine jr δ as _ h1 σ H F os _ S fun vs H2 F2 os2 st2 S2 e2 => ⟨by rw [e2]; exact Nat.le_trans hl (by rw [sizeLine_eq]; decide), fun p hp => ?_⟩
    obtain ⟨os3, S3, st3⟩ := S2.lst e2 hp
    exact k _ _ _ _ (st2.trans st3) S3
  · cases h3
end
end Pv

/-! Pv22: x[i].append(e), an item of a list of our own that is a list of our own -/
namespace Pv
open PySem PySem.Spec L2
open PyProof.Rows hiding St
section
variable {K : PySem.W.Frag} {F : Fz} {H : Hp} {δ : En} {σ : St} {os : List Addr}
theorem RAs.cutAt {bs : List AV} : ∀ {m : Nat} {as : List AV} {vs : List V} {o : List Addr}, RAs K F H as vs o → as[m]? = some (.ow bs) → ∃ p2 us o2 o1 o3, vs[m]? = some (.ref p2) ∧ H p2 = some (.lst us) ∧ RAs K F H bs us o2 ∧ o = o1 ++ ((p2 :: o2) ++ o3) ∧
    ∀ (F' : Fz) (H' : Hp) (bs' : List AV) (us' : List V) (o2' : List Addr), Apart F H F' H' (o1 ++ o3) → H' p2 = some (.lst us') → RAs K F' H' bs' us' o2' → RAs K F' H' (as.set m (.ow bs')) vs (o1 ++ ((p2 :: o2') ++ o3))
  | m, [], _, _, r, h => by simp at h
  | 0, a :: as, _, _, r, h => by
    have e : a = .ow bs := by simpa using h
    subst e
    cases r with
    | @cons _ _ oa _ _ ot ra t =>
      cases ra with
      | @ow p2 _ us o2 hp rs =>
        exact ⟨p2, us, o2, [], ot, rfl, hp, rs, rfl, fun F' H' bs' us' o2' ap hp' r' => (show RAs K F' H' (.ow bs' :: as) (_ :: _) ((p2 :: o2') ++ ot) from .cons (.ow hp' r') (t.apart ⟨ap.ext, fun q hq u hu => ap.own q (by simpa using hq) u hu⟩))⟩
  | m + 1, a :: as, _, _, r, h => by
    cases r with
    | @cons _ _ oa _ _ ot ra t =>
      obtain ⟨p2, us, o2, o1, o3, h1, h2, h3, rfl, h5⟩ := RAs.cutAt (m := m) t (by simpa using h)
      refine ⟨p2, us, o2, oa ++ o1, o3, by simpa using h1, h2, h3, by rw [List.append_assoc], fun F' H' bs' us' o2' ap hp' r' => ?_⟩
      have t' := h5 F' H' bs' us' o2' ⟨ap.ext, fun q hq u hu => ap.own q (by
        rcases List.mem_append.mp hq with hq | hq
        · exact List.mem_append_left _ (List.mem_append_right _ hq)
        · exact List.mem_append_right _ hq) u hu⟩ hp' r'
      have ra' := ra.apart ⟨ap.ext, fun q hq u hu => ap.own q (List.mem_append_left _ (List.mem_append_left _ hq)) u hu⟩
      have := RAs.cons ra' t'
      rw [← List.append_assoc] at this
      exact this
/-- an item's list gets a thing more -/
theorem SR.wrIn {as bs : List AV} {m : Nat} {a : AV} {p : Addr} {v : V} (S : SR K (some (.ow as) :: some a :: δ) (some (.ref p) :: some v :: σ) H F os) (hm : as[m]? = some (.ow bs)) :
    ∃ p2 vs us os', H p = some (.lst vs) ∧ vs.length = as.length ∧ vs[m]? = some (.ref p2) ∧ H p2 = some (.lst us) ∧ us.length = bs.length ∧ SR K (some (.ow (as.set m (.ow (bs ++ [a])))) :: δ) (some (.ref p) :: σ) (upd H p2 (.lst (us ++ [v]))) F os' ∧ Step H F os (upd H p2 (.lst (us ++ [v]))) F os' := by
  obtain ⟨env, nd, nf, dom⟩ := S
  cases env with
  | @som _ _ o1' _ _ ot r t =>
    cases r with
    | @ow _ _ vs oxs hp rs =>
      cases t with
      | @som _ _ oa _ _ orst ra t =>
        obtain ⟨p2, us, o2, o1, o3, h1, h2, h3, rfl, h5⟩ := rs.cutAt hm
        have pm : ((p :: (o1 ++ ((p2 :: (o2 ++ oa)) ++ o3))) ++ orst).Perm ((p :: (o1 ++ ((p2 :: o2) ++ o3))) ++ (oa ++ orst)) := List.perm_iff_count.mpr fun x => by
          simp only [List.count_append, List.count_cons]; omega
        have nd2 := pm.nodup_iff.mpr nd
        have n2p : ∀ q, q ∈ p :: (o1 ++ (o2 ++ oa ++ o3) ++ orst) → q ≠ p2 := fun q hq e => by
          subst e
          have pm2 : ((p :: (o1 ++ ((q :: (o2 ++ oa)) ++ o3))) ++ orst).Perm (q :: (p :: (o1 ++ (o2 ++ oa ++ o3) ++ orst))) := List.perm_iff_count.mpr fun x => by
            simp only [List.count_append, List.count_cons]; omega
          exact (List.nodup_cons.mp (pm2.nodup_iff.mp nd2)).1 hq
        have f2 : ¬ F p2 := nf p2 (by simp)
        have ex : Ext F H F (upd H p2 (.lst (us ++ [v]))) := ⟨fun _ h => h, fun q u f h => by
          have hq : q ≠ p2 := fun e => f2 (e ▸ f)
          rw [upd_ne hq]; exact h⟩
        have ap : ∀ (o : List Addr), (∀ q ∈ o, q ≠ p2) → Apart F H F (upd H p2 (.lst (us ++ [v]))) o := fun o ho => ⟨ex, fun q m u h => by rw [upd_ne (ho q m)]; exact h⟩
        have rs' := h5 F (upd H p2 (.lst (us ++ [v]))) (bs ++ [a]) (us ++ [v]) (o2 ++ oa) (ap _ fun q hq => n2p q (by
            rcases List.mem_append.mp hq with z | z <;> simp [z])) upd_same (by
            have x := ras_app (RAs.cons (ra.apart (ap oa fun q hq => n2p q (by simp [hq]))) .nil) (h3.apart (ap o2 fun q hq => n2p q (by simp [hq])))
            rw [List.append_nil] at x
            exact x)
        have pne : p ≠ p2 := n2p p (by simp)
        refine ⟨p2, vs, us, (p :: (o1 ++ ((p2 :: (o2 ++ oa)) ++ o3))) ++ orst, hp, ras_len rs, h1, h2, ras_len h3, ⟨.som (.ow (by rw [upd_ne pne]; exact hp) rs') (t.apart (ap _ fun q hq => n2p q (by simp [hq]))), nd2, fun q hq => nf q (pm.mem_iff.mp hq), fun q f => ?_⟩, ?_⟩
        · by_cases e : q = p2
          · rw [e, upd_same]; intro z; cases z
          · rw [upd_ne e]; exact dom q f
        · refine ⟨fun q u h m => ?_, fun _ h => h, fun _ h => .inl h, fun q hq => .inl (pm.mem_iff.mp hq), fun q h => ?_⟩
          · have hq : q ≠ p2 := fun e => m (by rw [e]; simp)
            rw [upd_ne hq]; exact h
          · by_cases e : q = p2
            · rw [e, upd_same]; intro z; cases z
            · rw [upd_ne e]; exact h
theorem SR.wrInAt {i : Nat} {as bs : List AV} {m : Nat} {a : AV} {v : V} (S : SR K (some a :: δ) (some v :: σ) H F os) (h : δ[i]? = some (some (.ow as))) (hm : as[m]? = some (.ow bs)) :
    ∃ p p2 vs us os', σ[i]? = some (some (.ref p)) ∧ H p = some (.lst vs) ∧ vs.length = as.length ∧ vs[m]? = some (.ref p2) ∧ H p2 = some (.lst us) ∧ us.length = bs.length ∧
      SR K (δ.set i (some (.ow (as.set m (.ow (bs ++ [a])))))) σ (upd H p2 (.lst (us ++ [v]))) F os' ∧ Step H F os (upd H p2 (.lst (us ++ [v]))) F os' := by
  obtain ⟨w, os2, h1, S2, m2⟩ := S.move (i := i + 1) (a := .ow as) (by simpa using h)
  have h1' : σ[i]? = some (some w) := by simpa using h1
  simp only [List.set_cons_succ] at S2
  have hw : ∃ p, w = .ref p := by
    obtain ⟨env, _, _, _⟩ := S2
    cases env with
    | som r t => cases r with | ow _ _ => exact ⟨_, rfl⟩
  obtain ⟨p, rfl⟩ := hw
  obtain ⟨p2, vs, us, os3, e1, e2, e3, e4, e5, S3, st3⟩ := S2.wrIn hm
  obtain ⟨os4, S4, m4⟩ := S3.put (i := i)
  rw [List.set_set, set_self h1'] at S4
  refine ⟨p, p2, vs, us, os4, h1', e1, e2, e3, e4, e5, S4, ?_⟩
  exact (st3.less m4).more fun q z => (m2 q).mp z
end
section
variable {X : Cx} {Z : List Nat} {e b : Expr} {pos : Pos}
/-- x[k].append(None), k written -/
def gAppN (i : Nat) (k : Int) : Sm := fun δ => match δ[i]? with
  | some (some (.ow as)) => (match ixN as.length k with
    | some m => (match as[m]? with
      | some (.ow bs) => if bs.length < lim then some (.nx (δ.set i (some (.ow (as.set m (.ow (bs ++ [.fz .none]))))))) else none
      | _ => none)
    | none => none)
  | _ => none
theorem s_appN (i : Nat) (k : Int) {x : Str} {j j2 : Nat} {p p1 p2 p3 apos cpos : Pos} (hN : X.N[i]? = some x := by rfl) (hv : Vis X.env.scope x := by first | exact Or.inl rfl | exact Or.inr (Or.inl rfl) | exact Or.inr (Or.inr rfl))
    (hd : (x == ("__debug__" : Str)) = false := by decide) (hcd : (x == ("__classdict__" : Str)) = false := by decide) (hpl : PlainIx (.Constant (.int k) j p1) := by exact fun _ _ => rfl)
    (hbase : attributeBase (.Subscript (.Name x p) (.Constant (.int k) j p1) p2) "append" X.env (eval (.Subscript (.Name x p) (.Constant (.int k) j p1) p2) X.env) = eval (.Subscript (.Name x p) (.Constant (.int k) j p1) p2) X.env := by rfl)
    (hfew : ((backTo cpos (starEach [.Constant .none j2 p3] X.env)).all (fun x => !x.1) && (backToKw cpos (keywordEach [] X.env)).all (fun x => x.1.isSome)
      && decide (([.Constant .none j2 p3] : List Expr).length + ([] : List Keyword).length + (if ([] : List Keyword).isEmpty then 0 else 1) < 30)) = true := by rfl)
    (hline : (apos.endLine == cpos.line) = true := by rfl) (hs : starEach [.Constant .none j2 p3] X.env = (false, eval (.Constant .none j2 p3) X.env) :: starEach [] X.env := by rfl) (hplain : (backTo cpos (starEach [] X.env)).any (·.1) = false := by rfl)
    (hsw : swapsWith (.Call (.Attribute (.Subscript (.Name x p) (.Constant (.int k) j p1) p2) "append" apos) [.Constant .none j2 p3] [] cpos) none pos.line X.env = pure false := by rfl) :
    SOk X Z (.Expr (.Call (.Attribute (.Subscript (.Name x p) (.Constant (.int k) j p1) p2) "append" apos) [.Constant .none j2 p3] [] cpos) pos) (gAppN i k) := by
  refine ⟨_, ps_expr (pe_bm PySem.F.plainAttrs_list PySem.F.slot_list_append PySem.F.type_list_append mt_append (pe_ix ix_seq (pe_var hN hv hd hcd) pe_int hpl) (pa_cons pe_non pa_nil hs) hbase hfew hline hs hplain) hsw, fun δ r hf σ H F os D S kk => ?_⟩
  unfold gAppN at hf
  split at hf
  · next as h0 =>
    split at hf
    · next m hm =>
      split at hf
      · next bs hb =>
        split at hf
        · next hl =>
          cases hf
          have S1 := S.cons (RD.non (K := X.K) (F := F) (H := H))
          obtain ⟨p0, q2, vs, us, os', h1, h2, h3, h4, h5, h6, S2, st2⟩ := S1.wrInAt h0 hb
          refine ⟨.ref p0, h1, .inl ⟨p0, vs, k, .ref q2, rfl, rfl, SqL.of h2, ?_, ⟨.inl ⟨rfl, us, SqL.of h5⟩, ?_⟩⟩⟩
          · unfold atI
            rw [h3, hm]
            exact h4
          · exact ⟨q2, us, .non, rfl, rfl, h5, by rw [h6]; exact Nat.lt_of_lt_of_le hl lim_line, kk σ _ F os' .refl st2 S2⟩
        · cases hf
      · cases hf
    · cases hf
  · cases hf
end
end Pv

namespace Pv
open PySem PySem.Spec L2
open PyProof.Rows hiding St
/-! Pv23: dicts of our own -/
def dKey : PyData → Option Key
  | .int i => some (.inl i)
  | .str x => some (.inr x)
  | _ => none
def dKeys : List PyData → Option (List Key)
  | [] => some []
  | d :: ds => (dKey d).bind fun k => (dKeys ds).map fun ks => k :: ks
def getK {κ : Type} [DecidableEq κ] (kvs : List (κ × PyData)) (k : κ) : Option PyData := (kvs.find? fun kv => decide (kv.1 = k)).map (·.2)
def putD {κ : Type} [DecidableEq κ] (kvs : List (κ × PyData)) (k : κ) (d : PyData) : List (κ × PyData) :=
  if (kvs.any fun kv => decide (kv.1 = k)) = true then kvs.map (fun kv => if kv.1 = k then (kv.1, d) else kv) else kvs ++ [(k, d)]
section
variable {K : PySem.W.Frag} {F F' F1 : Fz} {H H' H1 : Hp} {os os' os1 : List Addr} {δ δ' δ1 : En} {σ σ' : St} {κ : Type} [DecidableEq κ]
theorem rd_key {v : V} {d : PyData} {k : Key} (r : RD K F H v d) (h : dKey d = some k) : v = kV k := by
  cases r <;> first | cases h | skip
  · rfl
  · rfl
theorem rds_keys : ∀ {ds : List PyData} {vs : List V} {ks : List Key}, RDs K F H vs ds → dKeys ds = some ks → vs = ks.map kV
  | [], _, _, .nil, h => by cases h; rfl
  | d :: ds, _, ks, .cons r t, h => by
    obtain ⟨k, e1, h2⟩ := Option.bind_eq_some_iff.mp h
    obtain ⟨kr, e2, rfl⟩ := Option.map_eq_some_iff.mp h2
    rw [rd_key r e1, rds_keys t e2]; rfl
theorem rkv_len : ∀ {ks : List (κ × V)} {kvs : List (κ × PyData)}, RKv K F H ks kvs → ks.length = kvs.length
  | _, _, .nil => rfl
  | _, _, .cons _ t => congrArg (· + 1) (rkv_len t)
theorem rkv_get {k : κ} : ∀ {ks : List (κ × V)} {kvs : List (κ × PyData)}, RKv K F H ks kvs → (∀ d, getK kvs k = some d → ∃ v, valV ks k = some v ∧ RD K F H v d) ∧ (getK kvs k = none → valV ks k = none)
  | _, _, .nil => ⟨fun d h => (by cases h), fun _ => rfl⟩
  | _, _, .cons (k := k2) (v := v) (d := d2) (vs := vs) (ds := ds) r t => by
    have ih := rkv_get (k := k) t
    by_cases c : k2 = k
    · have e1 : getK ((k2, d2) :: ds) k = some d2 := by unfold getK; simp [c]
      have e2 : valV ((k2, v) :: vs) k = some v := valV_pos c
      rw [e1, e2]
      exact ⟨fun d h => ⟨v, rfl, (by cases h; exact r)⟩, fun h => (by cases h)⟩
    · have e1 : getK ((k2, d2) :: ds) k = getK ds k := by unfold getK; simp [c]
      have e2 : valV ((k2, v) :: vs) k = valV vs k := valV_neg c
      rw [e1, e2]
      exact ih
theorem rkv_any {p : κ → Bool} : ∀ {ks : List (κ × V)} {kvs : List (κ × PyData)}, RKv K F H ks kvs → (ks.any fun kv => p kv.1) = kvs.any fun kv => p kv.1
  | _, _, .nil => rfl
  | _, _, .cons r t => by rw [List.any_cons, List.any_cons, rkv_any t]
theorem rkv_map {k : κ} {w : V} {d : PyData} (rw' : RD K F H w d) : ∀ {ks : List (κ × V)} {kvs : List (κ × PyData)}, RKv K F H ks kvs → RKv K F H (ks.map fun kv => if kv.1 = k then (kv.1, w) else kv) (kvs.map fun kv => if kv.1 = k then (kv.1, d) else kv)
  | _, _, .nil => .nil
  | _, _, .cons (k := k2) r t => by
    rw [List.map_cons, List.map_cons]
    by_cases c : k2 = k
    · rw [if_pos c, if_pos c]; exact .cons rw' (rkv_map rw' t)
    · rw [if_neg c, if_neg c]; exact .cons r (rkv_map rw' t)
theorem rkv_app {k : κ} {w : V} {d : PyData} (rw' : RD K F H w d) : ∀ {ks : List (κ × V)} {kvs : List (κ × PyData)}, RKv K F H ks kvs → RKv K F H (ks ++ [(k, w)]) (kvs ++ [(k, d)])
  | _, _, .nil => .cons rw' .nil
  | _, _, .cons r t => .cons r (rkv_app rw' t)
theorem rkv_put {k : κ} {w : V} {d : PyData} {ks : List (κ × V)} {kvs : List (κ × PyData)} (rw' : RD K F H w d) (r : RKv K F H ks kvs) : RKv K F H (putK ks k w) (putD kvs k d) := by
  unfold putK putD
  rw [rkv_any (p := fun x => decide (x = k)) r]
  split
  · exact rkv_map rw' r
  · exact rkv_app rw' r
/-- a slot's object is changed -/
theorem SR.wr1 {i : Nat} {a a' : AV} {p : Addr} {o' : HO} (S : SR K δ σ H F os) (h : δ[i]? = some (some a)) (hv : σ[i]? = some (some (.ref p)))
    (ha : ∀ oa, RA K F H a (.ref p) oa → oa = [p] ∧ (Ext F H F (upd H p o') → RA K F (upd H p o') a' (.ref p) [p])) :
    ∃ os', SR K (δ.set i (some a')) σ (upd H p o') F os' ∧ Step H F os (upd H p o') F os' := by
  obtain ⟨w, os2, h1, S2, m2⟩ := S.move h
  rw [hv] at h1
  cases h1
  obtain ⟨env, nd, nf, dom⟩ := S2
  cases env with
  | @som _ _ o1 _ _ ot r t =>
    obtain ⟨rfl, f⟩ := ha _ r
    obtain ⟨n1, n2, n3⟩ := List.nodup_append.mp nd
    have npr : ∀ q ∈ ot, q ≠ p := fun q z e => n3 p (by simp) q z e.symm
    have ex : Ext F H F (upd H p o') := ⟨fun _ h => h, fun q u f h => by
      have hq : q ≠ p := fun e => nf p (by simp) (e ▸ f)
      rw [upd_ne hq]; exact h⟩
    have S3 : SR K (some a' :: δ.set i none) (some (.ref p) :: σ) (upd H p o') F ([p] ++ ot) := by
      refine ⟨.som (f ex) (t.apart ⟨ex, fun q m u h => by rw [upd_ne (npr q m)]; exact h⟩), nd, nf, fun q f => ?_⟩
      by_cases e : q = p
      · rw [e, upd_same]; intro z; cases z
      · rw [upd_ne e]; exact dom q f
    obtain ⟨os4, S4, m4⟩ := S3.put (i := i)
    rw [List.set_set, set_self hv] at S4
    have sub : ∀ q ∈ os4, q ∈ os := fun q m => (m2 q).mp (m4 q m)
    have hp : p ∈ os := (m2 p).mp (by simp)
    refine ⟨os4, S4, fun q u h m => ?_, fun _ h => h, fun _ h => .inl h, fun q m => .inl (sub q m), fun q h => ?_⟩
    · have hq : q ≠ p := fun e => m (e ▸ hp)
      rw [upd_ne hq]; exact h
    · by_cases e : q = p
      · rw [e, upd_same]; intro z; cases z
      · rw [upd_ne e]; exact h
end

section
variable {X : Cx} {Z : List Nat} {e a b : Expr} {pos : Pos}
/-- {} -/
theorem a_newT : AOk X (.Dict [] [] pos) (ret (.odT [])) := by
  refine ⟨_, pe_dnewT, fun δ x δ' hf σ H F os Q S k p hp => ?_⟩
  obtain ⟨rfl, rfl⟩ := ret_some hf
  have o : Out X.K F H (.odT []) (.ref p) (upd H p (.dT [])) F [p] :=
    ⟨Grow.own S.dom hp, .odT upd_same .nil, List.nodup_cons.mpr ⟨List.not_mem_nil, .nil⟩, fun q m => by
      have e : q = p := by simpa using m
      subst e
      exact ⟨hp, fun f => S.dom q f hp⟩⟩
  obtain ⟨S2, st⟩ := S.out o
  exact k _ _ F _ st S2

/-- x[e, ..] = y -/
def gPutDT (i : Nat) (l : M (List PyData)) (fv : M PyData) : Sm := fun δ => match fv δ with
  | some (d, δ1) => (match δ1[i]? with
    | some (some (.odT _)) => (match l δ1 with
      | some (ds, δ2) => (match δ2[i]? with
        | some (some (.odT kvs)) => (match dKeys ds with
          | some k => if kvs.length < lim ∧ ds.length ≤ lim then some (.nx (δ2.set i (some (.odT (putD kvs k d))))) else none
          | none => none)
        | _ => none)
      | none => none)
    | _ => none)
  | none => none
theorem s_putDT (i : Nat) {x : Str} {es : List Expr} {l : M (List PyData)} {fv : M PyData} {p p2 p3 : Pos} {kk : Nat} (hu : X.A.units + 64 < cLine) (hb : LOk X es l) (he : DOk X e fv) (hN : X.N[i]? = some x := by rfl) (hv : Vis X.env.scope x := by first | exact Or.inl rfl | exact Or.inr (Or.inl rfl) | exact Or.inr (Or.inr rfl))
    (hd : (x == ("__debug__" : Str)) = false := by decide) (hcd : (x == ("__classdict__" : Str)) = false := by decide)
    (hs : swapsWith e (some (.Subscript (.Name x p) (.Tuple es kk p3) p2)) pos.line X.env = pure false := by rfl) :
    SOk X Z (.Assign [.Subscript (.Name x p) (.Tuple es kk p3) p2] e pos) (gPutDT i l fv) := by
  obtain ⟨te, pe, je⟩ := he.ex
  obtain ⟨tb, pb, jb⟩ := hb.ex
  refine ⟨_, ps_dput (by omega) (pe_var hN hv hd hcd) (pe_tup pb) pe hs, fun δ r hf σ H F os D S k => ?_⟩
  unfold gPutDT at hf
  split at hf
  · next d δ1 h1 =>
    split at hf
    · next h0 =>
      split at hf
      · next ds δ2 h2 =>
        split at hf
        · next kvs h =>
          split at hf
          · next key hk =>
            split at hf
            · next hl =>
              cases hf
              refine je δ d δ1 h1 σ H F os _ S fun w H1 F1 os1 st1 S1 r1 => ?_
              obtain ⟨v, _, hv1, r0, _⟩ := S1.at_ h0
              refine ⟨v, hv1, ?_⟩
              refine jb δ1 ds δ2 h2 σ H1 F1 os1 _ S1 fun vs H2 F2 os2 st2 S2 r2 => ⟨by rw [r2.length]; exact Nat.le_trans hl.2 lim_line, fun q hq => ?_⟩
              have ev := rds_keys r2 hk
              subst ev
              have x := Out.tup (K := X.K) S2.dom hq r2
              obtain ⟨S3, st3⟩ := S2.out x
              obtain ⟨os3, m3, S3'⟩ := S3.drop
              obtain ⟨v2, o2, hv2, r3, _⟩ := S3'.at_ h
              rw [hv1] at hv2
              cases hv2
              cases r3 with
              | @odT pd ks _ hpd rk =>
                have rw1 := (r1.step S1 st2).ext x.g.ext
                obtain ⟨os4, S4, st4⟩ := S3'.wr1 (a' := .odT (putD kvs key d)) (o' := .dT (putK ks key w)) h hv1 fun oa ra => by
                  cases ra with
                  | @odT _ ks2 _ hp2 rk2 =>
                    rw [hpd] at hp2
                    cases hp2
                    exact ⟨rfl, fun ex => .odT upd_same (rkv_put (rw1.ext ex) (rk2.ext ex))⟩
                have hlen := rkv_len rk
                refine ⟨pd, _, rfl, .inr ⟨ks, key, q, hpd, rfl, upd_same, ?_, rfl⟩, ?_⟩
                · have := hl.1
                  have := lim_line
                  omega
                · exact k σ _ _ os4 .refl (((st1.trans st2).trans (st3.less m3)).trans st4) S4
            · cases hf
          · cases hf
        · cases hf
      · cases hf
    · cases hf
  · cases hf
/-- x[e, ..] -/
def gGetDT (i : Nat) (l : M (List PyData)) : M PyData := fun δ => match δ[i]? with
  | some (some (.odT _)) => (match l δ with
    | some (ds, δ1) => (match δ1[i]? with
      | some (some (.odT kvs)) => (match dKeys ds with
        | some k => (match getK kvs k with
          | some d => if ds.length ≤ lim then some (d, δ1) else none
          | none => none)
        | none => none)
      | _ => none)
    | none => none)
  | _ => none
theorem d_getDT (i : Nat) {x : Str} {es : List Expr} {l : M (List PyData)} {p p3 : Pos} {kk : Nat} (hu : X.A.units + 64 < cLine) (hb : LOk X es l) (hN : X.N[i]? = some x := by rfl) (hv : Vis X.env.scope x := by first | exact Or.inl rfl | exact Or.inr (Or.inl rfl) | exact Or.inr (Or.inr rfl))
    (hd : (x == ("__debug__" : Str)) = false := by decide) (hcd : (x == ("__classdict__" : Str)) = false := by decide) (hns : NoSl (.Tuple es kk p3) := by intro _ _; rfl) :
    DOk X (.Subscript (.Name x p) (.Tuple es kk p3) pos) (gGetDT i l) := by
  obtain ⟨tb, pb, jb⟩ := hb.ex
  refine ⟨_, pe_dget (by omega) (pe_var hN hv hd hcd) (pe_tup pb) hns, fun δ d δ' hf σ H F os Q S k => ?_⟩
  unfold gGetDT at hf
  split at hf
  · next h0 =>
    obtain ⟨v, _, hv1, r0, _⟩ := S.at_ h0
    split at hf
    · next ds δ1 h1 =>
      split at hf
      · next kvs h =>
        split at hf
        · next key hk =>
          split at hf
          · next d2 hg =>
            split at hf
            · next hl =>
              cases hf
              refine ⟨v, hv1, ?_⟩
              refine jb δ ds _ h1 σ H F os _ S fun vs H2 F2 os2 st2 S2 r2 => ⟨by rw [r2.length]; exact Nat.le_trans hl lim_line, fun q hq => ?_⟩
              have ev := rds_keys r2 hk
              subst ev
              have x := Out.tup (K := X.K) S2.dom hq r2
              obtain ⟨S3, st3⟩ := S2.out x
              obtain ⟨os3, m3, S3'⟩ := S3.drop
              obtain ⟨v2, o2, hv2, r3, _⟩ := S3'.at_ h
              rw [hv1] at hv2
              cases hv2
              cases r3 with
              | @odT pd ks _ hpd rk =>
                obtain ⟨u, hu2, ru⟩ := (rkv_get (k := key) rk).1 _ hg
                refine ⟨pd, u, rfl, .inr ⟨ks, key, q, .inl hpd, rfl, upd_same, hu2.symm⟩, ?_⟩
                exact k u _ _ os3 (st2.trans (st3.less m3)) S3' ru
            · cases hf
          · cases hf
        · cases hf
      · cases hf
    · cases hf
  · cases hf

end
section
variable {X : Cx} {Z : List Nat} {e a b : Expr} {pos : Pos}
/-- {} -/
theorem a_newK : AOk X (.Dict [] [] pos) (ret (.odK [])) := by
  refine ⟨_, pe_dnewK, fun δ x δ' hf σ H F os Q S k p hp => ?_⟩
  obtain ⟨rfl, rfl⟩ := ret_some hf
  have o : Out X.K F H (.odK []) (.ref p) (upd H p (.dK [])) F [p] :=
    ⟨Grow.own S.dom hp, .odK upd_same .nil, List.nodup_cons.mpr ⟨List.not_mem_nil, .nil⟩, fun q m => by
      have e : q = p := by simpa using m
      subst e
      exact ⟨hp, fun f => S.dom q f hp⟩⟩
  obtain ⟨S2, st⟩ := S.out o
  exact k _ _ F _ st S2
end
end Pv

namespace Pv
open PySem PySem.Spec L2
open PyProof.Rows hiding St
theorem fund_same {K : PySem.W.Frag} {x q x2 q2 : Str} {p p2 : Arguments} {b b2 : List Stmt} {s s2 : Scope} {f : Addr} {fd fd2 : FuncData} (F : FunD K x q p b s [] [] f fd) (G : FunD K x2 q2 p2 b2 s2 [] [] f fd2) : fd = fd2 := by
  obtain ⟨oc, od, dV, kV, doc, pm, an, cdv, ct, osl, rfl, look, _⟩ := F.ex
  obtain ⟨oc2, od2, dV2, kV2, doc2, pm2, an2, cdv2, ct2, osl2, rfl, look2, _⟩ := G.ex
  rw [look] at look2
  have := Option.some.inj look2
  injection this with h1 h2 h3 h4
  injection h3
/-- the law's end from the def where it stands -/
theorem law_end {l : PySem.W.OpenLaw} {n k : Nat} {x : Str} {g : Fn} {q : Program} {loose : List Str} {XP : (Str → Option Value) → Heap → Prop} {YP : World → Heap → Prop} {d : DefRec} {params : Arguments}
    (hn : l.most = some n) (hn2 : n ≤ sizeLine) (hdf : d.params.defaults = []) (hr : Room k callerA) (B : Bnd "law" params [x] 1 0 [] [0]) (hnm : d.name = "law")
    (Fs : ∀ (w : World) (mg : Str → Option Value) (h : Heap), YP w h → h.Ns mainGlobals mg → ∃ K : PySem.W.Frag, K.In h ∧ ∀ base : Heap, K.In base → base.Ns mainGlobals mg → DefAt l.prog w K mg base "law" params k 1 [x] false g)
    (hg : ∀ ns : List Int, ns.length ≤ n → g [.sc ns] = some (.fz (.bool true), [])) :
    PySem.W.WalkO q loose XP YP l.row.toRowW d [] (fun f vs => PySem.call f vs) := by
  refine law_ok (x := x) hn hn2 hdf hr (fun w mg fa h Y G hmg => ?_) hg
  obtain ⟨K, KX, D⟩ := Fs w mg h Y G
  obtain ⟨f, fd, body, scope, F, hm, _⟩ := (D h KX G).ex
  rw [hnm, hm] at hmg
  have e : f = fa := by injection hmg with e; injection e
  subst e
  refine ⟨K, fd, KX, fun s u => ?_, fun base kb gb => ?_⟩
  · have := (bindK_of F (B body scope)).to s [u] [] rfl rfl
    exact this
  · obtain ⟨f2, fd2, b2, s2, F2, hm2, G2⟩ := (D base kb gb).ex
    rw [hm] at hm2
    have e : f = f2 := by injection hm2 with e; injection e
    subst e
    have e := fund_same F F2
    subst e
    exact G2
theorem saysX_D {fa : List He.Fa} {fn : List He.DefD} {ts : List He.Tab} {tf : List He.Defn} {ex : PySem.W.Frag → Bool} {w : World} {h : Heap} {K : PySem.W.Frag} (c : He.SaysX fa fn ts tf ex w h K) : He.SaysD fa fn K := by
  have := c.t
  exact congrArg (fun z => z.1) this
end Pv

namespace Pv
open PySem PySem.Spec L2
open PyProof.Rows hiding St
/-! PvW: what holds behind a pure part -/
def Ep {α : Type} (f : M α) (δ : En) (P : α → En → Prop) : Prop := ∃ a δ', f δ = some (a, δ') ∧ P a δ'
def Sp (f : Sm) (δ : En) (P : Fl → Prop) : Prop := ∃ r, f δ = some r ∧ P r
def Cp (g : Fn) (as : List AV) (P : AV → List AV → Prop) : Prop := ∃ r o, g as = some (r, o) ∧ P r o
section
variable {α β : Type} {δ : En} {f : M α} {P : α → En → Prop}
theorem Ep.mono {P' : α → En → Prop} (h : Ep f δ P) (w : ∀ a δ', P a δ' → P' a δ') : Ep f δ P' := let ⟨a, d, e, p⟩ := h; ⟨a, d, e, w a d p⟩
theorem Sp.mono {f : Sm} {P P' : Fl → Prop} (h : Sp f δ P) (w : ∀ r, P r → P' r) : Sp f δ P' := let ⟨a, e, p⟩ := h; ⟨a, e, w a p⟩
theorem Cp.mono {g : Fn} {as : List AV} {P P' : AV → List AV → Prop} (h : Cp g as P) (w : ∀ r o, P r o → P' r o) : Cp g as P' := let ⟨a, d, e, p⟩ := h; ⟨a, d, e, w a d p⟩
theorem cp_of {g : Fn} {as : List AV} {r : AV} {o : List AV} (h : g as = some (r, o)) {P : AV → List AV → Prop} : Cp g as P ↔ P r o := by
  unfold Cp
  rw [h]
  constructor
  · rintro ⟨a, b, e, p⟩; cases e; exact p
  · exact fun p => ⟨r, o, rfl, p⟩
theorem cp_eq {g : Fn} {as : List AV} {r : AV} {o : List AV} (h : Cp g as fun a b => a = r ∧ b = o) : g as = some (r, o) := by
  obtain ⟨a, b, e, rfl, rfl⟩ := h; exact e
@[simp] theorem ep_ret {a : α} : Ep (Pv.ret a) δ P ↔ P a δ := by
  unfold Ep Pv.ret
  constructor
  · rintro ⟨b, d, e, p⟩; cases e; exact p
  · exact fun p => ⟨a, δ, rfl, p⟩
@[simp] theorem ep_bnd {x : M β} {k : β → M α} : Ep (bnd x k) δ P ↔ Ep x δ fun a δ' => Ep (k a) δ' P := by
  unfold Ep bnd
  constructor
  · rintro ⟨b, d, e, p⟩
    split at e
    · next a d1 h => exact ⟨a, d1, h, b, d, e, p⟩
    · cases e
  · rintro ⟨a, d1, h, b, d, e, p⟩
    exact ⟨b, d, by rw [h]; exact e, p⟩
@[simp] theorem ep_opt {o : Option α} : Ep (opt o) δ P ↔ ∃ a, o = some a ∧ P a δ := by
  unfold Ep opt
  cases o with
  | none => simp
  | some a =>
    constructor
    · rintro ⟨b, d, e, p⟩; cases e; exact ⟨_, rfl, p⟩
    · rintro ⟨b, e, p⟩; cases e; exact ⟨_, _, rfl, p⟩
@[simp] theorem ep_dOf {f : M AV} {P : PyData → En → Prop} : Ep (dOf f) δ P ↔ Ep f δ fun a δ' => a.dat = true ∧ P a.d δ' := by
  unfold Ep dOf
  constructor
  · rintro ⟨d, d1, e, p⟩
    split at e
    · next x y h => cases e; exact ⟨_, _, h, rfl, p⟩
    · next x y h =>
      split at e
      · next hd => cases e; exact ⟨_, _, h, hd, p⟩
      · cases e
    · cases e
  · rintro ⟨a, d1, h, hd, p⟩
    refine ⟨_, _, ?_, p⟩
    rw [h]
    cases a with
    | fz d => rfl
    | ow xs => simp [show AV.dats xs = true from hd, AV.d]
    | sc _ => cases hd
    | odT _ => cases hd
    | odK _ => cases hd
@[simp] theorem ep_aOf {f : M PyData} {P : AV → En → Prop} : Ep (aOf f) δ P ↔ Ep f δ fun d δ' => P (.fz d) δ' := by unfold aOf; simp
theorem set_same : ∀ {i : Nat} {δ : En} {x : Option AV}, δ[i]? = some x → δ.set i x = δ
  | i, [], x, h => by simp at h
  | 0, y :: δ, x, h => by
    have e : y = x := by simpa using h
    rw [e]; rfl
  | i + 1, y :: δ, x, h => by
    show y :: δ.set i x = y :: δ
    rw [set_same (by simpa using h)]
@[simp] theorem ep_gVar {i : Nat} {P : PyData → En → Prop} : Ep (gVar i) δ P ↔ ∃ a, δ[i]? = some (some a) ∧ a.dat = true ∧ P a.d (δ.set i (some (.fz a.d))) := by
  unfold Ep gVar
  constructor
  · rintro ⟨d, d1, e, p⟩
    split at e
    · next x h => cases e; exact ⟨_, h, rfl, by rw [show (AV.fz d).d = d from rfl, set_same h]; exact p⟩
    · next x h =>
      split at e
      · next hd => cases e; exact ⟨_, h, hd, p⟩
      · cases e
    · cases e
  · rintro ⟨a, h, hd, p⟩
    cases a with
    | fz d => exact ⟨d, δ, by rw [h], by rw [show (AV.fz d).d = d from rfl, set_same h] at p; exact p⟩
    | ow xs => exact ⟨_, _, by rw [h]; exact if_pos hd, p⟩
    | sc _ => cases hd
    | odT _ => cases hd
    | odK _ => cases hd
@[simp] theorem ep_mVar {i : Nat} {P : AV → En → Prop} : Ep (mVar i) δ P ↔ ∃ a, δ[i]? = some (some a) ∧ P a (δ.set i none) := by
  unfold Ep mVar
  constructor
  · rintro ⟨d, d1, e, p⟩
    split at e
    · next x h => cases e; exact ⟨_, h, p⟩
    · cases e
  · rintro ⟨a, h, p⟩
    exact ⟨a, _, by rw [h], p⟩
@[simp] theorem ep_lenV {i : Nat} {P : PyData → En → Prop} : Ep (gLenV i) δ P ↔ ∃ a, δ[i]? = some (some a) ∧ ∃ d, lenV a = some d ∧ P d δ := by
  unfold Ep gLenV
  constructor
  · rintro ⟨d, d1, e, p⟩
    split at e
    · next x h =>
      split at e
      · next z h2 => cases e; exact ⟨_, h, _, h2, p⟩
      · cases e
    · cases e
  · rintro ⟨a, h, d, h2, p⟩
    exact ⟨d, δ, by simp only [h, h2], p⟩
@[simp] theorem ep_ixV {i : Nat} {f : M PyData} {P : PyData → En → Prop} : Ep (gIxV i f) δ P ↔ (∃ a0, δ[i]? = some (some a0)) ∧ Ep f δ fun d δ1 => ∃ a, δ1[i]? = some (some a) ∧ ∃ z, ixV a d = some z ∧ P z δ1 := by
  unfold Ep gIxV
  constructor
  · rintro ⟨d, d1, e, p⟩
    split at e
    · next x h =>
      split at e
      · next z δ1 h2 =>
        split at e
        · next a h3 =>
          split at e
          · next z h4 => cases e; exact ⟨⟨_, h⟩, _, _, h2, _, h3, _, h4, p⟩
          · cases e
        · cases e
      · cases e
    · cases e
  · rintro ⟨⟨a0, h⟩, d, δ1, h2, a, h3, z, h4, p⟩
    exact ⟨z, δ1, by simp only [h, h2, h3, h4], p⟩
@[simp] theorem ep_tB {f : M PyData} {P : Bool → En → Prop} : Ep (tB f) δ P ↔ Ep f δ fun d δ' => ∃ b, d = .bool b ∧ P b δ' := by
  unfold tB
  simp only [ep_bnd]
  constructor
  · intro h
    refine h.mono fun d δ' q => ?_
    cases d with
    | bool b => exact ⟨b, rfl, by simpa using q⟩
    | _ => obtain ⟨_, _, e, _⟩ := q; cases e
  · intro h
    refine h.mono fun d δ' q => ?_
    obtain ⟨b, rfl, p⟩ := q
    simpa using p
@[simp] theorem ep_and {f g : M Bool} {P : Bool → En → Prop} : Ep (gAnd f g) δ P ↔ Ep f δ fun b δ' => (b = true → Ep g δ' P) ∧ (b = false → P false δ') := by
  unfold gAnd
  simp only [ep_bnd]
  constructor <;> intro h <;> refine h.mono fun b δ' q => ?_ <;> cases b <;> simp_all
@[simp] theorem ep_or {f g : M Bool} {P : Bool → En → Prop} : Ep (gOr f g) δ P ↔ Ep f δ fun b δ' => (b = true → P true δ') ∧ (b = false → Ep g δ' P) := by
  unfold gOr
  simp only [ep_bnd]
  constructor <;> intro h <;> refine h.mono fun b δ' q => ?_ <;> cases b <;> simp_all
@[simp] theorem ep_not {f : M Bool} {P : Bool → En → Prop} : Ep (gNot f) δ P ↔ Ep f δ fun b δ' => P (!b) δ' := by unfold gNot; simp
@[simp] theorem ep_if {c : M Bool} {f g : M α} : Ep (gIf c f g) δ P ↔ Ep c δ fun b δ' => (b = true → Ep f δ' P) ∧ (b = false → Ep g δ' P) := by
  unfold gIf
  simp only [ep_bnd]
  constructor <;> intro h <;> refine h.mono fun b δ' q => ?_ <;> cases b <;> simp_all
@[simp] theorem ep_andV {f g : M PyData} {P : PyData → En → Prop} : Ep (gAndV f g) δ P ↔ Ep f δ fun d δ' => ∃ b, d = .bool b ∧ (b = true → Ep g δ' P) ∧ (b = false → P (.bool false) δ') := by
  unfold gAndV
  simp only [ep_bnd]
  constructor
  · intro h
    refine h.mono fun d δ' q => ?_
    cases d with
    | bool b => cases b <;> exact ⟨_, rfl, by simpa using q⟩
    | _ => obtain ⟨_, _, e, _⟩ := q; cases e
  · intro h
    refine h.mono fun d δ' q => ?_
    obtain ⟨b, rfl, p⟩ := q
    cases b <;> simpa using p
@[simp] theorem ep_orV {f g : M PyData} {P : PyData → En → Prop} : Ep (gOrV f g) δ P ↔ Ep f δ fun d δ' => ∃ b, d = .bool b ∧ (b = true → P (.bool true) δ') ∧ (b = false → Ep g δ' P) := by
  unfold gOrV
  simp only [ep_bnd]
  constructor
  · intro h
    refine h.mono fun d δ' q => ?_
    cases d with
    | bool b => cases b <;> exact ⟨_, rfl, by simpa using q⟩
    | _ => obtain ⟨_, _, e, _⟩ := q; cases e
  · intro h
    refine h.mono fun d δ' q => ?_
    obtain ⟨b, rfl, p⟩ := q
    cases b <;> simpa using p
@[simp] theorem ep_notV {f : M PyData} {P : PyData → En → Prop} : Ep (gNotV f) δ P ↔ Ep f δ fun d δ' => ∃ b, d = .bool b ∧ P (.bool (!b)) δ' := by
  unfold gNotV
  simp only [ep_bnd]
  constructor
  · intro h
    refine h.mono fun d δ' q => ?_
    cases d with
    | bool b => exact ⟨b, rfl, by simpa using q⟩
    | _ => obtain ⟨_, _, e, _⟩ := q; cases e
  · intro h
    refine h.mono fun d δ' q => ?_
    obtain ⟨b, rfl, p⟩ := q
    simpa using p
@[simp] theorem ep_cmp {op : PyData → PyData → Option Bool} {f g : M PyData} {P : Bool → En → Prop} : Ep (gCmp op f g) δ P ↔ Ep f δ fun x δ1 => Ep g δ1 fun y δ2 => ∃ b, op x y = some b ∧ P b δ2 := by unfold gCmp; simp
@[simp] theorem ep_bl {f : M Bool} {P : PyData → En → Prop} : Ep (gBl f) δ P ↔ Ep f δ fun b δ' => P (.bool b) δ' := by unfold gBl; simp
@[simp] theorem ep_chn {op op' : PyData → PyData → Option Bool} {f g h : M PyData} {P : Bool → En → Prop} : Ep (gChn op op' f g h) δ P ↔ Ep f δ fun x δ1 => Ep g δ1 fun y δ2 => ∃ b, op x y = some b ∧ (b = true → Ep h δ2 fun z δ3 => ∃ b', op' y z = some b' ∧ P b' δ3) ∧ (b = false → P false δ2) := by
  unfold gChn
  simp only [ep_bnd, ep_opt]
  constructor
  · intro h
    refine h.mono fun x δ1 q => q.mono fun y δ2 ⟨b, e, q⟩ => ⟨b, e, ?_⟩
    cases b <;> simpa using q
  · intro h
    refine h.mono fun x δ1 q => q.mono fun y δ2 ⟨b, e, q⟩ => ⟨b, e, ?_⟩
    cases b <;> simpa using q
@[simp] theorem ep_bin {op : PyData → PyData → Option AV} {f g : M PyData} {P : AV → En → Prop} : Ep (gBin op f g) δ P ↔ Ep f δ fun x δ1 => Ep g δ1 fun y δ2 => ∃ z, op x y = some z ∧ P z δ2 := by unfold gBin; simp
@[simp] theorem ep_neg {f : M PyData} {P : PyData → En → Prop} : Ep (gNeg f) δ P ↔ Ep f δ fun x δ1 => ∃ z, negD x = some z ∧ P z δ1 := by unfold gNeg; simp
@[simp] theorem ep_isi {T : Ty} {f : M PyData} {P : PyData → En → Prop} : Ep (gIsi T f) δ P ↔ Ep f δ fun x δ1 => P (.bool (T.is x)) δ1 := by unfold gIsi; simp
@[simp] theorem ep_isi2 {T U : Ty} {f : M PyData} {P : PyData → En → Prop} : Ep (gIsi2 T U f) δ P ↔ Ep f δ fun x δ1 => P (.bool (T.is x || U.is x)) δ1 := by unfold gIsi2; simp
@[simp] theorem ep_lcons {f : M PyData} {g : M (List PyData)} {P : List PyData → En → Prop} : Ep (lcons f g) δ P ↔ Ep f δ fun x δ1 => Ep g δ1 fun r δ2 => P (x :: r) δ2 := by unfold lcons; simp
@[simp] theorem ep_acons {f : M AV} {g : M (List AV)} {P : List AV → En → Prop} : Ep (acons f g) δ P ↔ Ep f δ fun x δ1 => Ep g δ1 fun r δ2 => P (x :: r) δ2 := by unfold acons; simp
@[simp] theorem ep_call {op : List PyData → Option AV} {g : M (List PyData)} {P : AV → En → Prop} : Ep (gCall op g) δ P ↔ Ep g δ fun x δ1 => ∃ z, op x = some z ∧ P z δ1 := by unfold gCall; simp
@[simp] theorem ep_tup {g : M (List PyData)} {P : PyData → En → Prop} : Ep (gTupE g) δ P ↔ Ep g δ fun x δ1 => x.length ≤ lim ∧ P (.tuple x) δ1 := by
  unfold gTupE gTup'; simp only [ep_bnd, ep_opt]
  constructor <;> intro h <;> refine h.mono fun x δ1 q => ?_
  · obtain ⟨a, e, p⟩ := q
    split at e
    · next hl => cases e; exact ⟨hl, p⟩
    · cases e
  · exact ⟨_, if_pos q.1, q.2⟩
@[simp] theorem ep_lst {g : M (List PyData)} {P : AV → En → Prop} : Ep (gLstE g) δ P ↔ Ep g δ fun x δ1 => x.length ≤ lim ∧ P (.ow (fzs x)) δ1 := by
  unfold gLstE gLst'; simp only [ep_bnd, ep_opt]
  constructor <;> intro h <;> refine h.mono fun x δ1 q => ?_
  · obtain ⟨a, e, p⟩ := q
    split at e
    · next hl => cases e; exact ⟨hl, p⟩
    · cases e
  · exact ⟨_, if_pos q.1, q.2⟩
@[simp] theorem ep_seqI {f : M PyData} {P : List PyData → En → Prop} : Ep (gSeqI f) δ P ↔ Ep f δ fun x δ1 => ∃ z, seqD x = some z ∧ P z δ1 := by unfold gSeqI; simp
@[simp] theorem ep_rng1 {f : M PyData} {P : List PyData → En → Prop} : Ep (gRng1 f) δ P ↔ Ep f δ fun x δ1 => ∃ z, rng1 x = some z ∧ P z δ1 := by unfold gRng1; simp
@[simp] theorem ep_rng2 {f g : M PyData} {P : List PyData → En → Prop} : Ep (gRng2 f g) δ P ↔ Ep f δ fun x δ1 => Ep g δ1 fun y δ2 => ∃ z, rng2 x y = some z ∧ P z δ2 := by unfold gRng2; simp
@[simp] theorem ep_zip {f g : M PyData} {P : List PyData → En → Prop} : Ep (gZip f g) δ P ↔ Ep f δ fun x δ1 => Ep g δ1 fun y δ2 => ∃ xs ys, seqD x = some xs ∧ seqD y = some ys ∧ P (zipD xs ys) δ2 := by
  unfold gZip; simp only [ep_bnd, ep_opt]
  constructor <;> intro h <;> refine h.mono fun x δ1 q => q.mono fun y δ2 q => ?_
  · obtain ⟨a, e, p⟩ := q
    split at e
    · next h1 h2 => cases e; exact ⟨_, _, h1, h2, p⟩
    · cases e
  · obtain ⟨xs, ys, h1, h2, p⟩ := q
    exact ⟨_, by rw [h1, h2], p⟩
@[simp] theorem ep_part {f : M PyData} {P : Option Int → En → Prop} : Ep (gPart f) δ P ↔ Ep f δ fun x δ1 => ∃ i, x = .int i ∧ P (some i) δ1 := by
  unfold gPart
  simp only [ep_bnd]
  constructor
  · intro h
    refine h.mono fun d δ' q => ?_
    cases d with
    | int b => exact ⟨b, rfl, by simpa using q⟩
    | _ => obtain ⟨_, _, e, _⟩ := q; cases e
  · intro h
    refine h.mono fun d δ' q => ?_
    obtain ⟨b, rfl, p⟩ := q
    simpa using p
@[simp] theorem ep_sl {f : M PyData} {l h : M (Option Int)} {P : AV → En → Prop} : Ep (gSl f l h) δ P ↔ Ep f δ fun x δ1 => Ep l δ1 fun lo δ2 => Ep h δ2 fun hi δ3 => ∃ z, slD x lo hi = some z ∧ P z δ3 := by unfold gSl; simp
@[simp] theorem ep_rev {f : M PyData} {P : AV → En → Prop} : Ep (gRev f) δ P ↔ Ep f δ fun x δ1 => ∃ z, revD x = some z ∧ P z δ1 := by unfold gRev; simp
@[simp] theorem pick_nil {xs : List α} : pick [] xs = [] := rfl
@[simp] theorem pick_cons {i : Nat} {pm : List Nat} {xs : List α} : pick (i :: pm) xs = match xs[i]? with | some x => x :: pick pm xs | none => pick pm xs := by
  unfold pick
  rw [List.filterMap_cons]
  cases xs[i]? <;> rfl
@[simp] theorem ep_fn {g : Fn} {na m : Nat} {pm : List Nat} {l lk : M (List PyData)} {P : AV → En → Prop} : Ep (gFn g na m pm l lk) δ P ↔ Ep l δ fun ds δ1 => Ep lk δ1 fun es δ2 => (ds.length = na ∧ es.length = m) ∧ Cp g (fzs (pick pm (ds ++ es))) fun r o => o = [] ∧ P r δ2 := by
  unfold gFn
  simp only [ep_bnd, ep_opt]
  constructor <;> intro h <;> refine h.mono fun ds δ1 q => q.mono fun es δ2 q => ?_
  · obtain ⟨a, e, p⟩ := q
    split at e
    · next hl =>
      split at e
      · next r hg => cases e; exact ⟨hl, _, _, hg, rfl, p⟩
      · cases e
    · cases e
  · obtain ⟨hl, r, o, hg, rfl, p⟩ := q
    exact ⟨r, by rw [if_pos hl, hg], p⟩
@[simp] theorem ep_fnP {g : Fn} {i na : Nat} {l : M (List PyData)} {P : AV → En → Prop} : Ep (gFnP g i na l) δ P ↔ (∃ xs, δ[i]? = some (some (.ow xs))) ∧ Ep l δ fun ds δ1 => ∃ xs, δ1[i]? = some (some (.ow xs)) ∧ ds.length = na ∧ Cp g (.ow xs :: fzs ds) fun r o => ∃ po, o = [po] ∧ P r (δ1.set i (some po)) := by
  unfold Ep Cp gFnP
  constructor
  · rintro ⟨a, d, e, p⟩
    split at e
    · next h0 =>
      split at e
      · next ds δ1 h1 =>
        split at e
        · next xs h2 =>
          split at e
          · next hl =>
            split at e
            · next r po hg => cases e; exact ⟨⟨_, h0⟩, _, _, h1, _, h2, hl, _, _, hg, _, rfl, p⟩
            · cases e
          · cases e
        · cases e
      · cases e
    · cases e
  · rintro ⟨⟨xs0, h0⟩, ds, δ1, h1, xs, h2, hl, r, o, hg, po, rfl, p⟩
    exact ⟨r, _, by simp only [h0, h1, h2, hl, hg, if_pos], p⟩
@[simp] theorem ep_fnT {g : Fn} {na : Nat} {f0 : M AV} {l : M (List PyData)} {P : AV → En → Prop} : Ep (gFnT g na f0 l) δ P ↔ Ep f0 δ fun a δ1 => Ep l δ1 fun ds δ2 => ds.length = na ∧ Cp g (a :: fzs ds) fun r o => (∃ po, o = [po]) ∧ P r δ2 := by
  unfold Ep Cp gFnT
  constructor
  · rintro ⟨a, d, e, p⟩
    split at e
    · next h0 =>
      split at e
      · next ds δ1 h1 =>
        split at e
        · next hl =>
          split at e
          · next r po hg => cases e; exact ⟨_, _, h0, _, _, h1, hl, _, _, hg, ⟨_, rfl⟩, p⟩
          · cases e
        · cases e
      · cases e
    · cases e
  · rintro ⟨a, δ1, h0, ds, δ2, h1, hl, r, o, hg, ⟨po, rfl⟩, p⟩
    exact ⟨r, _, by simp only [h0, h1, hl, hg, if_pos], p⟩
@[simp] theorem ep_fnS {g : Fn} {i na : Nat} {l : M (List PyData)} {P : AV → En → Prop} : Ep (gFnS g i na l) δ P ↔ ∃ ns, δ[i]? = some (some (.sc ns)) ∧ Ep l δ fun ds δ1 => ds.length = na ∧ Cp g (.sc ns :: fzs ds) fun r o => o = [] ∧ P r δ1 := by
  unfold Ep Cp gFnS
  constructor
  · rintro ⟨a, d, e, p⟩
    split at e
    · next ns h0 =>
      split at e
      · next ds δ1 h1 =>
        split at e
        · next hl =>
          split at e
          · next r hg => cases e; exact ⟨_, h0, _, _, h1, hl, _, _, hg, rfl, p⟩
          · cases e
        · cases e
      · cases e
    · cases e
  · rintro ⟨ns, h0, ds, δ1, h1, hl, r, o, hg, rfl, p⟩
    exact ⟨r, _, by simp only [h0, h1, hl, hg, if_pos], p⟩
@[simp] theorem ep_appT {f g : M AV} {P : AV → En → Prop} : Ep (gAppT f g) δ P ↔ Ep f δ fun a δ1 => ∃ xs, a = .ow xs ∧ Ep g δ1 fun _ δ2 => xs.length < lim ∧ P (.fz .none) δ2 := by
  unfold Ep gAppT
  constructor
  · rintro ⟨a, d, e, p⟩
    split at e
    · next xs δ1 h0 =>
      split at e
      · next b δ2 h1 =>
        split at e
        · next hl => cases e; exact ⟨_, _, h0, _, rfl, _, _, h1, hl, p⟩
        · cases e
      · cases e
    · cases e
  · rintro ⟨a, δ1, h0, xs, rfl, b, δ2, h1, hl, p⟩
    exact ⟨_, _, by simp only [h0, h1, hl, if_pos], p⟩
/-! ### statements -/
def thenS (g : Sm) (P : Fl → Prop) : Fl → Prop
  | .nx δ => Sp g δ P
  | r => P r
@[simp] theorem thenS_nx {g : Sm} {P : Fl → Prop} {δ : En} : thenS g P (.nx δ) ↔ Sp g δ P := Iff.rfl
@[simp] theorem thenS_rt {g : Sm} {P : Fl → Prop} {a : AV} {δ : En} : thenS g P (.rt a δ) ↔ P (.rt a δ) := Iff.rfl
@[simp] theorem thenS_bk {g : Sm} {P : Fl → Prop} {δ : En} : thenS g P (.bk δ) ↔ P (.bk δ) := Iff.rfl
@[simp] theorem thenS_ct {g : Sm} {P : Fl → Prop} {δ : En} : thenS g P (.ct δ) ↔ P (.ct δ) := Iff.rfl
variable {Q : Fl → Prop}
@[simp] theorem sp_nil : Sp Pv.gNil δ Q ↔ Q (.nx δ) := by
  unfold Sp Pv.gNil
  constructor
  · rintro ⟨r, e, p⟩; cases e; exact p
  · exact fun p => ⟨_, rfl, p⟩
@[simp] theorem sp_seq {f g : Sm} : Sp (gSeq f g) δ Q ↔ Sp f δ (thenS g Q) := by
  unfold Sp gSeq
  constructor
  · rintro ⟨r, e, p⟩
    split at e
    · next δ1 h => exact ⟨_, h, r, e, p⟩
    · next h =>
      refine ⟨r, e, ?_⟩
      cases r with
      | nx d => exact absurd e (h d)
      | _ => exact p
  · rintro ⟨r, e, p⟩
    cases r with
    | nx d => obtain ⟨r, e2, p⟩ := p; exact ⟨r, by rw [e]; exact e2, p⟩
    | rt a d => exact ⟨_, by rw [e], p⟩
    | bk d => exact ⟨_, by rw [e], p⟩
    | ct d => exact ⟨_, by rw [e], p⟩
@[simp] theorem sp_ret {f : M AV} : Sp (gRet f) δ Q ↔ Ep f δ fun a δ' => Q (.rt a δ') := by
  unfold Sp gRet Ep
  constructor
  · rintro ⟨r, e, p⟩
    split at e
    · next a d h => cases e; exact ⟨_, _, h, p⟩
    · cases e
  · rintro ⟨a, d, h, p⟩
    exact ⟨_, by rw [h], p⟩
@[simp] theorem sp_retN : Sp gRetN δ Q ↔ Q (.rt (.fz .none) δ) := by
  unfold Sp gRetN
  constructor
  · rintro ⟨r, e, p⟩; cases e; exact p
  · exact fun p => ⟨_, rfl, p⟩
@[simp] theorem sp_brk : Sp gBrk δ Q ↔ Q (.bk δ) := by
  unfold Sp gBrk
  constructor
  · rintro ⟨r, e, p⟩; cases e; exact p
  · exact fun p => ⟨_, rfl, p⟩
@[simp] theorem sp_cnt : Sp gCnt δ Q ↔ Q (.ct δ) := by
  unfold Sp gCnt
  constructor
  · rintro ⟨r, e, p⟩; cases e; exact p
  · exact fun p => ⟨_, rfl, p⟩
@[simp] theorem sp_nev : Sp gNev δ Q ↔ False := by
  unfold Sp gNev
  constructor
  · rintro ⟨r, e, p⟩; cases e
  · exact fun p => p.elim
@[simp] theorem sp_drop {f : M AV} : Sp (gDrop f) δ Q ↔ Ep f δ fun _ δ' => Q (.nx δ') := by
  unfold Sp gDrop Ep
  constructor
  · rintro ⟨r, e, p⟩
    split at e
    · next a d h => cases e; exact ⟨_, _, h, p⟩
    · cases e
  · rintro ⟨a, d, h, p⟩
    exact ⟨_, by rw [h], p⟩
@[simp] theorem sp_if {c : M Bool} {f g : Sm} : Sp (gIfS c f g) δ Q ↔ Ep c δ fun b δ' => (b = true → Sp f δ' Q) ∧ (b = false → Sp g δ' Q) := by
  constructor
  · rintro ⟨r, e, p⟩
    unfold gIfS at e
    split at e
    · next b d h =>
      refine ⟨b, d, h, fun hb => ?_, fun hb => ?_⟩
      · subst hb; exact ⟨r, by simpa using e, p⟩
      · subst hb; exact ⟨r, by simpa using e, p⟩
    · cases e
  · rintro ⟨b, d, h, h1, h2⟩
    cases b with
    | true => obtain ⟨r, e, p⟩ := h1 rfl; exact ⟨r, by unfold gIfS; simp only [h]; simpa using e, p⟩
    | false => obtain ⟨r, e, p⟩ := h2 rfl; exact ⟨r, by unfold gIfS; simp only [h]; simpa using e, p⟩
@[simp] theorem sp_set {i : Nat} {f : M AV} : Sp (gSet i f) δ Q ↔ Ep f δ fun a δ' => Q (.nx (δ'.set i (some a))) := by
  unfold Sp gSet Ep
  constructor
  · rintro ⟨r, e, p⟩
    split at e
    · next a d h => cases e; exact ⟨_, _, h, p⟩
    · cases e
  · rintro ⟨a, d, h, p⟩
    exact ⟨_, by rw [h], p⟩
@[simp] theorem sp_par {is : List Nat} {f : M (List AV)} : Sp (gParL is f) δ Q ↔ Ep f δ fun as δ' => as.length = is.length ∧ Q (.nx (setL is as δ')) := by
  unfold Sp gParL Ep
  constructor
  · rintro ⟨r, e, p⟩
    split at e
    · next a d h =>
      split at e
      · next hl => cases e; exact ⟨_, _, h, hl, p⟩
      · cases e
    · cases e
  · rintro ⟨a, d, h, hl, p⟩
    exact ⟨_, by simp only [h, hl, if_pos], p⟩
@[simp] theorem sp_app {i : Nat} {f : M AV} : Sp (gApp i f) δ Q ↔ (∃ xs, δ[i]? = some (some (.ow xs))) ∧ Ep f δ fun a δ1 => ∃ xs, δ1[i]? = some (some (.ow xs)) ∧ xs.length < lim ∧ Q (.nx (δ1.set i (some (.ow (xs ++ [a]))))) := by
  unfold Sp gApp Ep
  constructor
  · rintro ⟨r, e, p⟩
    split at e
    · next h0 =>
      split at e
      · next a d h =>
        split at e
        · next xs h2 =>
          split at e
          · next hl => cases e; exact ⟨⟨_, h0⟩, _, _, h, _, h2, hl, p⟩
          · cases e
        · cases e
      · cases e
    · cases e
  · rintro ⟨⟨_, h0⟩, a, d, h, xs, h2, hl, p⟩
    exact ⟨_, by simp only [h0, h, h2, hl, if_pos], p⟩
@[simp] theorem sp_unp {tgt : Tg} {f : M PyData} : Sp (gUnp tgt f) δ Q ↔ Ep f δ fun d δ1 => ∃ δ2, tgt d δ1 = some δ2 ∧ Q (.nx δ2) := by
  unfold Sp gUnp Ep
  constructor
  · rintro ⟨r, e, p⟩
    split at e
    · next a d h =>
      split at e
      · next δ2 h2 => cases e; exact ⟨_, _, h, _, h2, p⟩
      · cases e
    · cases e
  · rintro ⟨a, d, h, δ2, h2, p⟩
    exact ⟨_, by simp only [h, h2], p⟩
@[simp] theorem sp_putIx {i : Nat} {fi : M PyData} {fv : M AV} : Sp (gPutIx i fi fv) δ Q ↔ Ep fv δ fun a δ1 => (∃ xs, δ1[i]? = some (some (.ow xs))) ∧ Ep fi δ1 fun d δ2 => ∃ n, d = .int n ∧ ∃ xs, δ2[i]? = some (some (.ow xs)) ∧ ∃ m, ixN xs.length n = some m ∧ Q (.nx (δ2.set i (some (.ow (xs.set m a))))) := by
  unfold Sp gPutIx Ep
  constructor
  · rintro ⟨r, e, p⟩
    split at e
    · next a d h =>
      split at e
      · next h0 =>
        split at e
        · next n δ2 h2 =>
          split at e
          · next xs h3 =>
            split at e
            · next m h4 => cases e; exact ⟨_, _, h, ⟨_, h0⟩, _, _, h2, _, rfl, _, h3, _, h4, p⟩
            · cases e
          · cases e
        · cases e
      · cases e
    · cases e
  · rintro ⟨a, d, h, ⟨_, h0⟩, dd, δ2, h2, n, rfl, xs, h3, m, h4, p⟩
    exact ⟨_, by simp only [h, h0, h2, h3, h4], p⟩
@[simp] theorem sp_unpIx {i j : Nat} {fi f : M PyData} : Sp (gUnpIx i fi j f) δ Q ↔ Ep f δ fun d δ1 => ∃ d1 d2, d = .tuple [d1, d2] ∧ (∃ xs, δ1[i]? = some (some (.ow xs))) ∧ Ep fi δ1 fun d δ2 => ∃ n, d = .int n ∧ ∃ xs, δ2[i]? = some (some (.ow xs)) ∧ ∃ m, ixN xs.length n = some m ∧
    Q (.nx ((δ2.set i (some (.ow (xs.set m (.fz d1))))).set j (some (.fz d2)))) := by
  unfold Sp gUnpIx Ep
  constructor
  · rintro ⟨r, e, p⟩
    split at e
    · next d1 d2 δ1 h =>
      split at e
      · next h0 =>
        split at e
        · next n δ2 h2 =>
          split at e
          · next xs h3 =>
            split at e
            · next m h4 => cases e; exact ⟨_, _, h, _, _, rfl, ⟨_, h0⟩, _, _, h2, _, rfl, _, h3, _, h4, p⟩
            · cases e
          · cases e
        · cases e
      · cases e
    · cases e
  · rintro ⟨a, d, h, d1, d2, rfl, ⟨_, h0⟩, dd, δ2, h2, n, rfl, xs, h3, m, h4, p⟩
    exact ⟨_, by simp only [h, h0, h2, h3, h4], p⟩
/-! ### defs -/
theorem cp_def {m n : Nat} {io : Bool} {b : Sm} {as : List AV} {P : AV → List AV → Prop} : Cp (defF m n io b) as P ↔ as.length = n ∧ Sp b (as.map some ++ List.replicate (m - n) none) fun r => match r with
    | .rt a δ => ∃ o, outsOf io δ = some o ∧ P a o
    | .nx δ => ∃ o, outsOf io δ = some o ∧ P (.fz .none) o
    | _ => False := by
  unfold Cp defF Sp
  constructor
  · rintro ⟨r, o, e, p⟩
    split at e
    · next hl =>
      refine ⟨hl, ?_⟩
      split at e
      · next a δ h =>
        cases h2 : outsOf io δ with
        | none => rw [h2] at e; cases e
        | some o2 => rw [h2] at e; cases e; exact ⟨_, h, _, h2, p⟩
      · next δ h =>
        cases h2 : outsOf io δ with
        | none => rw [h2] at e; cases e
        | some o2 => rw [h2] at e; cases e; exact ⟨_, h, _, h2, p⟩
      · cases e
    · cases e
  · rintro ⟨hl, r, h, p⟩
    rw [if_pos hl]
    cases r with
    | rt a δ => obtain ⟨o, h2, p⟩ := p; exact ⟨a, o, by rw [h]; show (outsOf io δ).map _ = _; rw [h2]; rfl, p⟩
    | nx δ => obtain ⟨o, h2, p⟩ := p; exact ⟨_, o, by rw [h]; show (outsOf io δ).map _ = _; rw [h2]; rfl, p⟩
    | bk _ => exact p.elim
    | ct _ => exact p.elim
/-! ### loops -/
theorem sp_for {src : M (List PyData)} {tgt : Tg} {body : Sm} (Inv : List PyData → En → Prop)
    (h : Ep src δ fun items δ1 => Inv items δ1 ∧ (∀ x xs δ, Inv (x :: xs) δ → ∃ δ1, tgt x δ = some δ1 ∧ Sp body δ1 fun r => match r with
      | .nx δ2 => Inv xs δ2
      | .ct δ2 => Inv xs δ2
      | .bk δ2 => Q (.nx δ2)
      | .rt a δ2 => Q (.rt a δ2)) ∧ ∀ δ, Inv [] δ → Q (.nx δ)) : Sp (gFor src tgt body) δ Q := by
  obtain ⟨items, δ1, e, hi, hs, hq⟩ := h
  have go : ∀ (items : List PyData) (δ : En), Inv items δ → ∃ r, forL tgt body items δ = some r ∧ Q r := by
    intro items
    induction items with
    | nil => exact fun δ h => ⟨_, rfl, hq δ h⟩
    | cons x xs ih =>
      intro δ h
      obtain ⟨δ1, e1, r, e2, p⟩ := hs x xs δ h
      unfold forL
      simp only [e1, e2]
      cases r with
      | nx d => exact ih d p
      | ct d => exact ih d p
      | bk d => exact ⟨_, rfl, p⟩
      | rt a d => exact ⟨_, rfl, p⟩
  obtain ⟨r, h1, h2⟩ := go items δ1 hi
  exact ⟨r, by unfold gFor; simp only [e]; exact h1, h2⟩
theorem sp_whl {μ : En → Nat} {c : M Bool} {body : Sm} (Inv : Nat → En → Prop)
    (h0 : Inv (μ δ) δ) (hs : ∀ n δ, Inv n δ → ∃ k, n = k + 1 ∧ Ep c δ fun b δ1 => (b = true → Sp body δ1 fun r => match r with
      | .nx δ2 => Inv k δ2
      | .ct δ2 => Inv k δ2
      | .bk δ2 => Q (.nx δ2)
      | .rt a δ2 => Q (.rt a δ2)) ∧ (b = false → Q (.nx δ1))) : Sp (gWhl μ c body) δ Q := by
  have go : ∀ (n : Nat) (δ : En), Inv n δ → ∃ r, whl c body n δ = some r ∧ Q r := by
    intro n
    induction n with
    | zero => intro δ h; obtain ⟨k, e, _⟩ := hs 0 δ h; cases e
    | succ n ih =>
      intro δ h
      obtain ⟨k, e, b, δ1, e1, p1, p2⟩ := hs (n + 1) δ h
      cases e
      unfold whl
      cases b with
      | false => simp only [e1]; exact ⟨_, rfl, p2 rfl⟩
      | true =>
        obtain ⟨r, e2, p⟩ := p1 rfl
        simp only [e1, e2]
        cases r with
        | nx d => exact ih d p
        | ct d => exact ih d p
        | bk d => exact ⟨_, rfl, p⟩
        | rt a d => exact ⟨_, rfl, p⟩
  exact go _ δ h0
theorem ep_lc {own : List Nat} {src : M (List PyData)} {tgt : Tg} {tt : M Bool} {el : M AV} {P : AV → En → Prop} (Inv : List PyData → List AV → En → Prop)
    (h : Ep src δ fun items δ1 => (items.length ≤ lim ∧ own.all (frzAt δ1) = true) ∧ Inv items [] (wipeE δ1 own) ∧ (∀ x xs acc δ, Inv (x :: xs) acc δ → ∃ δ1, tgt x δ = some δ1 ∧ Ep tt δ1 fun b δ2 =>
      (b = true → Ep el δ2 fun a δ3 => Inv xs (acc ++ [a]) (wipeE δ3 own)) ∧ (b = false → Inv xs acc (wipeE δ2 own))) ∧ ∀ acc δ2, Inv [] acc δ2 → P (.ow acc) (bring δ1 own δ2)) : Ep (gLc own src tgt tt el) δ P := by
  obtain ⟨items, δ1, e, hl, hi, hs, hq⟩ := h
  have go : ∀ (items : List PyData) (acc : List AV) (δ : En), Inv items acc δ → ∃ acc2 δ2, lcL own tgt tt el items acc δ = some (acc2, δ2) ∧ P (.ow acc2) (bring δ1 own δ2) := by
    intro items
    induction items with
    | nil => exact fun acc δ h => ⟨_, _, rfl, hq acc δ h⟩
    | cons x xs ih =>
      intro acc δ h
      obtain ⟨δ3, e1, b, δ4, e2, p1, p2⟩ := hs x xs acc δ h
      unfold lcL
      cases b with
      | false => simp only [e1, e2]; exact ih _ _ (p2 rfl)
      | true =>
        obtain ⟨a, δ5, e3, p⟩ := p1 rfl
        simp only [e1, e2, e3]
        exact ih _ _ p
  obtain ⟨acc2, δ2, h1, h2⟩ := go items [] _ hi
  exact ⟨.ow acc2, bring δ1 own δ2, by unfold gLc; simp only [e, if_pos hl, h1], h2⟩
end
end Pv

namespace Pv
open PySem PySem.Spec L2
open PyProof.Rows hiding St
/-! PvS: the pure parts, step by step -/
def AvD (a : AV) (d : PyData) : Prop := a.dat = true ∧ a.d = d
theorem avd_fz {d : PyData} : AvD (.fz d) d := ⟨rfl, rfl⟩
theorem dats_fzs : ∀ {ds : List PyData}, AV.dats (fzs ds) = true
  | [] => rfl
  | d :: ds => by show (true && AV.dats (fzs ds)) = true; rw [dats_fzs]; rfl
theorem ds_fzs : ∀ {ds : List PyData}, AV.ds (fzs ds) = ds
  | [] => rfl
  | d :: ds => by show d :: AV.ds (fzs ds) = _; rw [ds_fzs]
theorem avd_ow {ds : List PyData} : AvD (.ow (fzs ds)) (.list ds) := ⟨dats_fzs, by show PyData.list _ = _; rw [ds_fzs]⟩
theorem avd_ow0 : AvD (.ow []) (.list []) := ⟨rfl, rfl⟩
theorem kk {α : Type} {p q : α → Prop} {d : α} (h : p d) (r : q d) : ∃ d, p d ∧ q d := ⟨d, h, r⟩
theorem br_t {b : Bool} {A B : Prop} (h : b = true) (a : A) : (b = true → A) ∧ (b = false → B) := ⟨fun _ => a, fun e => by rw [h] at e; cases e⟩
theorem br_f {b : Bool} {A B : Prop} (h : b = false) (a : B) : (b = true → A) ∧ (b = false → B) := ⟨fun e => (by rw [h] at e; cases e), fun _ => a⟩
section
variable {α β : Type} {δ δ' : En} {f : M α} {P : α → En → Prop} {i : Nat} {a : AV} {d : PyData}
theorem e_ret {a : α} (p : P a δ) : Ep (Pv.ret a) δ P := ep_ret.mpr p
theorem e_dOf {f : M AV} {P : PyData → En → Prop} (h : Ep f δ fun a δ' => ∃ d, AvD a d ∧ P d δ') : Ep (dOf f) δ P := ep_dOf.mpr (h.mono fun a δ' ⟨d, h, p⟩ => ⟨h.1, by rw [h.2]; exact p⟩)
theorem e_aOf {f : M PyData} {P : AV → En → Prop} (h : Ep f δ fun d δ' => P (.fz d) δ') : Ep (aOf f) δ P := ep_aOf.mpr h
theorem e_var {P : PyData → En → Prop} (h : δ[i]? = some (some (.fz d))) (p : P d δ) : Ep (gVar i) δ P := ep_gVar.mpr ⟨_, h, rfl, by rw [show (AV.fz d).d = d from rfl, set_same h]; exact p⟩
theorem e_varO {P : PyData → En → Prop} (h : δ[i]? = some (some a)) (hd : AvD a d) (p : P d (δ.set i (some (.fz d)))) : Ep (gVar i) δ P := ep_gVar.mpr ⟨_, h, hd.1, by rw [hd.2]; exact p⟩
theorem e_mv {P : AV → En → Prop} (h : δ[i]? = some (some a)) (p : P a (δ.set i none)) : Ep (mVar i) δ P := ep_mVar.mpr ⟨_, h, p⟩
theorem e_len {P : PyData → En → Prop} (h : δ[i]? = some (some a)) (hl : lenV a = some d) (p : P d δ) : Ep (gLenV i) δ P := ep_lenV.mpr ⟨_, h, _, hl, p⟩
theorem e_ix {f : M PyData} {P : PyData → En → Prop} {a0 : AV} (h : δ[i]? = some (some a0)) (hf : Ep f δ fun d δ1 => ∃ a, δ1[i]? = some (some a) ∧ ∃ z, ixV a d = some z ∧ P z δ1) : Ep (gIxV i f) δ P := ep_ixV.mpr ⟨⟨_, h⟩, hf⟩
theorem e_tB {f : M PyData} {P : Bool → En → Prop} (h : Ep f δ fun d δ' => ∃ b, d = .bool b ∧ P b δ') : Ep (tB f) δ P := ep_tB.mpr h
theorem e_and {f g : M Bool} {P : Bool → En → Prop} (h : Ep f δ fun b δ' => (b = true → Ep g δ' P) ∧ (b = false → P false δ')) : Ep (gAnd f g) δ P := ep_and.mpr h
theorem e_or {f g : M Bool} {P : Bool → En → Prop} (h : Ep f δ fun b δ' => (b = true → P true δ') ∧ (b = false → Ep g δ' P)) : Ep (gOr f g) δ P := ep_or.mpr h
theorem e_not {f : M Bool} {P : Bool → En → Prop} (h : Ep f δ fun b δ' => P (!b) δ') : Ep (gNot f) δ P := ep_not.mpr h
theorem e_if {c : M Bool} {f g : M α} (h : Ep c δ fun b δ' => (b = true → Ep f δ' P) ∧ (b = false → Ep g δ' P)) : Ep (gIf c f g) δ P := ep_if.mpr h
theorem e_andV {f g : M PyData} {P : PyData → En → Prop} (h : Ep f δ fun d δ' => ∃ b, d = .bool b ∧ (b = true → Ep g δ' P) ∧ (b = false → P (.bool false) δ')) : Ep (gAndV f g) δ P := ep_andV.mpr h
theorem e_orV {f g : M PyData} {P : PyData → En → Prop} (h : Ep f δ fun d δ' => ∃ b, d = .bool b ∧ (b = true → P (.bool true) δ') ∧ (b = false → Ep g δ' P)) : Ep (gOrV f g) δ P := ep_orV.mpr h
theorem e_notV {f : M PyData} {P : PyData → En → Prop} (h : Ep f δ fun d δ' => ∃ b, d = .bool b ∧ P (.bool (!b)) δ') : Ep (gNotV f) δ P := ep_notV.mpr h
theorem e_cmp {op : PyData → PyData → Option Bool} {f g : M PyData} {P : Bool → En → Prop} (h : Ep f δ fun x δ1 => Ep g δ1 fun y δ2 => ∃ b, op x y = some b ∧ P b δ2) : Ep (gCmp op f g) δ P := ep_cmp.mpr h
theorem e_bl {f : M Bool} {P : PyData → En → Prop} (h : Ep f δ fun b δ' => P (.bool b) δ') : Ep (gBl f) δ P := ep_bl.mpr h
theorem e_chn {op op' : PyData → PyData → Option Bool} {f g h : M PyData} {P : Bool → En → Prop} (q : Ep f δ fun x δ1 => Ep g δ1 fun y δ2 => ∃ b, op x y = some b ∧ (b = true → Ep h δ2 fun z δ3 => ∃ b', op' y z = some b' ∧ P b' δ3) ∧ (b = false → P false δ2)) : Ep (gChn op op' f g h) δ P := ep_chn.mpr q
theorem e_bin {op : PyData → PyData → Option AV} {f g : M PyData} {P : AV → En → Prop} (h : Ep f δ fun x δ1 => Ep g δ1 fun y δ2 => ∃ z, op x y = some z ∧ P z δ2) : Ep (gBin op f g) δ P := ep_bin.mpr h
theorem e_neg {f : M PyData} {P : PyData → En → Prop} (h : Ep f δ fun x δ1 => ∃ z, negD x = some z ∧ P z δ1) : Ep (gNeg f) δ P := ep_neg.mpr h
theorem e_isi {T : Ty} {f : M PyData} {P : PyData → En → Prop} (h : Ep f δ fun x δ1 => P (.bool (T.is x)) δ1) : Ep (gIsi T f) δ P := ep_isi.mpr h
theorem e_isi2 {T U : Ty} {f : M PyData} {P : PyData → En → Prop} (h : Ep f δ fun x δ1 => P (.bool (T.is x || U.is x)) δ1) : Ep (gIsi2 T U f) δ P := ep_isi2.mpr h
theorem e_lcons {f : M PyData} {g : M (List PyData)} {P : List PyData → En → Prop} (h : Ep f δ fun x δ1 => Ep g δ1 fun r δ2 => P (x :: r) δ2) : Ep (lcons f g) δ P := ep_lcons.mpr h
theorem e_acons {f : M AV} {g : M (List AV)} {P : List AV → En → Prop} (h : Ep f δ fun x δ1 => Ep g δ1 fun r δ2 => P (x :: r) δ2) : Ep (acons f g) δ P := ep_acons.mpr h
theorem e_call {op : List PyData → Option AV} {g : M (List PyData)} {P : AV → En → Prop} (h : Ep g δ fun x δ1 => ∃ z, op x = some z ∧ P z δ1) : Ep (gCall op g) δ P := ep_call.mpr h
theorem e_tup {g : M (List PyData)} {P : PyData → En → Prop} (h : Ep g δ fun x δ1 => x.length ≤ lim ∧ P (.tuple x) δ1) : Ep (gTupE g) δ P := ep_tup.mpr h
theorem e_lst {g : M (List PyData)} {P : AV → En → Prop} (h : Ep g δ fun x δ1 => x.length ≤ lim ∧ P (.ow (fzs x)) δ1) : Ep (gLstE g) δ P := ep_lst.mpr h
theorem e_seqI {f : M PyData} {P : List PyData → En → Prop} (h : Ep f δ fun x δ1 => ∃ z, seqD x = some z ∧ P z δ1) : Ep (gSeqI f) δ P := ep_seqI.mpr h
theorem e_rng1 {f : M PyData} {P : List PyData → En → Prop} (h : Ep f δ fun x δ1 => ∃ z, rng1 x = some z ∧ P z δ1) : Ep (gRng1 f) δ P := ep_rng1.mpr h
theorem e_rng2 {f g : M PyData} {P : List PyData → En → Prop} (h : Ep f δ fun x δ1 => Ep g δ1 fun y δ2 => ∃ z, rng2 x y = some z ∧ P z δ2) : Ep (gRng2 f g) δ P := ep_rng2.mpr h
theorem e_part {f : M PyData} {P : Option Int → En → Prop} (h : Ep f δ fun x δ1 => ∃ i, x = .int i ∧ P (some i) δ1) : Ep (gPart f) δ P := ep_part.mpr h
theorem e_sl {f : M PyData} {l h : M (Option Int)} {P : AV → En → Prop} (q : Ep f δ fun x δ1 => Ep l δ1 fun lo δ2 => Ep h δ2 fun hi δ3 => ∃ z, slD x lo hi = some z ∧ P z δ3) : Ep (gSl f l h) δ P := ep_sl.mpr q
theorem e_rev {f : M PyData} {P : AV → En → Prop} (h : Ep f δ fun x δ1 => ∃ z, revD x = some z ∧ P z δ1) : Ep (gRev f) δ P := ep_rev.mpr h
theorem e_zip {f g : M PyData} {P : List PyData → En → Prop} (h : Ep f δ fun x δ1 => Ep g δ1 fun y δ2 => ∃ xs, seqD x = some xs ∧ ∃ ys, seqD y = some ys ∧ P (zipD xs ys) δ2) : Ep (gZip f g) δ P :=
  ep_zip.mpr (h.mono fun x δ1 q => q.mono fun y δ2 ⟨xs, h1, ys, h2, p⟩ => ⟨xs, ys, h1, h2, p⟩)
theorem e_fn {g : Fn} {na m : Nat} {pm : List Nat} {l lk : M (List PyData)} {P : AV → En → Prop} (h : Ep l δ fun ds δ1 => Ep lk δ1 fun es δ2 => (ds.length = na ∧ es.length = m) ∧ Cp g (fzs (pick pm (ds ++ es))) fun r o => o = [] ∧ P r δ2) : Ep (gFn g na m pm l lk) δ P := ep_fn.mpr h
theorem e_fnP {g : Fn} {na : Nat} {l : M (List PyData)} {P : AV → En → Prop} {xs0 : List AV} (h0 : δ[i]? = some (some (.ow xs0))) (h : Ep l δ fun ds δ1 => ∃ xs, δ1[i]? = some (some (.ow xs)) ∧ ds.length = na ∧ Cp g (.ow xs :: fzs ds) fun r o => ∃ po, o = [po] ∧ P r (δ1.set i (some po))) : Ep (gFnP g i na l) δ P := ep_fnP.mpr ⟨⟨_, h0⟩, h⟩
theorem e_fnT {g : Fn} {na : Nat} {f0 : M AV} {l : M (List PyData)} {P : AV → En → Prop} (h : Ep f0 δ fun a δ1 => Ep l δ1 fun ds δ2 => ds.length = na ∧ Cp g (a :: fzs ds) fun r o => (∃ po, o = [po]) ∧ P r δ2) : Ep (gFnT g na f0 l) δ P := ep_fnT.mpr h
theorem e_fnS {g : Fn} {na : Nat} {l : M (List PyData)} {P : AV → En → Prop} {ns : List Int} (h0 : δ[i]? = some (some (.sc ns))) (h : Ep l δ fun ds δ1 => ds.length = na ∧ Cp g (.sc ns :: fzs ds) fun r o => o = [] ∧ P r δ1) : Ep (gFnS g i na l) δ P := ep_fnS.mpr ⟨_, h0, h⟩
theorem e_appT {f g : M AV} {P : AV → En → Prop} (h : Ep f δ fun a δ1 => ∃ xs, a = .ow xs ∧ Ep g δ1 fun _ δ2 => xs.length < lim ∧ P (.fz .none) δ2) : Ep (gAppT f g) δ P := ep_appT.mpr h
variable {Q : Fl → Prop}
theorem t_nx {g : Sm} (h : Sp g δ Q) : thenS g Q (.nx δ) := h
theorem t_rt {g : Sm} (h : Q (.rt a δ)) : thenS g Q (.rt a δ) := h
theorem t_bk {g : Sm} (h : Q (.bk δ)) : thenS g Q (.bk δ) := h
theorem t_ct {g : Sm} (h : Q (.ct δ)) : thenS g Q (.ct δ) := h
theorem u_nil (h : Q (.nx δ)) : Sp Pv.gNil δ Q := sp_nil.mpr h
theorem u_seq {f g : Sm} (h : Sp f δ (thenS g Q)) : Sp (gSeq f g) δ Q := sp_seq.mpr h
theorem u_ret {f : M AV} (h : Ep f δ fun a δ' => Q (.rt a δ')) : Sp (gRet f) δ Q := sp_ret.mpr h
theorem u_retN (h : Q (.rt (.fz .none) δ)) : Sp gRetN δ Q := sp_retN.mpr h
theorem u_brk (h : Q (.bk δ)) : Sp gBrk δ Q := sp_brk.mpr h
theorem u_cnt (h : Q (.ct δ)) : Sp gCnt δ Q := sp_cnt.mpr h
theorem u_drop {f : M AV} (h : Ep f δ fun _ δ' => Q (.nx δ')) : Sp (gDrop f) δ Q := sp_drop.mpr h
theorem u_if {c : M Bool} {f g : Sm} (h : Ep c δ fun b δ' => (b = true → Sp f δ' Q) ∧ (b = false → Sp g δ' Q)) : Sp (gIfS c f g) δ Q := sp_if.mpr h
theorem u_set {f : M AV} (h : Ep f δ fun a δ' => Q (.nx (δ'.set i (some a)))) : Sp (gSet i f) δ Q := sp_set.mpr h
theorem u_par {is : List Nat} {f : M (List AV)} (h : Ep f δ fun as δ' => as.length = is.length ∧ Q (.nx (setL is as δ'))) : Sp (gParL is f) δ Q := sp_par.mpr h
theorem u_app {f : M AV} {xs0 : List AV} (h0 : δ[i]? = some (some (.ow xs0))) (h : Ep f δ fun a δ1 => ∃ xs, δ1[i]? = some (some (.ow xs)) ∧ xs.length < lim ∧ Q (.nx (δ1.set i (some (.ow (xs ++ [a])))))) : Sp (gApp i f) δ Q := sp_app.mpr ⟨⟨_, h0⟩, h⟩
theorem u_unp {tgt : Tg} {f : M PyData} (h : Ep f δ fun d δ1 => ∃ δ2, tgt d δ1 = some δ2 ∧ Q (.nx δ2)) : Sp (gUnp tgt f) δ Q := sp_unp.mpr h
theorem u_putIx {fi : M PyData} {fv : M AV} (h : Ep fv δ fun a δ1 => ∃ xs0, δ1[i]? = some (some (.ow xs0)) ∧ Ep fi δ1 fun d δ2 => ∃ n, d = .int n ∧ ∃ xs, δ2[i]? = some (some (.ow xs)) ∧ ∃ m, ixN xs.length n = some m ∧ Q (.nx (δ2.set i (some (.ow (xs.set m a)))))) : Sp (gPutIx i fi fv) δ Q :=
  sp_putIx.mpr (h.mono fun a δ1 ⟨xs, h, p⟩ => ⟨⟨xs, h⟩, p⟩)
theorem u_unpIx {j : Nat} {fi f : M PyData} (h : Ep f δ fun d δ1 => ∃ p, d = .tuple [p.1, p.2] ∧ ∃ xs0, δ1[i]? = some (some (.ow xs0)) ∧ Ep fi δ1 fun d δ2 => ∃ n, d = .int n ∧ ∃ xs, δ2[i]? = some (some (.ow xs)) ∧ ∃ m, ixN xs.length n = some m ∧
    Q (.nx ((δ2.set i (some (.ow (xs.set m (.fz (p : PyData × PyData).1))))).set j (some (.fz p.2))))) : Sp (gUnpIx i fi j f) δ Q :=
  sp_unpIx.mpr (h.mono fun a δ1 ⟨p, e, xs, h, r⟩ => ⟨p.1, p.2, e, ⟨xs, h⟩, r⟩)
/-- the end of a def -/
def endF (io : Bool) (P : AV → List AV → Prop) : Fl → Prop
  | .rt a δ => ∃ o, outsOf io δ = some o ∧ P a o
  | .nx δ => ∃ o, outsOf io δ = some o ∧ P (.fz .none) o
  | _ => False
theorem c_def {m n : Nat} {io : Bool} {b : Sm} {as : List AV} {P : AV → List AV → Prop} (hl : as.length = n) (h : Sp b (as.map some ++ List.replicate (m - n) none) (endF io P)) : Cp (defF m n io b) as P :=
  cp_def.mpr ⟨hl, h.mono fun r q => by cases r <;> exact q⟩
theorem n_rt {io : Bool} {P : AV → List AV → Prop} {o : List AV} (h : outsOf io δ = some o) (p : P a o) : endF io P (.rt a δ) := ⟨o, h, p⟩
theorem n_nx {io : Bool} {P : AV → List AV → Prop} {o : List AV} (h : outsOf io δ = some o) (p : P (.fz .none) o) : endF io P (.nx δ) := ⟨o, h, p⟩
theorem c_of {g : Fn} {as : List AV} {r : AV} {o : List AV} (h : g as = some (r, o)) {P : AV → List AV → Prop} (p : P r o) : Cp g as P := ⟨r, o, h, p⟩
end
/-! ### operations -/
section
variable {i j : Int}
theorem q_add : addD (.int i) (.int j) = some (.fz (.int (i + j))) := rfl
theorem q_sub : subD (.int i) (.int j) = some (.fz (.int (i - j))) := rfl
theorem q_lt : ltI (.int i) (.int j) = some (decide (i < j)) := rfl
theorem q_le : leI (.int i) (.int j) = some (decide (i ≤ j)) := rfl
theorem q_gt : gtI (.int i) (.int j) = some (decide (j < i)) := rfl
theorem q_ge : geI (.int i) (.int j) = some (decide (j ≤ i)) := rfl
theorem q_eq : eqX (.int i) (.int j) = some (decide (i = j)) := by
  show eqD (.int i) (.int j) = _
  unfold eqD
  have e : PyData.eqv (.int i) (.int j) = decide (i = j) := by
    by_cases h : i = j
    · subst h; simp [PyData.eqv]
    · simp [PyData.eqv, h]
  rw [if_pos ⟨rfl, rfl⟩, e]
theorem q_ne : neX (.int i) (.int j) = some (decide (i ≠ j)) := by
  unfold neX
  rw [q_eq]
  show some (!decide (i = j)) = _
  by_cases h : i = j <;> simp [h]
theorem q_eqs {a b : Str} : eqX (.str a) (.str b) = some (decide (a = b)) := rfl
theorem q_nes {a b : Str} : neX (.str a) (.str b) = some (!decide (a = b)) := rfl
theorem natLog {n k : Nat} (h : n < 2 ^ k) (hk : 0 < k) : n.log2 < k := by
  by_cases e : n = 0
  · subst e; simpa using hk
  · exact (Nat.log2_lt e).mpr h
theorem mulI_ok (hi : i.natAbs < 2 ^ 250) (hj : j.natAbs < 2 ^ 250) : mulI i j = some (i * j) := by
  unfold mulI
  have h1 := natLog hi (by decide)
  have h2 := natLog hj (by decide)
  rw [if_pos (by omega)]
theorem q_mul (hi : i.natAbs < 2 ^ 250) (hj : j.natAbs < 2 ^ 250) : mulD (.int i) (.int j) = some (.fz (.int (i * j))) := by
  show (mulI i j).map _ = _
  rw [mulI_ok hi hj]; rfl
theorem q_div (h0 : 0 < j) (hj : j.natAbs < 2 ^ 250) : divD (.int i) (.int j) = some (.fz (.int (i / j))) := by
  show (divI i j).map _ = _
  unfold divI
  rw [if_pos ⟨h0, Nat.lt_trans (natLog hj (by decide)) (by decide)⟩]; rfl
theorem q_mod (h0 : 0 < j) : modD (.int i) (.int j) = some (.fz (.int (i % j))) := by
  show (modI i j).map _ = _
  unfold modI
  rw [if_pos h0]; rfl
theorem q_dm (h0 : 0 < j) (h : j < 1073741824) : divmodD [.int i, .int j] = some (.fz (.tuple [(PyData.int (i / j), PyData.int (i % j)).1, (PyData.int (i / j), PyData.int (i % j)).2])) := by
  exact if_pos ⟨h0, h⟩
theorem q_abs : absD [.int i] = some (.fz (.int (absI i))) := rfl
theorem q_int : intD [.int i] = some (.fz (.int i)) := rfl
theorem q_len {ds : List PyData} : lenV (.fz (.list ds)) = some (.int ds.length) := rfl
end
end Pv

namespace Pv
open PySem PySem.Spec L2
open PyProof.Rows hiding St
/-! PvM: the parts that the laws share, purely -/
@[simp] theorem ty_int_none : Ty.is .int .none = false := rfl
@[simp] theorem ty_int_bool {b : Bool} : Ty.is .int (.bool b) = true := rfl
@[simp] theorem ty_int_int {b : Int} : Ty.is .int (.int b) = true := rfl
@[simp] theorem ty_int_str {b : Str} : Ty.is .int (.str b) = false := rfl
@[simp] theorem ty_int_list {b : List PyData} : Ty.is .int (.list b) = false := rfl
@[simp] theorem ty_int_tuple {b : List PyData} : Ty.is .int (.tuple b) = false := rfl
@[simp] theorem ty_int_dict {b : List (PyData × PyData)} : Ty.is .int (.dict b) = false := rfl
@[simp] theorem ty_bool_none : Ty.is .bool .none = false := rfl
@[simp] theorem ty_bool_bool {b : Bool} : Ty.is .bool (.bool b) = true := rfl
@[simp] theorem ty_bool_int {b : Int} : Ty.is .bool (.int b) = false := rfl
@[simp] theorem ty_bool_str {b : Str} : Ty.is .bool (.str b) = false := rfl
@[simp] theorem ty_bool_list {b : List PyData} : Ty.is .bool (.list b) = false := rfl
@[simp] theorem ty_bool_tuple {b : List PyData} : Ty.is .bool (.tuple b) = false := rfl
@[simp] theorem ty_bool_dict {b : List (PyData × PyData)} : Ty.is .bool (.dict b) = false := rfl
@[simp] theorem ty_str_none : Ty.is .str .none = false := rfl
@[simp] theorem ty_str_bool {b : Bool} : Ty.is .str (.bool b) = false := rfl
@[simp] theorem ty_str_int {b : Int} : Ty.is .str (.int b) = false := rfl
@[simp] theorem ty_str_str {b : Str} : Ty.is .str (.str b) = true := rfl
@[simp] theorem ty_str_list {b : List PyData} : Ty.is .str (.list b) = false := rfl
@[simp] theorem ty_str_tuple {b : List PyData} : Ty.is .str (.tuple b) = false := rfl
@[simp] theorem ty_str_dict {b : List (PyData × PyData)} : Ty.is .str (.dict b) = false := rfl
@[simp] theorem ty_list_none : Ty.is .list .none = false := rfl
@[simp] theorem ty_list_bool {b : Bool} : Ty.is .list (.bool b) = false := rfl
@[simp] theorem ty_list_int {b : Int} : Ty.is .list (.int b) = false := rfl
@[simp] theorem ty_list_str {b : Str} : Ty.is .list (.str b) = false := rfl
@[simp] theorem ty_list_list {b : List PyData} : Ty.is .list (.list b) = true := rfl
@[simp] theorem ty_list_tuple {b : List PyData} : Ty.is .list (.tuple b) = false := rfl
@[simp] theorem ty_list_dict {b : List (PyData × PyData)} : Ty.is .list (.dict b) = false := rfl
@[simp] theorem ty_tuple_none : Ty.is .tuple .none = false := rfl
@[simp] theorem ty_tuple_bool {b : Bool} : Ty.is .tuple (.bool b) = false := rfl
@[simp] theorem ty_tuple_int {b : Int} : Ty.is .tuple (.int b) = false := rfl
@[simp] theorem ty_tuple_str {b : Str} : Ty.is .tuple (.str b) = false := rfl
@[simp] theorem ty_tuple_list {b : List PyData} : Ty.is .tuple (.list b) = false := rfl
@[simp] theorem ty_tuple_tuple {b : List PyData} : Ty.is .tuple (.tuple b) = true := rfl
@[simp] theorem ty_tuple_dict {b : List (PyData × PyData)} : Ty.is .tuple (.dict b) = false := rfl
@[simp] theorem ty_dict_none : Ty.is .dict .none = false := rfl
@[simp] theorem ty_dict_bool {b : Bool} : Ty.is .dict (.bool b) = false := rfl
@[simp] theorem ty_dict_int {b : Int} : Ty.is .dict (.int b) = false := rfl
@[simp] theorem ty_dict_str {b : Str} : Ty.is .dict (.str b) = false := rfl
@[simp] theorem ty_dict_list {b : List PyData} : Ty.is .dict (.list b) = false := rfl
@[simp] theorem ty_dict_tuple {b : List PyData} : Ty.is .dict (.tuple b) = false := rfl
@[simp] theorem ty_dict_dict {b : List (PyData × PyData)} : Ty.is .dict (.dict b) = true := rfl
@[simp] theorem cI_int {p : Int → Int → Bool} {i j : Int} {b : Bool} : Pv.cI p (.int i) (.int j) = some b ↔ p i j = b := by
  show some (p i j) = some b ↔ _
  simp
@[simp] theorem eqX_int {i j : Int} {b : Bool} : eqX (.int i) (.int j) = some b ↔ decide (i = j) = b := by
  have : eqX (.int i) (.int j) = some (decide (i = j)) := by
    show eqD (.int i) (.int j) = _
    unfold eqD
    have e : PyData.eqv (.int i) (.int j) = decide (i = j) := by
      by_cases h : i = j
      · subst h; simp [PyData.eqv]
      · simp [PyData.eqv, h]
    rw [if_pos ⟨rfl, rfl⟩, e]
  rw [this]; simp
@[simp] theorem neX_int {i j : Int} {b : Bool} : neX (.int i) (.int j) = some b ↔ decide (i ≠ j) = b := by
  unfold neX
  have : eqX (.int i) (.int j) = some (decide (i = j)) := eqX_int.mpr rfl
  rw [this]; simp
theorem q_pow {i j z : Int} (h : powI i j = some z) : powD (.int i) (.int j) = some (.fz (.int z)) := by
  show (powI i j).map (fun z => AV.fz (.int z)) = _
  rw [h]; rfl
theorem pw {i j z : Int} (h1 : 0 ≤ j ∧ j ≤ 1000000 ∧ i.natAbs < 2 ^ 64) (h2 : i ^ j.toNat = z) : powI i j = some z := by
  unfold powI
  rw [if_pos h1, h2]
theorem q_pow18 : powD (.int 10) (.int 18) = some (.fz (.int 1000000000000000000)) := q_pow (pw (by decide) (by decide))
theorem q_pow20 : powD (.int 10) (.int 20) = some (.fz (.int 100000000000000000000)) := q_pow (pw (by decide) (by decide))
theorem q_pow25 : powD (.int 10) (.int 25) = some (.fz (.int 10000000000000000000000000)) := q_pow (pw (by decide) (by decide))
local macro_rules | `(tactic| walk_at "pvq") => `(tactic| first
  | with_reducible exact q_add | with_reducible exact q_sub | with_reducible exact q_int | with_reducible exact q_abs | with_reducible exact q_lt | with_reducible exact q_le | with_reducible exact q_gt | with_reducible exact q_ge
  | with_reducible exact q_eq | with_reducible exact q_ne | with_reducible exact q_eqs | with_reducible exact q_nes | exact q_pow18 | exact q_pow20 | exact q_pow25
  | ((with_reducible refine q_mod ?_); first | assumption | omega) | ((with_reducible refine q_div ?_ ?_) <;> omega) | ((with_reducible refine q_mul ?_ ?_) <;> omega) | ((with_reducible refine q_dm ?_ ?_) <;> omega) | rfl)
local macro_rules | `(tactic| walk_at "pv") => `(tactic| first
  | with_reducible refine e_ret ?_ | with_reducible refine e_dOf ?_ | with_reducible refine e_aOf ?_ | ((with_reducible apply e_var); rfl) | ((with_reducible apply e_mv); rfl)
  | with_reducible refine e_lcons ?_ | with_reducible refine e_acons ?_ | with_reducible refine e_bin ?_ | with_reducible refine e_cmp ?_ | with_reducible refine e_call ?_
  | (with_reducible refine kk avd_fz ?_) | (with_reducible refine kk avd_ow ?_) | (with_reducible refine kk avd_ow0 ?_) | ((with_reducible apply e_ix); rfl) | ((with_reducible apply e_len); rfl; rfl)
  | with_reducible refine e_tB ?_ | with_reducible refine e_and ?_ | with_reducible refine e_or ?_ | with_reducible refine e_not ?_ | with_reducible refine e_if ?_ | with_reducible refine e_andV ?_ | with_reducible refine e_orV ?_ | with_reducible refine e_notV ?_
  | with_reducible refine e_bl ?_ | with_reducible refine e_chn ?_ | with_reducible refine e_neg ?_ | with_reducible refine e_isi ?_ | with_reducible refine e_isi2 ?_ | with_reducible refine e_tup ?_ | with_reducible refine e_lst ?_
  | with_reducible refine e_seqI ?_ | with_reducible refine e_rng1 ?_ | with_reducible refine e_rng2 ?_ | with_reducible refine e_part ?_ | with_reducible refine e_sl ?_ | with_reducible refine e_rev ?_ | with_reducible refine e_zip ?_
  | with_reducible refine e_fn ?_ | ((with_reducible apply e_fnP); rfl) | with_reducible refine e_fnT ?_ | ((with_reducible apply e_fnS); rfl) | with_reducible refine e_appT ?_
  | with_reducible refine t_nx ?_ | with_reducible refine t_rt ?_ | with_reducible refine t_bk ?_ | with_reducible refine t_ct ?_ | with_reducible refine u_nil ?_ | with_reducible refine u_seq ?_ | with_reducible refine u_ret ?_ | with_reducible refine u_retN ?_
  | with_reducible refine u_brk ?_ | with_reducible refine u_cnt ?_ | with_reducible refine u_drop ?_ | with_reducible refine u_if ?_ | with_reducible refine u_set ?_ | with_reducible refine u_par ?_ | ((with_reducible apply u_app); rfl)
  | with_reducible refine u_unp ?_ | with_reducible refine u_putIx ?_ | with_reducible refine u_unpIx ?_ | ((with_reducible apply n_rt); rfl) | ((with_reducible apply n_nx); rfl) | ((with_reducible refine c_def ?_ ?_); rfl)
  | ((with_reducible refine br_t ?_ ?_); first | rfl | (simp only [decide_eq_true_eq]; first | assumption | omega)) | ((with_reducible refine br_f ?_ ?_); first | rfl | (simp only [decide_eq_false_iff_not]; first | assumption | omega))
  | ((with_reducible apply kk); walk_at "pvq") | ((with_reducible refine And.intro ?_ ?_); first | rfl | exact Nat.le_of_ble_eq_true rfl) | with_reducible rfl)
/-! ### the greatest common divisor -/
def divB : Sm := gSeq (gWhl (natAt 1) (gCmp gtI (gVar 1) (Pv.ret (.int 0))) (gSeq (gParL [0, 1] (acons (aOf (gVar 1)) (acons (gBin modD (dOf (gCall intD (lcons (gVar 0) (Pv.ret [])))) (gVar 1)) (Pv.ret []))))
 (Pv.gNil)))
 (gSeq (gRet (mVar 0)) (Pv.gNil))
theorem div_ok {a b : Int} (ha : 0 ≤ a) (hb : 0 ≤ b) : defF 2 2 false divB [.fz (.int a), .fz (.int b)] = some (.fz (.int (Int.gcd a b)), []) := by
  refine cp_eq ?_
  refine c_def rfl ?_
  unfold divB
  refine u_seq ?_
  refine sp_whl (fun n δ => ∃ x y : Int, δ = [some (.fz (.int x)), some (.fz (.int y))] ∧ 0 ≤ x ∧ 0 ≤ y ∧ y.natAbs + 1 ≤ n ∧ Int.gcd x y = Int.gcd a b) ⟨a, b, rfl, ha, hb, by simp [natAt], rfl⟩ ?_
  rintro n δ ⟨x, y, rfl, hx, hy, hn, hg⟩
  obtain ⟨k, rfl⟩ : ∃ k, n = k + 1 := ⟨n - 1, by omega⟩
  refine ⟨k, rfl, ?_⟩
  by_cases h0 : 0 < y
  · repeat walk_at "pv"
    refine ⟨y, x % y, rfl, hy, Int.emod_nonneg _ (by omega), ?_, ?_⟩
    · have := Int.emod_lt_of_pos x h0
      have := Int.emod_nonneg x (show y ≠ 0 by omega)
      omega
    · rw [← hg]
      obtain ⟨m, rfl⟩ := Int.eq_ofNat_of_zero_le hx
      obtain ⟨q, rfl⟩ := Int.eq_ofNat_of_zero_le hy
      show Nat.gcd q (m % q) = Nat.gcd m q
      rw [Nat.gcd_comm q, ← Nat.gcd_rec, Nat.gcd_comm]
  · repeat walk_at "pv"
    have h0 : y = 0 := by omega
    subst h0
    refine ⟨?_, rfl⟩
    rw [← hg]
    have : Int.gcd x 0 = x.natAbs := by simp
    rw [this]
    have : (x.natAbs : Int) = x := by omega
    rw [this]
/-! ### the pot -/
def pot (x y : Int) : AV := .ow [.fz (.int x), .fz (.int y)]
def PotOk (p : AV) : Prop := ∃ x y : Int, p = pot x y ∧ 0 ≤ x ∧ 0 ≤ y ∧ y < 2 ^ 31
def Draws (g : Fn) : Prop := ∀ (p : AV) (many : Int), PotOk p → 0 < many → many < 2 ^ 30 → Cp g [p, .fz (.int many)] fun r o => ∃ d p', r = .fz (.int d) ∧ o = [p'] ∧ PotOk p' ∧ 0 ≤ d ∧ d < many
def drawB (a c m1 m2 q : Int) : Sm := gSeq (gIfS (gCmp gtI (gIxV 0 (Pv.ret (.int 0))) (Pv.ret (.int 0))) (gSeq (gUnpIx 0 (Pv.ret (.int 0)) 2 (dOf (gCall divmodD (lcons (gIxV 0 (Pv.ret (.int 0))) (lcons (gVar 1) (Pv.ret []))))))
 (gSeq (gRet (mVar 2))
 (Pv.gNil))) (Pv.gNil))
 (gSeq (gPutIx 0 (Pv.ret (.int 1)) (gBin modD (dOf (gCall intD (lcons (dOf (gBin addD (dOf (gBin mulD (gIxV 0 (Pv.ret (.int 1))) (Pv.ret (.int a)))) (Pv.ret (.int c)))) (Pv.ret [])))) (Pv.ret (.int m1))))
 (gSeq (gRet (gBin modD (dOf (gCall intD (lcons (dOf (gBin divD (dOf (gBin modD (dOf (gCall intD (lcons (dOf (gBin mulD (gIxV 0 (Pv.ret (.int 1))) (gIxV 0 (Pv.ret (.int 1))))) (Pv.ret [])))) (Pv.ret (.int m2)))) (Pv.ret (.int q)))) (Pv.ret [])))) (gVar 1)))
 (Pv.gNil)))
theorem small {x : Int} (h0 : 0 ≤ x) (h : x < 2 ^ 31) : x.natAbs < 2 ^ 250 := by
  have h1 : x.natAbs < 2 ^ 31 := by omega
  exact Nat.lt_of_lt_of_le h1 (Nat.pow_le_pow_right (by decide) (by decide))
theorem draw_ok {a c m1 m2 q : Int} (ha : 0 ≤ a ∧ a < 2 ^ 31) (h1 : 0 < m1 ∧ m1 ≤ 2 ^ 31) (h2 : 0 < m2) (hq : 0 < q ∧ q < 2 ^ 31) : Draws (defF 3 2 true (drawB a c m1 m2 q)) := by
  rintro p many ⟨x, y, rfl, hx, hy, hy2⟩ h0 hm
  unfold drawB pot
  by_cases hx0 : 0 < x
  · repeat walk_at "pv"
    exact ⟨_, _, rfl, rfl, ⟨_, _, rfl, Int.ediv_nonneg hx (by omega), hy, hy2⟩, Int.emod_nonneg _ (by omega), Int.emod_lt_of_pos _ h0⟩
  · have b1 : 0 ≤ (y * a + c) % m1 := Int.emod_nonneg _ (by omega)
    have b2 : (y * a + c) % m1 < 2 ^ 31 := Int.lt_of_lt_of_le (Int.emod_lt_of_pos _ h1.1) h1.2
    repeat walk_at "pv"
    exact ⟨_, _, rfl, rfl, ⟨_, _, rfl, hx, b1, b2⟩, Int.emod_nonneg _ (by omega), Int.emod_lt_of_pos _ h0⟩
def pickB (g : Fn) : Sm := gSeq (gRet (aOf (gIxV 1 (dOf (gFnP g 0 1 (lcons (gLenV 1) (Pv.ret []))))))) (Pv.gNil)
def Picks (g : Fn) : Prop := ∀ (p : AV) (ds : List PyData), PotOk p → ds ≠ [] → ds.length < 2 ^ 30 → Cp g [p, .fz (.list ds)] fun r o => ∃ d p', r = .fz d ∧ o = [p'] ∧ PotOk p' ∧ d ∈ ds
theorem atI_pos {α : Type} {ds : List α} {d : Int} (h0 : 0 ≤ d) (h1 : d < ds.length) : ∃ z ∈ ds, atI ds d = some z := by
  have hd : d.toNat < ds.length := by omega
  refine ⟨ds[d.toNat], List.getElem_mem hd, ?_⟩
  unfold atI ixN
  rw [if_pos h0, if_pos h1]
  exact List.getElem?_eq_getElem hd
theorem pick_ok {g : Fn} (hg : Draws g) : Picks (defF 2 2 true (pickB g)) := by
  intro p ds hp hne hl
  obtain ⟨x, y, rfl, hp2⟩ := id hp
  have pos : 0 < ds.length := List.length_pos_iff.mpr hne
  unfold pickB pot
  repeat walk_at "pv"
  refine (hg (pot x y) ds.length hp (by omega) (by omega)).mono ?_
  rintro r o ⟨d, p', rfl, rfl, hp', h0, h1⟩
  refine kk rfl ?_
  obtain ⟨z, hz, ha⟩ := atI_pos h0 h1
  repeat walk_at "pv"
  refine kk (d := z) ha ?_
  repeat walk_at "pv"
  exact ⟨_, _, rfl, rfl, hp', hz⟩
/-! ### how a pot begins -/
theorem absI_eq (i : Int) : absI i = (i.natAbs : Int) := by unfold absI; split <;> omega
def potB (a1 a2 m1 a3 a4 a5 m2 : Int) : Sm := gSeq (gSet 2 (gIf (gCmp ltI (gVar 1) (gLenV 0)) (gCall absD (lcons (gIxV 0 (gVar 1)) (Pv.ret []))) (gBin addD (dOf (gBin mulD (Pv.ret (.int a1)) (gVar 1))) (Pv.ret (.int a2)))))
 (gSeq (gRet (gLstE (lcons (dOf (gCall max2D (lcons (Pv.ret (.int 0)) (lcons (dOf (gBin subD (gVar 2) (dOf (gBin powD (Pv.ret (.int 10)) (Pv.ret (.int 18)))))) (Pv.ret []))))) (lcons (dOf (gBin addD (dOf (gBin modD (dOf (gCall intD (lcons (dOf (gBin addD (dOf (gBin addD (dOf (gBin mulD (dOf (gBin modD (dOf (gCall intD (lcons (gVar 2) (Pv.ret [])))) (Pv.ret (.int m1)))) (Pv.ret (.int a3)))) (dOf (gBin mulD (Pv.ret (.int a4)) (gVar 1))))) (Pv.ret (.int a5)))) (Pv.ret [])))) (Pv.ret (.int m2)))) (Pv.ret (.int 1)))) (Pv.ret [])))))
 (Pv.gNil))
def Pots (g : Fn) : Prop := ∀ (ns : List Int) (k : Int), 0 ≤ k → k < 64 → Cp g [.sc ns, .fz (.int k)] fun r o => o = [] ∧ PotOk r
theorem pot_ok {a1 a2 m1 a3 a4 a5 m2 : Int} (h1 : 0 ≤ a1 ∧ a1 < 2 ^ 31) (h2 : 0 ≤ a2 ∧ a2 < 2 ^ 31) (h3 : 0 ≤ a3 ∧ a3 < 2 ^ 31) (h4 : 0 ≤ a4 ∧ a4 < 2 ^ 31) (h5 : 0 ≤ a5 ∧ a5 < 2 ^ 31) (hm1 : 0 < m1 ∧ m1 < 2 ^ 31) (hm2 : 0 < m2 ∧ m2 < 2 ^ 31) : Pots (defF 3 2 false (potB a1 a2 m1 a3 a4 a5 m2)) := by
  intro ns k hk0 hk
  have fin : ∀ c : Int, Sp (gSeq (gRet (gLstE (lcons (dOf (gCall max2D (lcons (Pv.ret (.int 0)) (lcons (dOf (gBin subD (gVar 2) (dOf (gBin powD (Pv.ret (.int 10)) (Pv.ret (.int 18)))))) (Pv.ret []))))) (lcons (dOf (gBin addD (dOf (gBin modD (dOf (gCall intD (lcons (dOf (gBin addD (dOf (gBin addD (dOf (gBin mulD (dOf (gBin modD (dOf (gCall intD (lcons (gVar 2) (Pv.ret [])))) (Pv.ret (.int m1)))) (Pv.ret (.int a3)))) (dOf (gBin mulD (Pv.ret (.int a4)) (gVar 1))))) (Pv.ret (.int a5)))) (Pv.ret [])))) (Pv.ret (.int m2)))) (Pv.ret (.int 1)))) (Pv.ret [])))))
 (Pv.gNil)) [some (.sc ns), some (.fz (.int k)), some (.fz (.int c))] (endF false fun r o => o = [] ∧ PotOk r) := by
    intro c
    have b0 : 0 ≤ c % m1 := Int.emod_nonneg _ (by omega)
    have b1 : c % m1 < m1 := Int.emod_lt_of_pos _ hm1.1
    repeat walk_at "pv"
    have e1 := Int.emod_nonneg (c % m1 * a3 + a4 * k + a5) (show m2 ≠ 0 by omega)
    have e2 := Int.emod_lt_of_pos (c % m1 * a3 + a4 * k + a5) hm2.1
    refine ⟨_, _, rfl, ?_, by omega, by omega⟩
    show 0 ≤ (if c - 1000000000000000000 > 0 then c - 1000000000000000000 else 0)
    split <;> omega
  unfold potB
  by_cases hl : k < ns.length
  · obtain ⟨z, _, hz⟩ := atI_pos hk0 hl
    repeat walk_at "pv"
    refine kk (d := PyData.int z) (by show (atI ns k).map _ = _; rw [hz]; rfl) ?_
    repeat (first | exact fin _ | walk_at "pv")
  · repeat (first | exact fin _ | walk_at "pv")
/-! ### a fraction in its least numbers -/
def cutZ (t b : Int) : Int × Int := if b < 0 then (-t / (Int.gcd t b : Int), -b / (Int.gcd t b : Int)) else (t / (Int.gcd t b : Int), b / (Int.gcd t b : Int))
def cutB (dv : Fn) : Sm := gSeq (gIfS (gCmp ltI (gVar 1) (Pv.ret (.int 0))) (gSeq (gParL [0, 1] (acons (aOf (gNeg (gVar 0))) (acons (aOf (gNeg (gVar 1))) (Pv.ret []))))
 (Pv.gNil)) (Pv.gNil))
 (gSeq (gSet 2 (gFn dv 2 0 [0, 1] (lcons (dOf (gCall absD (lcons (gVar 0) (Pv.ret [])))) (lcons (gVar 1) (Pv.ret []))) (Pv.ret [])))
 (gSeq (gRet (aOf (gTupE (lcons (dOf (gBin divD (gVar 0) (gVar 2))) (lcons (dOf (gBin divD (gVar 1) (gVar 2))) (Pv.ret []))))))
 (Pv.gNil)))
def Divs (g : Fn) : Prop := ∀ a b : Int, 0 ≤ a → 0 ≤ b → g [.fz (.int a), .fz (.int b)] = some (.fz (.int (Int.gcd a b)), [])
def Cuts (g : Fn) : Prop := ∀ t b : Int, b ≠ 0 → b.natAbs < 2 ^ 250 → g [.fz (.int t), .fz (.int b)] = some (.fz (.tuple [.int (cutZ t b).1, .int (cutZ t b).2]), [])
theorem gcd_le {t b : Int} (h : b ≠ 0) : 0 < Int.gcd t b ∧ Int.gcd t b ≤ b.natAbs := by
  have h1 : 0 < Int.gcd t b := Nat.pos_of_ne_zero fun e => h (Int.gcd_eq_zero_iff.mp e).2
  exact ⟨h1, Nat.le_of_dvd (by omega) (Int.gcd_dvd_natAbs_right ..)⟩
theorem cut_ok {dv : Fn} (hd : Divs dv) : Cuts (defF 3 2 false (cutB dv)) := by
  intro t b hb hb2
  refine cp_eq ?_
  have fin : ∀ t b : Int, 0 < b → b.natAbs < 2 ^ 250 → Sp (gSeq (gSet 2 (gFn dv 2 0 [0, 1] (lcons (dOf (gCall absD (lcons (gVar 0) (Pv.ret [])))) (lcons (gVar 1) (Pv.ret []))) (Pv.ret [])))
 (gSeq (gRet (aOf (gTupE (lcons (dOf (gBin divD (gVar 0) (gVar 2))) (lcons (dOf (gBin divD (gVar 1) (gVar 2))) (Pv.ret []))))))
 (Pv.gNil))) [some (.fz (.int t)), some (.fz (.int b)), none] (endF false fun a o => a = .fz (.tuple [.int (t / (Int.gcd t b : Int)), .int (b / (Int.gcd t b : Int))]) ∧ o = []) := by
    intro t b hb hb2
    have hg := gcd_le (t := t) (b := b) (by omega)
    have e : Int.gcd (absI t) b = Int.gcd t b := by rw [absI_eq]; simp [Int.gcd]
    repeat walk_at "pv"
    refine ⟨⟨rfl, rfl⟩, c_of (hd (absI t) b (by rw [absI_eq]; omega) (by omega)) ?_⟩
    rw [e]
    repeat walk_at "pv"
  unfold cutB cutZ
  by_cases h0 : b < 0
  · have e : Int.gcd (-t) (-b) = Int.gcd t b := by simp [Int.gcd]
    have := fin (-t) (-b) (by omega) (by omega)
    rw [e] at this
    rw [if_pos h0]
    repeat (first | exact this | walk_at "pv")
  · have := fin t b (by omega) (by omega)
    rw [if_neg h0]
    repeat (first | exact this | walk_at "pv")
end Pv

namespace Pv
open PySem PySem.Spec L2
open PyProof.Rows hiding St
/-! PvR: how long a text is -/
mutual
def nice : PyData → Bool
  | .int i => decide (i.natAbs < 2 ^ 250)
  | .str x => decide ((reprText x).length ≤ 250)
  | .list xs => niceL xs
  | .tuple xs => niceL xs
  | .dict _ => false
  | .none => true
  | .bool _ => true
def niceL : List PyData → Bool
  | [] => true
  | x :: xs => nice x && niceL xs
end
mutual
def wt : PyData → Nat
  | .list xs => wtL xs + 4
  | .tuple xs => wtL xs + 4
  | _ => 300
def wtL : List PyData → Nat
  | [] => 0
  | x :: xs => wt x + 2 + wtL xs
end
theorem nice_ints {i : Int} (h : i.natAbs < 2 ^ 250) : nice (.int i) = true := decide_eq_true h
theorem textFrom_le : ∀ (ts : List Str) (k : Nat) (acc : Str), (textFrom k acc ts).length ≤ acc.length + (ts.map fun t => t.length + 2).sum
  | [], k, acc => by show acc.length ≤ _; simp
  | t :: r, k, acc => by
    have := textFrom_le r (k + 1) (acc ++ (if k > 0 then ", " else "" : String) ++ t)
    have e : (acc ++ (if k > 0 then ", " else "" : String) ++ t).length ≤ acc.length + 2 + t.length := by
      rw [strLen_append, strLen_append]
      split
      · show acc.length + 2 + _ ≤ _; omega
      · show acc.length + 0 + _ ≤ _; omega
    rw [List.map_cons, List.sum_cons]
    show (textFrom (k + 1) _ r).length ≤ _
    omega
theorem join_le : ∀ ts : List Str, (Str.join ", " ts).length ≤ (ts.map fun t => t.length + 2).sum
  | [] => by show 0 ≤ _; omega
  | [x] => by show x.length ≤ _; simp
  | x :: y :: r => by
    have ih := join_le (y :: r)
    show (x ++ ", " ++ Str.join ", " (y :: r)).length ≤ _
    rw [strLen_append, strLen_append, List.map_cons, List.sum_cons]
    have e2 : ((", " : String) : Str).length = 2 := rfl
    omega
mutual
theorem shown_le : ∀ d : PyData, nice d = true → d.shown.length ≤ wt d ∧ d.showable = true ∧ noDct d = true
  | .none, _ => ⟨by decide, rfl, rfl⟩
  | .bool b, _ => by cases b <;> exact ⟨by decide, rfl, rfl⟩
  | .int i, h => by
    have h := of_decide_eq_true (show decide (i.natAbs < 2 ^ 250) = true from h)
    have hl := natLog h (by decide)
    refine ⟨?_, decide_eq_true (Nat.lt_trans hl (by decide)), rfl⟩
    have := int_text_length_le (by decide) hl
    show (Str.ofString (toString i)).length ≤ 300
    rw [PySem.ofString_length]
    omega
  | .str x, h => by
    have h := of_decide_eq_true (show decide ((reprText x).length ≤ 250) = true from h)
    exact ⟨Nat.le_trans h (by show 250 ≤ 300; decide), rfl, rfl⟩
  | .list xs, h => by
    obtain ⟨a, b, c⟩ := shownL_le xs h
    refine ⟨?_, b, c⟩
    show (textFrom 0 "[" (PyData.shownAll xs) ++ ("]" : String)).length ≤ wtL xs + 4
    rw [strLen_append]
    have := textFrom_le (PyData.shownAll xs) 0 "["
    have e1 : (("[" : String) : Str).length = 1 := rfl
    have e2 : (("]" : String) : Str).length = 1 := rfl
    omega
  | .tuple xs, h => by
    obtain ⟨a, b, c⟩ := shownL_le xs h
    refine ⟨?_, b, c⟩
    show (("(" : Str) ++ Str.join ", " (PyData.shownAll xs) ++ (if (PyData.shownAll xs).length == 1 then ",)" else ")" : String)).length ≤ wtL xs + 4
    rw [strLen_append, strLen_append]
    have := join_le (PyData.shownAll xs)
    have e1 : (("(" : String) : Str).length = 1 := rfl
    have e2 : ((",)" : String) : Str).length = 2 := rfl
    have e3 : ((")" : String) : Str).length = 1 := rfl
    split <;> omega
  | .dict _, h => by cases h
theorem shownL_le : ∀ d : List PyData, niceL d = true → ((PyData.shownAll d).map fun t => t.length + 2).sum ≤ wtL d ∧ PyData.showableAll d = true ∧ noDcts d = true
  | [], _ => ⟨Nat.le_refl _, rfl, rfl⟩
  | x :: xs, h => by
    have h2 := Bool.and_eq_true_iff.mp (show (nice x && niceL xs) = true from h)
    obtain ⟨a, b, c⟩ := shown_le x h2.1
    obtain ⟨a2, b2, c2⟩ := shownL_le xs h2.2
    refine ⟨?_, ?_, ?_⟩
    · show ((x.shown :: PyData.shownAll xs).map fun t => t.length + 2).sum ≤ wt x + 2 + wtL xs
      rw [List.map_cons, List.sum_cons]
      omega
    · show (x.showable && PyData.showableAll xs) = true
      rw [b, b2]; rfl
    · show (noDct x && noDcts xs) = true
      rw [c, c2]; rfl
end
theorem q_repr {d : PyData} (h : nice d = true) (hd : d.depth ≤ 60) (hw : wt d ≤ 1000000) : reprD [d] = some (.fz (.str d.shown)) := by
  obtain ⟨a, b, c⟩ := shown_le d h
  have : reprOk d = true := by
    unfold reprOk
    rw [c, b, decide_eq_true hd, decide_eq_true (show d.shown.length ≤ lim from Nat.le_trans a hw)]
    rfl
  unfold reprD
  exact if_pos this
theorem q_reprD : reprD [.dict []] = some (.fz (.str (PyData.dict []).shown)) := by
  have : reprOk (.dict []) = true := by decide +kernel
  unfold reprD
  exact if_pos this
end Pv

namespace Pv
open PySem PySem.Spec L2
open PyProof.Rows hiding St
/-! PvQ: fractions -/
/-- so many bits -/
def Bt (n : Nat) (i : Int) : Prop := i.natAbs < 2 ^ n
theorem Bt.mono {n m : Nat} {i : Int} (h : Bt n i) (w : n ≤ m) : Bt m i := Nat.lt_of_lt_of_le h (Nat.pow_le_pow_right (by decide) w)
theorem bt_mul {n m : Nat} {i j : Int} (h : Bt n i) (g : Bt m j) : Bt (n + m) (i * j) := by
  unfold Bt at *
  rw [Int.natAbs_mul, Nat.pow_add]
  exact Nat.mul_lt_mul'' h g
theorem bt_add {n m : Nat} {i j : Int} (h : Bt n i) (g : Bt m j) : Bt (n + m + 1) (i + j) := by
  unfold Bt at *
  have h1 : 2 ^ n ≤ 2 ^ (n + m) := Nat.pow_le_pow_right (by decide) (by omega)
  have h2 : 2 ^ m ≤ 2 ^ (n + m) := Nat.pow_le_pow_right (by decide) (by omega)
  rw [Nat.pow_succ]
  omega
theorem bt_add1 {k : Nat} {i j : Int} (h : Bt k i) (g : Bt k j) : Bt (k + 1) (i + j) := by
  unfold Bt at *
  rw [Nat.pow_succ]
  omega
theorem bt_neg {n : Nat} {i : Int} (h : Bt n i) : Bt n (-i) := by unfold Bt at *; omega
theorem bt_sub {n m : Nat} {i j : Int} (h : Bt n i) (g : Bt m j) : Bt (n + m + 1) (i - j) := bt_add h (bt_neg g)
theorem bt_small {i : Int} (h : -1024 < i ∧ i < 1024) : Bt 10 i := by unfold Bt; omega
theorem bt_abs {n : Nat} {i : Int} (h : Bt n i) : Bt n (absI i) := by rw [absI_eq]; unfold Bt at *; omega
theorem bt_div {n : Nat} {i j : Int} (h : Bt n i) : Bt n (i / j) := Nat.lt_of_le_of_lt (Int.natAbs_ediv_le_natAbs ..) h
theorem bt_log {n : Nat} {i : Int} (h : Bt n i) : i.natAbs.log2 ≤ n := by
  by_cases e : i.natAbs = 0
  · rw [e]; simp
  · exact Nat.le_of_lt ((Nat.log2_lt e).mpr h)
theorem q_mulB {i j : Int} {n m : Nat} (hi : Bt n i) (hj : Bt m j) (hn : n ≤ 9000) (hm : m ≤ 9000) : mulD (.int i) (.int j) = some (.fz (.int (i * j))) := by
  show (mulI i j).map _ = _
  unfold mulI
  have h1 := bt_log hi
  have h2 := bt_log hj
  rw [if_pos (by omega)]; rfl
theorem q_divB {i j : Int} {n : Nat} (h0 : 0 < j) (hj : Bt n j) (hn : n ≤ 8999) : divD (.int i) (.int j) = some (.fz (.int (i / j))) := by
  show (divI i j).map _ = _
  unfold divI
  have h1 := bt_log hj
  rw [if_pos ⟨h0, by omega⟩]; rfl
abbrev Fr := Int × Int
def frD (p : Fr) : PyData := .tuple [.int p.1, .int p.2]
def qv (p : Fr) : Rat := (p.1 : Rat) / (p.2 : Rat)
structure Can (p : Fr) : Prop where
  pos : 0 < p.2
  cop : Int.gcd p.1 p.2 = 1
def BtF (n : Nat) (p : Fr) : Prop := Bt n p.1 ∧ Bt n p.2
theorem BtF.mono {n m : Nat} {p : Fr} (h : BtF n p) (w : n ≤ m) : BtF m p := ⟨h.1.mono w, h.2.mono w⟩
theorem ratne {b : Int} (h : b ≠ 0) : (b : Rat) ≠ 0 := by
  intro e
  exact h (by exact_mod_cast e)
theorem ratpos {b : Int} (h : 0 < b) : (0 : Rat) < b := by exact_mod_cast h
theorem cut_cross {t b : Int} (hb : b ≠ 0) : (cutZ t b).1 * b = t * (cutZ t b).2 ∧ 0 < (cutZ t b).2 := by
  have hg := gcd_le (t := t) hb
  obtain ⟨x, hx⟩ := Int.gcd_dvd_left (a := t) (b := b)
  obtain ⟨y, hy⟩ := Int.gcd_dvd_right (a := t) (b := b)
  have g0 : (Int.gcd t b : Int) ≠ 0 := by omega
  unfold cutZ
  generalize hgg : (Int.gcd t b : Int) = g at *
  have gp : 0 < g := by omega
  have e1 : t / g = x := by rw [hx]; exact Int.mul_ediv_cancel_left _ g0
  have e2 : b / g = y := by rw [hy]; exact Int.mul_ediv_cancel_left _ g0
  have e3 : -t / g = -x := by rw [hx, ← Int.mul_neg]; exact Int.mul_ediv_cancel_left _ g0
  have e4 : -b / g = -y := by rw [hy, ← Int.mul_neg]; exact Int.mul_ediv_cancel_left _ g0
  split
  · next h =>
    show -t / g * b = t * (-b / g) ∧ 0 < -b / g
    rw [e3, e4]
    refine ⟨by rw [hx, hy]; grind, ?_⟩
    rw [hy] at h
    have : g * y < g * 0 := by omega
    have := Int.lt_of_mul_lt_mul_left this (by omega)
    omega
  · next h =>
    show t / g * b = t * (b / g) ∧ 0 < b / g
    rw [e1, e2]
    refine ⟨by rw [hx, hy]; grind, ?_⟩
    have : g * 0 < g * y := by omega
    exact Int.lt_of_mul_lt_mul_left this (by omega)
theorem cut_qv {t b : Int} (hb : b ≠ 0) : qv (cutZ t b) = (t : Rat) / (b : Rat) := by
  obtain ⟨h1, h2⟩ := cut_cross (t := t) hb
  unfold qv
  have e : ((cutZ t b).1 : Rat) * (b : Rat) = (t : Rat) * ((cutZ t b).2 : Rat) := by exact_mod_cast h1
  have n1 := ratne hb
  have n2 := ratne (show (cutZ t b).2 ≠ 0 by omega)
  grind
theorem natAbs_div {a : Int} {g : Nat} (h : g ∣ a.natAbs) : (a / (g : Int)).natAbs = a.natAbs / g := by
  obtain ⟨x, hx⟩ := Int.ofNat_dvd_left.mpr h
  subst hx
  by_cases e : g = 0
  · subst e; simp
  · rw [Int.mul_ediv_cancel_left _ (by omega), Int.natAbs_mul, Int.natAbs_natCast, Nat.mul_div_cancel_left _ (by omega)]
theorem gcd_dd {t b : Int} (h : 0 < Int.gcd t b) : Int.gcd (t / (Int.gcd t b : Int)) (b / (Int.gcd t b : Int)) = 1 := by
  show Nat.gcd (t / (Int.gcd t b : Int)).natAbs (b / (Int.gcd t b : Int)).natAbs = 1
  have e1 := natAbs_div (a := t) (g := Int.gcd t b) (Nat.gcd_dvd_left _ _)
  have e2 := natAbs_div (a := b) (g := Int.gcd t b) (Nat.gcd_dvd_right _ _)
  rw [e1, e2]
  exact Nat.coprime_div_gcd_div_gcd h
theorem dvd_cop {k m n : Int} (h : k ∣ m * n) (g : Int.gcd k m = 1) : k ∣ n := by
  have h := Int.natAbs_dvd_natAbs.mpr h
  rw [Int.natAbs_mul] at h
  exact Int.natAbs_dvd_natAbs.mp (Nat.Coprime.dvd_of_dvd_mul_left (show Nat.Coprime k.natAbs m.natAbs from g) h)
theorem can_cut {t b : Int} (hb : b ≠ 0) : Can (cutZ t b) := by
  refine ⟨(cut_cross hb).2, ?_⟩
  have hg := gcd_le (t := t) hb
  have key : Int.gcd (t / (Int.gcd t b : Int)) (b / (Int.gcd t b : Int)) = 1 := gcd_dd hg.1
  unfold cutZ
  split
  · have e : Int.gcd (-t) (-b) = Int.gcd t b := by simp [Int.gcd]
    show Int.gcd (-t / (Int.gcd t b : Int)) (-b / (Int.gcd t b : Int)) = 1
    rw [← e]
    exact gcd_dd (by rw [e]; exact hg.1)
  · exact key
theorem can_inj {p q : Fr} (hp : Can p) (hq : Can q) (h : qv p = qv q) : p = q := by
  have n1 := ratne (show p.2 ≠ 0 by have := hp.pos; omega)
  have n2 := ratne (show q.2 ≠ 0 by have := hq.pos; omega)
  have e : (p.1 : Rat) * (q.2 : Rat) = (q.1 : Rat) * (p.2 : Rat) := by unfold qv at h; grind
  have e : p.1 * q.2 = q.1 * p.2 := by exact_mod_cast e
  have d1 : p.2 ∣ q.2 := by
    have : p.2 ∣ p.1 * q.2 := ⟨q.1, by rw [e, Int.mul_comm]⟩
    exact dvd_cop this (by rw [Int.gcd_comm]; exact hp.cop)
  have d2 : q.2 ∣ p.2 := by
    have : q.2 ∣ q.1 * p.2 := ⟨p.1, by rw [← e, Int.mul_comm]⟩
    exact dvd_cop this (by rw [Int.gcd_comm]; exact hq.cop)
  have e2 : p.2 = q.2 := Int.dvd_antisymm (Int.le_of_lt hp.pos) (Int.le_of_lt hq.pos) d1 d2
  have e1 : p.1 = q.1 := by
    rw [← e2] at e
    exact Int.eq_of_mul_eq_mul_right (by have := hp.pos; omega) e
  exact Prod.ext e1 e2
theorem qv_lt {p q : Fr} (hp : 0 < p.2) (hq : 0 < q.2) : p.1 * q.2 < q.1 * p.2 ↔ qv p < qv q := by
  have n1 := ratpos hp
  have n2 := ratpos hq
  unfold qv
  rw [Rat.div_lt_iff n1]
  have e : (q.1 : Rat) / (q.2 : Rat) * (p.2 : Rat) = ((q.1 : Rat) * (p.2 : Rat)) / (q.2 : Rat) := by
    have := ratne (show q.2 ≠ 0 by omega)
    grind
  rw [e, Rat.lt_div_iff n2]
  constructor
  · intro h; exact_mod_cast h
  · intro h; exact_mod_cast h
theorem btF_cut {n : Nat} {t b : Int} (h1 : Bt n t) (h2 : Bt n b) : BtF n (cutZ t b) := by
  unfold cutZ
  split
  · exact ⟨bt_div (bt_neg h1), bt_div (bt_neg h2)⟩
  · exact ⟨bt_div h1, bt_div h2⟩
/-! sums, differences, products in their least numbers -/
def plusZ (p q : Fr) : Fr := cutZ (p.1 * q.2 + q.1 * p.2) (p.2 * q.2)
def lessZ (p q : Fr) : Fr := cutZ (p.1 * q.2 - q.1 * p.2) (p.2 * q.2)
def timesZ (p q : Fr) : Fr := cutZ (p.1 * q.1) (p.2 * q.2)
section
variable {p q : Fr}
theorem mul_ne {a b : Int} (h : 0 < a) (g : 0 < b) : a * b ≠ 0 := Int.ne_of_gt (Int.mul_pos h g)
theorem can_plus (hp : 0 < p.2) (hq : 0 < q.2) : Can (plusZ p q) := can_cut (mul_ne hp hq)
theorem can_less (hp : 0 < p.2) (hq : 0 < q.2) : Can (lessZ p q) := can_cut (mul_ne hp hq)
theorem can_times (hp : 0 < p.2) (hq : 0 < q.2) : Can (timesZ p q) := can_cut (mul_ne hp hq)
theorem qv_plus (hp : 0 < p.2) (hq : 0 < q.2) : qv (plusZ p q) = qv p + qv q := by
  unfold plusZ
  rw [cut_qv (mul_ne hp hq)]
  unfold qv
  have n1 := ratne (show p.2 ≠ 0 by omega)
  have n2 := ratne (show q.2 ≠ 0 by omega)
  rw [show (((p.1 * q.2 + q.1 * p.2 : Int)) : Rat) = (p.1 : Rat) * q.2 + q.1 * p.2 by push_cast; rfl, show ((p.2 * q.2 : Int) : Rat) = (p.2 : Rat) * q.2 by push_cast; rfl]
  grind
theorem qv_less (hp : 0 < p.2) (hq : 0 < q.2) : qv (lessZ p q) = qv p - qv q := by
  unfold lessZ
  rw [cut_qv (mul_ne hp hq)]
  unfold qv
  have n1 := ratne (show p.2 ≠ 0 by omega)
  have n2 := ratne (show q.2 ≠ 0 by omega)
  rw [show (((p.1 * q.2 - q.1 * p.2 : Int)) : Rat) = (p.1 : Rat) * q.2 - q.1 * p.2 by push_cast; rfl, show ((p.2 * q.2 : Int) : Rat) = (p.2 : Rat) * q.2 by push_cast; rfl]
  grind
theorem qv_times (hp : 0 < p.2) (hq : 0 < q.2) : qv (timesZ p q) = qv p * qv q := by
  unfold timesZ
  rw [cut_qv (mul_ne hp hq)]
  unfold qv
  have n1 := ratne (show p.2 ≠ 0 by omega)
  have n2 := ratne (show q.2 ≠ 0 by omega)
  rw [show (((p.1 * q.1 : Int)) : Rat) = (p.1 : Rat) * q.1 by push_cast; rfl, show ((p.2 * q.2 : Int) : Rat) = (p.2 : Rat) * q.2 by push_cast; rfl]
  grind
theorem btF_plus {n m : Nat} (hp : BtF n p) (hq : BtF m q) : BtF (n + m + 1) (plusZ p q) :=
  btF_cut (bt_add1 (bt_mul hp.1 hq.2) ((bt_mul hq.1 hp.2).mono (by omega))) ((bt_mul hp.2 hq.2).mono (by omega))
theorem btF_less {n m : Nat} (hp : BtF n p) (hq : BtF m q) : BtF (n + m + 1) (lessZ p q) :=
  btF_cut (by rw [Int.sub_eq_add_neg]; exact bt_add1 (bt_mul hp.1 hq.2) (bt_neg ((bt_mul hq.1 hp.2).mono (by omega)))) ((bt_mul hp.2 hq.2).mono (by omega))
theorem btF_times {n m : Nat} (hp : BtF n p) (hq : BtF m q) : BtF (n + m) (timesZ p q) :=
  btF_cut (bt_mul hp.1 hq.1) (bt_mul hp.2 hq.2)
end
end Pv

namespace Pv
open PySem PySem.Spec L2
open PyProof.Rows hiding St
local macro_rules | `(tactic| walk_at "pvq") => `(tactic| first
  | with_reducible exact q_add | with_reducible exact q_sub | with_reducible exact q_int | with_reducible exact q_abs | with_reducible exact q_lt | with_reducible exact q_le | with_reducible exact q_gt | with_reducible exact q_ge
  | with_reducible exact q_eq | with_reducible exact q_ne | with_reducible exact q_eqs | with_reducible exact q_nes | exact q_pow18 | exact q_pow20 | exact q_pow25
  | ((with_reducible refine q_mod ?_); first | assumption | omega) | ((with_reducible refine q_div ?_ ?_) <;> omega) | ((with_reducible refine q_mul ?_ ?_) <;> omega) | ((with_reducible refine q_dm ?_ ?_) <;> omega) | rfl)
local macro_rules | `(tactic| walk_at "pv") => `(tactic| first
  | with_reducible refine e_ret ?_ | with_reducible refine e_dOf ?_ | with_reducible refine e_aOf ?_ | ((with_reducible apply e_var); rfl) | ((with_reducible apply e_mv); rfl)
  | with_reducible refine e_lcons ?_ | with_reducible refine e_acons ?_ | with_reducible refine e_bin ?_ | with_reducible refine e_cmp ?_ | with_reducible refine e_call ?_
  | (with_reducible refine kk avd_fz ?_) | (with_reducible refine kk avd_ow ?_) | (with_reducible refine kk avd_ow0 ?_) | ((with_reducible apply e_ix); rfl) | ((with_reducible apply e_len); rfl; rfl)
  | with_reducible refine e_tB ?_ | with_reducible refine e_and ?_ | with_reducible refine e_or ?_ | with_reducible refine e_not ?_ | with_reducible refine e_if ?_ | with_reducible refine e_andV ?_ | with_reducible refine e_orV ?_ | with_reducible refine e_notV ?_
  | with_reducible refine e_bl ?_ | with_reducible refine e_chn ?_ | with_reducible refine e_neg ?_ | with_reducible refine e_isi ?_ | with_reducible refine e_isi2 ?_ | with_reducible refine e_tup ?_ | with_reducible refine e_lst ?_
  | with_reducible refine e_seqI ?_ | with_reducible refine e_rng1 ?_ | with_reducible refine e_rng2 ?_ | with_reducible refine e_part ?_ | with_reducible refine e_sl ?_ | with_reducible refine e_rev ?_ | with_reducible refine e_zip ?_
  | with_reducible refine e_fn ?_ | ((with_reducible apply e_fnP); rfl) | with_reducible refine e_fnT ?_ | ((with_reducible apply e_fnS); rfl) | with_reducible refine e_appT ?_
  | with_reducible refine t_nx ?_ | with_reducible refine t_rt ?_ | with_reducible refine t_bk ?_ | with_reducible refine t_ct ?_ | with_reducible refine u_nil ?_ | with_reducible refine u_seq ?_ | with_reducible refine u_ret ?_ | with_reducible refine u_retN ?_
  | with_reducible refine u_brk ?_ | with_reducible refine u_cnt ?_ | with_reducible refine u_drop ?_ | with_reducible refine u_if ?_ | with_reducible refine u_set ?_ | with_reducible refine u_par ?_ | ((with_reducible apply u_app); rfl)
  | with_reducible refine u_unp ?_ | with_reducible refine u_putIx ?_ | with_reducible refine u_unpIx ?_ | ((with_reducible apply n_rt); rfl) | ((with_reducible apply n_nx); rfl) | ((with_reducible refine c_def ?_ ?_); rfl)
  | ((with_reducible refine br_t ?_ ?_); first | rfl | (simp only [Bool.not_eq_true', Bool.not_eq_false', decide_eq_true_eq, decide_eq_false_iff_not]; first | assumption | omega)) | ((with_reducible refine br_f ?_ ?_); first | rfl | (simp only [Bool.not_eq_true', Bool.not_eq_false', decide_eq_true_eq, decide_eq_false_iff_not]; first | assumption | omega))
  | ((with_reducible apply kk); walk_at "pvq") | ((with_reducible refine And.intro (And.intro ?_ ?_) ?_); rfl; rfl) | ((with_reducible refine And.intro ?_ ?_); first | rfl | exact Nat.le_of_ble_eq_true rfl) | with_reducible rfl)

/-! PvF: the laws' and the program's fractions -/
theorem gcd_absI (a b : Int) : Int.gcd (absI a) b = Int.gcd a b := by rw [absI_eq]; simp [Int.gcd]
theorem absI_nn (a : Int) : 0 ≤ absI a := by rw [absI_eq]; omega
def CutsB (g : Fn) : Prop := ∀ (t b : Int) (n : Nat), b ≠ 0 → Bt n b → n ≤ 8999 → g [.fz (.int t), .fz (.int b)] = some (.fz (frD (cutZ t b)), [])
def cutT (dv : Fn) : Sm := (gSeq (gSet 2 (gFn dv 2 0 [0, 1] (lcons (dOf (gCall absD (lcons (gVar 0) (Pv.ret [])))) (lcons (gVar 1) (Pv.ret []))) (Pv.ret [])))
 (gSeq (gRet (aOf (gTupE (lcons (dOf (gBin divD (gVar 0) (gVar 2))) (lcons (dOf (gBin divD (gVar 1) (gVar 2))) (Pv.ret []))))))
 (Pv.gNil)))
theorem cutT_ok {dv : Fn} (hd : Divs dv) {t b : Int} {n : Nat} (hb : 0 < b) (hn : Bt n b) (hn2 : n ≤ 8999) : Sp (cutT dv) [some (.fz (.int t)), some (.fz (.int b)), none] (endF false fun a o => a = .fz (.tuple [.int (t / (Int.gcd t b : Int)), .int (b / (Int.gcd t b : Int))]) ∧ o = []) := by
  have hg := gcd_le (t := t) (b := b) (by omega)
  have bg : Bt n (Int.gcd t b : Int) := by unfold Bt at *; omega
  unfold cutT
  repeat walk_at "pv"
  refine c_of (hd (absI t) b (absI_nn t) (by omega)) ?_
  rw [gcd_absI]
  repeat walk_at "pv"
  refine kk (q_divB (by omega) bg hn2) ?_
  repeat walk_at "pv"
  refine kk (q_divB (by omega) bg hn2) ?_
  repeat walk_at "pv"
theorem cutsB {dv : Fn} (hd : Divs dv) : CutsB (defF 3 2 false (cutB dv)) := by
  intro t b n hb hn hn2
  refine cp_eq ?_
  unfold cutB
  show Cp _ _ fun a o => a = .fz (.tuple [.int (cutZ t b).1, .int (cutZ t b).2]) ∧ o = []
  unfold cutZ
  by_cases h0 : b < 0
  · have e : Int.gcd (-t) (-b) = Int.gcd t b := by simp [Int.gcd]
    have := cutT_ok hd (t := -t) (b := -b) (by omega) (bt_neg hn) hn2
    rw [e] at this
    rw [if_pos h0]
    repeat (first | exact this | walk_at "pv")
  · have := cutT_ok hd (t := t) (b := b) (by omega) hn hn2
    rw [if_neg h0]
    repeat (first | exact this | walk_at "pv")
def redB (dv : Fn) : Sm := gSeq (gIfS (gCmp ltI (gVar 1) (Pv.ret (.int 0))) (gSeq (gParL [0, 1] (acons (gBin subD (Pv.ret (.int 0)) (gVar 0)) (acons (gBin subD (Pv.ret (.int 0)) (gVar 1)) (Pv.ret []))))
 (Pv.gNil)) (Pv.gNil)) (cutT dv)
theorem redsB {dv : Fn} (hd : Divs dv) : CutsB (defF 3 2 false (redB dv)) := by
  intro t b n hb hn hn2
  refine cp_eq ?_
  unfold redB
  show Cp _ _ fun a o => a = .fz (.tuple [.int (cutZ t b).1, .int (cutZ t b).2]) ∧ o = []
  unfold cutZ
  by_cases h0 : b < 0
  · have e : Int.gcd (0 - t) (0 - b) = Int.gcd t b := by simp [Int.gcd]
    have := cutT_ok hd (t := 0 - t) (b := 0 - b) (by omega) (by rw [Int.zero_sub]; exact bt_neg hn) hn2
    rw [e] at this
    rw [if_pos h0, ← Int.zero_sub t, ← Int.zero_sub b]
    repeat (first | exact this | walk_at "pv")
  · have := cutT_ok hd (t := t) (b := b) (by omega) hn hn2
    rw [if_neg h0]
    repeat (first | exact this | walk_at "pv")
def Fop (g : Fn) (f : Fr → Fr → Fr) : Prop := ∀ (p q : Fr) (n m : Nat), 0 < p.2 → 0 < q.2 → BtF n p → BtF m q → n ≤ 4000 → m ≤ 4000 → g [.fz (frD p), .fz (frD q)] = some (.fz (frD (f p q)), [])
def plusB (g : Fn) : Sm := gSeq (gRet (gFn g 2 0 [0, 1] (lcons (dOf (gBin addD (dOf (gBin mulD (gIxV 0 (Pv.ret (.int 0))) (gIxV 1 (Pv.ret (.int 1))))) (dOf (gBin mulD (gIxV 1 (Pv.ret (.int 0))) (gIxV 0 (Pv.ret (.int 1))))))) (lcons (dOf (gBin mulD (gIxV 0 (Pv.ret (.int 1))) (gIxV 1 (Pv.ret (.int 1))))) (Pv.ret []))) (Pv.ret [])))
 (Pv.gNil)
def lessB (g : Fn) : Sm := gSeq (gRet (gFn g 2 0 [0, 1] (lcons (dOf (gBin subD (dOf (gBin mulD (gIxV 0 (Pv.ret (.int 0))) (gIxV 1 (Pv.ret (.int 1))))) (dOf (gBin mulD (gIxV 1 (Pv.ret (.int 0))) (gIxV 0 (Pv.ret (.int 1))))))) (lcons (dOf (gBin mulD (gIxV 0 (Pv.ret (.int 1))) (gIxV 1 (Pv.ret (.int 1))))) (Pv.ret []))) (Pv.ret [])))
 (Pv.gNil)
def timesB (g : Fn) : Sm := gSeq (gRet (gFn g 2 0 [0, 1] (lcons (dOf (gBin mulD (gIxV 0 (Pv.ret (.int 0))) (gIxV 1 (Pv.ret (.int 0))))) (lcons (dOf (gBin mulD (gIxV 0 (Pv.ret (.int 1))) (gIxV 1 (Pv.ret (.int 1))))) (Pv.ret []))) (Pv.ret [])))
 (Pv.gNil)
theorem plus_ok {g : Fn} (hg : CutsB g) : Fop (defF 2 2 false (plusB g)) plusZ := by
  intro p q n m hp hq bp bq hn hm
  refine cp_eq ?_
  unfold plusB frD
  repeat walk_at "pv"
  refine kk (q_mulB bp.1 bq.2 (by omega) (by omega)) ?_
  repeat walk_at "pv"
  refine kk (q_mulB bq.1 bp.2 (by omega) (by omega)) ?_
  repeat walk_at "pv"
  refine kk (q_mulB bp.2 bq.2 (by omega) (by omega)) ?_
  repeat walk_at "pv"
  refine c_of (hg _ _ _ (mul_ne hp hq) (bt_mul bp.2 bq.2) (by omega)) ?_
  repeat walk_at "pv"
theorem less_ok {g : Fn} (hg : CutsB g) : Fop (defF 2 2 false (lessB g)) lessZ := by
  intro p q n m hp hq bp bq hn hm
  refine cp_eq ?_
  unfold lessB frD
  repeat walk_at "pv"
  refine kk (q_mulB bp.1 bq.2 (by omega) (by omega)) ?_
  repeat walk_at "pv"
  refine kk (q_mulB bq.1 bp.2 (by omega) (by omega)) ?_
  repeat walk_at "pv"
  refine kk (q_mulB bp.2 bq.2 (by omega) (by omega)) ?_
  repeat walk_at "pv"
  refine c_of (hg _ _ _ (mul_ne hp hq) (bt_mul bp.2 bq.2) (by omega)) ?_
  repeat walk_at "pv"
theorem times_ok {g : Fn} (hg : CutsB g) : Fop (defF 2 2 false (timesB g)) timesZ := by
  intro p q n m hp hq bp bq hn hm
  refine cp_eq ?_
  unfold timesB frD
  repeat walk_at "pv"
  refine kk (q_mulB bp.1 bq.1 (by omega) (by omega)) ?_
  repeat walk_at "pv"
  refine kk (q_mulB bp.2 bq.2 (by omega) (by omega)) ?_
  repeat walk_at "pv"
  refine c_of (hg _ _ _ (mul_ne hp hq) (bt_mul bp.2 bq.2) (by omega)) ?_
  repeat walk_at "pv"
def belowZ (p q : Fr) : Bool := decide (p.1 * q.2 < q.1 * p.2)
def belowB : Sm := gSeq (gRet (aOf (gBl (gCmp ltI (dOf (gBin mulD (gIxV 0 (Pv.ret (.int 0))) (gIxV 1 (Pv.ret (.int 1))))) (dOf (gBin mulD (gIxV 1 (Pv.ret (.int 0))) (gIxV 0 (Pv.ret (.int 1)))))))))
 (Pv.gNil)
theorem below_ok (p q : Fr) (n m : Nat) (bp : BtF n p) (bq : BtF m q) (hn : n ≤ 4000) (hm : m ≤ 4000) : defF 2 2 false belowB [.fz (frD p), .fz (frD q)] = some (.fz (.bool (belowZ p q)), []) := by
  refine cp_eq ?_
  unfold belowB frD
  repeat walk_at "pv"
  refine kk (q_mulB bp.1 bq.2 (by omega) (by omega)) ?_
  repeat walk_at "pv"
  refine kk (q_mulB bq.1 bp.2 (by omega) (by omega)) ?_
  repeat walk_at "pv"
/-! sums of many -/
def totZ (ps : List Fr) : Fr := ps.foldl plusZ (0, 1)
theorem tot_go {n : Nat} : ∀ (ps : List Fr) (p : Fr) (m : Nat), 0 < p.2 → BtF m p → (∀ q ∈ ps, 0 < q.2 ∧ BtF n q) → 0 < (ps.foldl plusZ p).2 ∧ BtF (m + ps.length * (n + 1)) (ps.foldl plusZ p) ∧ qv (ps.foldl plusZ p) = qv p + (ps.map qv).sum
  | [], p, m, hp, bp, _ => ⟨hp, by simpa using bp, by simp [Rat.add_zero]⟩
  | q :: ps, p, m, hp, bp, h => by
    obtain ⟨hq, bq⟩ := h q (by simp)
    obtain ⟨a, b, c⟩ := tot_go ps (plusZ p q) (m + n + 1) (can_plus hp hq).pos (btF_plus bp bq) fun r hr => h r (by simp [hr])
    rw [List.foldl_cons]
    refine ⟨a, b.mono (by rw [List.length_cons, Nat.succ_mul]; omega), ?_⟩
    rw [c, qv_plus hp hq, List.map_cons, List.sum_cons]
    grind
theorem tot_all {n : Nat} {ps : List Fr} (h : ∀ q ∈ ps, 0 < q.2 ∧ BtF n q) : 0 < (totZ ps).2 ∧ BtF (1 + ps.length * (n + 1)) (totZ ps) ∧ qv (totZ ps) = (ps.map qv).sum := by
  obtain ⟨a, b, c⟩ := tot_go ps (0, 1) 1 (by decide) ⟨by unfold Bt; decide, by unfold Bt; decide⟩ h
  refine ⟨a, b, ?_⟩
  have : qv (0, 1) = 0 := by unfold qv; grind
  unfold totZ
  rw [c, this, Rat.zero_add]
theorem can_tot {ps : List Fr} (h : ∀ q ∈ ps, 0 < q.2) : Can (totZ ps) := by
  have go : ∀ (ps : List Fr) (p : Fr), Can p → (∀ q ∈ ps, 0 < q.2) → Can (ps.foldl plusZ p) := by
    intro ps
    induction ps with
    | nil => exact fun p hp _ => hp
    | cons q ps ih => exact fun p hp h => ih _ (can_plus hp.pos (h q (by simp))) fun r hr => h r (by simp [hr])
  exact go ps (0, 1) ⟨by decide, by decide⟩ h
def totB (init : M AV) (g : Fn) : Sm := gSeq (gSet 1 init)
 (gSeq (gFor (gSeqI (gVar 0)) (tgN 2) (gSeq (gSet 1 (gFn g 2 0 [0, 1] (lcons (gVar 1) (lcons (gVar 2) (Pv.ret []))) (Pv.ret [])))
 (Pv.gNil)))
 (gSeq (gRet (mVar 1))
 (Pv.gNil)))
def Init (i : M AV) : Prop := ∀ (δ : En) (P : AV → En → Prop), P (.fz (frD (0, 1))) δ → Ep i δ P
theorem tot_ok {g : Fn} {init : M AV} (hi : Init init) (hg : Fop g plusZ) {ps : List Fr} {n : Nat} {v : PyData} (hv : seqD v = some (ps.map frD)) (h : ∀ q ∈ ps, 0 < q.2 ∧ BtF n q) (hn : 1 + ps.length * (n + 1) ≤ 3999) :
    defF 3 1 false (totB init g) [.fz v] = some (.fz (frD (totZ ps)), []) := by
  refine cp_eq ?_
  unfold totB
  refine c_def rfl ?_
  refine u_seq (u_set (hi _ _ ?_))
  refine t_nx (u_seq ?_)
  refine sp_for (fun xs δ => ∃ (qs : List Fr) (p : Fr) (m : Nat) (c : Option AV), xs = qs.map frD ∧ δ = [some (.fz v), some (.fz (frD p)), c] ∧ 0 < p.2 ∧ BtF m p ∧ m + qs.length * (n + 1) ≤ 3999 ∧ (∀ q ∈ qs, 0 < q.2 ∧ BtF n q) ∧ qs.foldl plusZ p = totZ ps) ?_
  repeat walk_at "pv"
  refine kk hv ⟨⟨ps, (0, 1), 1, none, rfl, rfl, by decide, ⟨by unfold Bt; decide, by unfold Bt; decide⟩, hn, h, rfl⟩, ?_, ?_⟩
  · rintro x xs δ ⟨qs, p, m, c, he, rfl, hp, bp, hm, hq, hf⟩
    cases qs with
    | nil => cases he
    | cons q qs =>
      have e1 : x = frD q := by have := congrArg List.head? he; simpa using this
      have e2 : xs = qs.map frD := by have := congrArg List.tail he; simpa using this
      subst e1 e2
      obtain ⟨hq0, bq⟩ := hq q (by simp)
      rw [List.length_cons, Nat.succ_mul] at hm
      refine ⟨_, rfl, ?_⟩
      repeat walk_at "pv"
      refine c_of (hg p q m n hp hq0 bp bq (by omega) (by omega)) ?_
      repeat walk_at "pv"
      exact ⟨qs, plusZ p q, m + n + 1, _, rfl, rfl, (can_plus hp hq0).pos, btF_plus bp bq, by omega, fun r hr => hq r (by simp [hr]), hf⟩
  · rintro δ ⟨qs, p, m, c, he, rfl, hp, bp, hm, hq, hf⟩
    cases qs with
    | nil =>
      repeat walk_at "pv"
      rw [← hf]
      exact ⟨rfl, rfl⟩
    | cons q qs => cases he
end Pv

namespace Pv
open PySem PySem.Spec L2
open PyProof.Rows hiding St
/-! PvT: how long a text is, greater numbers -/
mutual
def nic2 : PyData → Bool
  | .int i => decide (i.natAbs.log2 < 1900)
  | .str x => decide ((reprText x).length ≤ 250)
  | .list xs => nic2L xs
  | .tuple xs => nic2L xs
  | .dict _ => false
  | .none => true
  | .bool _ => true
def nic2L : List PyData → Bool
  | [] => true
  | x :: xs => nic2 x && nic2L xs
end
mutual
def wt2 : PyData → Nat
  | .list xs => wt2L xs + 4
  | .tuple xs => wt2L xs + 4
  | .int _ => 2000
  | _ => 300
def wt2L : List PyData → Nat
  | [] => 0
  | x :: xs => wt2 x + 2 + wt2L xs
end
theorem nic2_bt {n : Nat} {i : Int} (h : Bt n i) (hn : n ≤ 1899) : nic2 (.int i) = true := decide_eq_true (Nat.lt_of_le_of_lt (bt_log h) (by omega))
mutual
theorem shown2_le : ∀ d : PyData, nic2 d = true → d.shown.length ≤ wt2 d ∧ d.showable = true ∧ noDct d = true
  | .none, _ => ⟨by decide, rfl, rfl⟩
  | .bool b, _ => by cases b <;> exact ⟨by decide, rfl, rfl⟩
  | .int i, h => by
    have hl := of_decide_eq_true (show decide (i.natAbs.log2 < 1900) = true from h)
    refine ⟨?_, decide_eq_true (Nat.lt_trans hl (by decide)), rfl⟩
    have := int_text_length_le (by decide) hl
    show (Str.ofString (toString i)).length ≤ 2000
    rw [PySem.ofString_length]
    omega
  | .str x, h => by
    have h := of_decide_eq_true (show decide ((reprText x).length ≤ 250) = true from h)
    exact ⟨Nat.le_trans h (by show 250 ≤ 300; decide), rfl, rfl⟩
  | .list xs, h => by
    obtain ⟨a, b, c⟩ := shown2L_le xs h
    refine ⟨?_, b, c⟩
    show (textFrom 0 "[" (PyData.shownAll xs) ++ ("]" : String)).length ≤ wt2L xs + 4
    rw [strLen_append]
    have := textFrom_le (PyData.shownAll xs) 0 "["
    have e1 : (("[" : String) : Str).length = 1 := rfl
    have e2 : (("]" : String) : Str).length = 1 := rfl
    omega
  | .tuple xs, h => by
    obtain ⟨a, b, c⟩ := shown2L_le xs h
    refine ⟨?_, b, c⟩
    show (("(" : Str) ++ Str.join ", " (PyData.shownAll xs) ++ (if (PyData.shownAll xs).length == 1 then ",)" else ")" : String)).length ≤ wt2L xs + 4
    rw [strLen_append, strLen_append]
    have := join_le (PyData.shownAll xs)
    have e1 : (("(" : String) : Str).length = 1 := rfl
    have e2 : ((",)" : String) : Str).length = 2 := rfl
    have e3 : ((")" : String) : Str).length = 1 := rfl
    split <;> omega
  | .dict _, h => by cases h
theorem shown2L_le : ∀ d : List PyData, nic2L d = true → ((PyData.shownAll d).map fun t => t.length + 2).sum ≤ wt2L d ∧ PyData.showableAll d = true ∧ noDcts d = true
  | [], _ => ⟨Nat.le_refl _, rfl, rfl⟩
  | x :: xs, h => by
    have h2 := Bool.and_eq_true_iff.mp (show (nic2 x && nic2L xs) = true from h)
    obtain ⟨a, b, c⟩ := shown2_le x h2.1
    obtain ⟨a2, b2, c2⟩ := shown2L_le xs h2.2
    refine ⟨?_, ?_, ?_⟩
    · show ((x.shown :: PyData.shownAll xs).map fun t => t.length + 2).sum ≤ wt2 x + 2 + wt2L xs
      rw [List.map_cons, List.sum_cons]
      omega
    · show (x.showable && PyData.showableAll xs) = true
      rw [b, b2]; rfl
    · show (noDct x && noDcts xs) = true
      rw [c, c2]; rfl
end
theorem q_repr2 {d : PyData} (h : nic2 d = true) (hd : d.depth ≤ 60) (hw : wt2 d ≤ 1000000) : reprD [d] = some (.fz (.str d.shown)) := by
  obtain ⟨a, b, c⟩ := shown2_le d h
  have : reprOk d = true := by
    unfold reprOk
    rw [c, b, decide_eq_true hd, decide_eq_true (show d.shown.length ≤ lim from Nat.le_trans a hw)]
    rfl
  unfold reprD
  exact if_pos this
end Pv

namespace Pv
open PySem PySem.Spec L2
open PyProof.Rows hiding St
local macro_rules | `(tactic| walk_at "pvq") => `(tactic| first
  | with_reducible exact q_add | with_reducible exact q_sub | with_reducible exact q_int | with_reducible exact q_abs | with_reducible exact q_lt | with_reducible exact q_le | with_reducible exact q_gt | with_reducible exact q_ge
  | with_reducible exact q_eq | with_reducible exact q_ne | with_reducible exact q_eqs | with_reducible exact q_nes | exact q_pow18 | exact q_pow20 | exact q_pow25
  | ((with_reducible refine q_mod ?_); first | assumption | omega) | ((with_reducible refine q_div ?_ ?_) <;> omega) | ((with_reducible refine q_mul ?_ ?_) <;> omega) | ((with_reducible refine q_dm ?_ ?_) <;> omega) | rfl)
local macro_rules | `(tactic| walk_at "pv") => `(tactic| first
  | with_reducible refine e_ret ?_ | with_reducible refine e_dOf ?_ | with_reducible refine e_aOf ?_ | ((with_reducible apply e_var); rfl) | ((with_reducible apply e_mv); rfl)
  | with_reducible refine e_lcons ?_ | with_reducible refine e_acons ?_ | with_reducible refine e_bin ?_ | with_reducible refine e_cmp ?_ | with_reducible refine e_call ?_
  | (with_reducible refine kk avd_fz ?_) | (with_reducible refine kk avd_ow ?_) | (with_reducible refine kk avd_ow0 ?_) | ((with_reducible apply e_ix); rfl) | ((with_reducible apply e_len); rfl; rfl)
  | with_reducible refine e_tB ?_ | with_reducible refine e_and ?_ | with_reducible refine e_or ?_ | with_reducible refine e_not ?_ | with_reducible refine e_if ?_ | with_reducible refine e_andV ?_ | with_reducible refine e_orV ?_ | with_reducible refine e_notV ?_
  | with_reducible refine e_bl ?_ | with_reducible refine e_chn ?_ | with_reducible refine e_neg ?_ | with_reducible refine e_isi ?_ | with_reducible refine e_isi2 ?_ | with_reducible refine e_tup ?_ | with_reducible refine e_lst ?_
  | with_reducible refine e_seqI ?_ | with_reducible refine e_rng1 ?_ | with_reducible refine e_rng2 ?_ | with_reducible refine e_part ?_ | with_reducible refine e_sl ?_ | with_reducible refine e_rev ?_ | with_reducible refine e_zip ?_
  | with_reducible refine e_fn ?_ | ((with_reducible apply e_fnP); rfl) | with_reducible refine e_fnT ?_ | ((with_reducible apply e_fnS); rfl) | with_reducible refine e_appT ?_
  | with_reducible refine t_nx ?_ | with_reducible refine t_rt ?_ | with_reducible refine t_bk ?_ | with_reducible refine t_ct ?_ | with_reducible refine u_nil ?_ | with_reducible refine u_seq ?_ | with_reducible refine u_ret ?_ | with_reducible refine u_retN ?_
  | with_reducible refine u_brk ?_ | with_reducible refine u_cnt ?_ | with_reducible refine u_drop ?_ | with_reducible refine u_if ?_ | with_reducible refine u_set ?_ | with_reducible refine u_par ?_ | ((with_reducible apply u_app); rfl)
  | with_reducible refine u_unp ?_ | with_reducible refine u_putIx ?_ | with_reducible refine u_unpIx ?_ | ((with_reducible apply n_rt); rfl) | ((with_reducible apply n_nx); rfl) | ((with_reducible refine c_def ?_ ?_); rfl)
  | ((with_reducible refine br_t ?_ ?_); first | rfl | (simp only [Bool.not_eq_true', Bool.not_eq_false', decide_eq_true_eq, decide_eq_false_iff_not]; first | assumption | omega)) | ((with_reducible refine br_f ?_ ?_); first | rfl | (simp only [Bool.not_eq_true', Bool.not_eq_false', decide_eq_true_eq, decide_eq_false_iff_not]; first | assumption | omega))
  | ((with_reducible apply kk); walk_at "pvq") | ((with_reducible refine And.intro (And.intro ?_ ?_) ?_); rfl; rfl) | ((with_reducible refine And.intro ?_ ?_); first | rfl | (simp only [List.length_cons, List.length_nil]; decide)) | with_reducible rfl)
/-! Pp: the other way a pot begins -/
def potTail (m1 a3 a4 a5 m2 : Int) : Sm := gSeq (gRet (gLstE (lcons (dOf (gCall max2D (lcons (Pv.ret (.int 0)) (lcons (dOf (gBin subD (gVar 2) (dOf (gBin powD (Pv.ret (.int 10)) (Pv.ret (.int 18)))))) (Pv.ret []))))) (lcons (dOf (gBin addD (dOf (gBin modD (dOf (gCall intD (lcons (dOf (gBin addD (dOf (gBin addD (dOf (gBin mulD (dOf (gBin modD (dOf (gCall intD (lcons (gVar 2) (Pv.ret [])))) (Pv.ret (.int m1)))) (Pv.ret (.int a3)))) (dOf (gBin mulD (Pv.ret (.int a4)) (gVar 1))))) (Pv.ret (.int a5)))) (Pv.ret [])))) (Pv.ret (.int m2)))) (Pv.ret (.int 1)))) (Pv.ret [])))))
 (Pv.gNil)
def potB2 (a1 a2 m1 a3 a4 a5 m2 : Int) : Sm := gSeq (gSet 2 (gBin addD (dOf (gBin mulD (Pv.ret (.int a1)) (gVar 1))) (Pv.ret (.int a2))))
 (gSeq (gIfS (gCmp ltI (gVar 1) (gLenV 0)) (gSeq (gSet 2 (gCall absD (lcons (gIxV 0 (gVar 1)) (Pv.ret []))))
 (Pv.gNil)) (Pv.gNil))
 (potTail m1 a3 a4 a5 m2))
theorem pot_ok2 {a1 a2 m1 a3 a4 a5 m2 : Int} (h1 : 0 ≤ a1 ∧ a1 < 2 ^ 31) (h2 : 0 ≤ a2 ∧ a2 < 2 ^ 31) (h3 : 0 ≤ a3 ∧ a3 < 2 ^ 31) (h4 : 0 ≤ a4 ∧ a4 < 2 ^ 31) (h5 : 0 ≤ a5 ∧ a5 < 2 ^ 31) (hm1 : 0 < m1 ∧ m1 < 2 ^ 31) (hm2 : 0 < m2 ∧ m2 < 2 ^ 31) : Pots (defF 3 2 false (potB2 a1 a2 m1 a3 a4 a5 m2)) := by
  intro ns k hk0 hk
  have fin : ∀ c : Int, Sp (potTail m1 a3 a4 a5 m2) [some (.sc ns), some (.fz (.int k)), some (.fz (.int c))] (endF false fun r o => o = [] ∧ PotOk r) := by
    intro c
    unfold potTail
    have b0 : 0 ≤ c % m1 := Int.emod_nonneg _ (by omega)
    have b1 : c % m1 < m1 := Int.emod_lt_of_pos _ hm1.1
    repeat walk_at "pv"
    have e1 := Int.emod_nonneg (c % m1 * a3 + a4 * k + a5) (show m2 ≠ 0 by omega)
    have e2 := Int.emod_lt_of_pos (c % m1 * a3 + a4 * k + a5) hm2.1
    refine ⟨_, _, rfl, ?_, by omega, by omega⟩
    show 0 ≤ (if c - 1000000000000000000 > 0 then c - 1000000000000000000 else 0)
    split <;> omega
  unfold potB2
  by_cases hl : k < ns.length
  · obtain ⟨z, _, hz⟩ := atI_pos hk0 hl
    repeat walk_at "pv"
    refine kk (d := PyData.int z) (by show (atI ns k).map _ = _; rw [hz]; rfl) ?_
    repeat (first | exact fin _ | walk_at "pv")
  · repeat (first | exact fin _ | walk_at "pv")
end Pv

namespace Pv
open PySem PySem.Spec L2
open PyProof.Rows hiding St
/-! Tv: typed values behind the pure parts -/
abbrev eI : Int → PyData := .int
abbrev eB : Bool → PyData := .bool
abbrev eS : Str → PyData := .str
abbrev eN : Unit → PyData := fun _ => .none
abbrev eA : PyData → PyData := fun d => d
section
variable {α β γ ε : Type}
abbrev eT0 : Unit → PyData := fun _ => .tuple []
abbrev eT1 (a : α → PyData) : α → PyData := fun p => .tuple [a p]
abbrev eT2 (a : α → PyData) (b : β → PyData) : α × β → PyData := fun p => .tuple [a p.1, b p.2]
abbrev eT3 (a : α → PyData) (b : β → PyData) (c : γ → PyData) : α × β × γ → PyData := fun p => .tuple [a p.1, b p.2.1, c p.2.2]
abbrev eT4 (a : α → PyData) (b : β → PyData) (c : γ → PyData) (d : ε → PyData) : α × β × γ × ε → PyData := fun p => .tuple [a p.1, b p.2.1, c p.2.2.1, d p.2.2.2]
abbrev eL (e : α → PyData) : List α → PyData := fun xs => .list (xs.map e)
abbrev eV (e : α → PyData) : List α → PyData := fun xs => .tuple (xs.map e)
def eQ (k : Bool) (e : α → PyData) (xs : List α) : PyData := match k with
  | false => .list (xs.map e)
  | true => .tuple (xs.map e)
def eO (e : α → PyData) : Option α → PyData
  | none => .none
  | some x => e x
/-! ### partial steps, typed -/
def gd (c : Prop) [Decidable c] (x : α) : Option α := if c then some x else none
theorem bnd' {x : Option α} {f : α → Option β} {b : β} (h : x.bind f = some b) : ∃ a, x = some a ∧ f a = some b := by
  cases x with
  | none => cases h
  | some a => exact ⟨a, rfl, h⟩
theorem bp {x : α} {f : α → Option β} {r : Option β} (h : (some x).bind f = r) : f x = r := h
theorem ite_t {c : Bool} {a b : α} {r : α} (h : (if c = true then a else b) = r) (hc : c = true) : a = r := by rw [if_pos hc] at h; exact h
theorem ite_f {c : Bool} {a b : α} {r : α} (h : (if c = true then a else b) = r) (hc : c = false) : b = r := by rw [if_neg (by rw [hc]; decide)] at h; exact h
theorem andT {c d : Bool} (h : c = true) : d = (c && d) := by rw [h]; rfl
theorem andF {c d : Bool} (h : c = false) : false = (c && d) := by rw [h]; rfl
theorem orT {c d : Bool} (h : c = true) : true = (c || d) := by rw [h]; rfl
theorem orF {c d : Bool} (h : c = false) : d = (c || d) := by rw [h]; rfl
theorem ifT {c : Bool} {a b : α} (h : c = true) : a = (if c = true then a else b) := by rw [if_pos h]
theorem ifF {c : Bool} {a b : α} (h : c = false) : b = (if c = true then a else b) := by rw [if_neg (by rw [h]; decide)]
theorem ll {xs : List α} (h : Nat.ble xs.length 30 = true) : xs.length ≤ lim := Nat.le_trans (Nat.le_of_ble_eq_true h) (by unfold lim; decide)
def catO (xs ys : List α) : Option (List α) := gd (xs.length + ys.length ≤ lim) (xs ++ ys)
def appO (xs : List α) (x : α) : Option (List α) := gd (xs.length < lim) (xs ++ [x])
def extO (xs ys : List α) : Option (List α) := gd (xs.length + ys.length < lim) (xs ++ ys)
def repO (xs : List α) (k : Int) : Option (List α) := gd (-1000 ≤ k ∧ k ≤ 1000 ∧ xs.length ≤ 1000) (List.replicate k.toNat xs).flatten
def putO (xs : List α) (i : Int) (x : α) : Option (List α) := (ixN xs.length i).map fun j => xs.set j x
def rngI (lo : Int) : Nat → List Int
  | 0 => []
  | n + 1 => lo :: rngI (lo + 1) n
def rng1O (j : Int) : Option (List Int) := gd (-1000000 ≤ j ∧ j ≤ 1000000) (rngI 0 j.toNat)
def rng2O (i j : Int) : Option (List Int) := gd ((-1000000 ≤ i ∧ i ≤ 1000000) ∧ -1000000 ≤ j ∧ j ≤ 1000000) (rngI i (j - i).toNat)
def enumI (i : Int) : List α → List (Int × α)
  | [] => []
  | x :: xs => (i, x) :: enumI (i + 1) xs
def sortO (xs : List Int) : Option (List Int) := gd (xs.length < 64) (sortI xs)
def reprO (d : PyData) : Option Str := gd (reprOk d = true) d.shown
def dmO (i j : Int) : Option (Int × Int) := gd (0 < j ∧ j < 1073741824) (i / j, i % j)
/-- map, each partly -/
def mpG (f : α → Option β) : List α → Option (List β)
  | [] => some []
  | x :: xs => (f x).bind fun y => (mpG f xs).bind fun ys => some (y :: ys)
def mpO (f : α → Option β) (xs : List α) : Option (List β) := if xs.length ≤ lim then mpG f xs else none
def lcG (c : α → Option Bool) (f : α → Option β) : List α → Option (List β)
  | [] => some []
  | x :: xs => (c x).bind fun b => if b = true then (f x).bind fun y => (lcG c f xs).bind fun ys => some (y :: ys) else lcG c f xs
def lcO (c : α → Option Bool) (f : α → Option β) (xs : List α) : Option (List β) := if xs.length ≤ lim then lcG c f xs else none
/-- a comprehension with a state -/
def mpsG {σ : Type} (f : σ → α → Option (β × σ)) : List α → σ → Option (List β × σ)
  | [], s => some ([], s)
  | x :: xs, s => (f s x).bind fun p => (mpsG f xs p.2).bind fun q => some (p.1 :: q.1, q.2)
def mpsO {σ : Type} (f : σ → α → Option (β × σ)) (xs : List α) (s : σ) : Option (List β × σ) := if xs.length ≤ lim then mpsG f xs s else none
def lcsG {σ : Type} (c : σ → α → Option (Bool × σ)) (f : σ → α → Option (β × σ)) : List α → σ → Option (List β × σ)
  | [], s => some ([], s)
  | x :: xs, s => (c s x).bind fun b => if b.1 = true then (f b.2 x).bind fun p => (lcsG c f xs p.2).bind fun q => some (p.1 :: q.1, q.2) else lcsG c f xs b.2
def lcsO {σ : Type} (c : σ → α → Option (Bool × σ)) (f : σ → α → Option (β × σ)) (xs : List α) (s : σ) : Option (List β × σ) := if xs.length ≤ lim then lcsG c f xs s else none
/-- loops -/
def forO {σ : Type} (f : σ → α → Option σ) : List α → σ → Option σ
  | [], s => some s
  | x :: xs, s => (f s x).bind fun s' => forO f xs s'
inductive Lp (σ ρ : Type) where
  | go (s : σ)
  | brk (s : σ)
  | ret (r : ρ)
def forR {σ ρ : Type} (f : σ → α → Option (Lp σ ρ)) : List α → σ → Option (Lp σ ρ)
  | [], s => some (.go s)
  | x :: xs, s => (f s x).bind fun
    | .go s' => forR f xs s'
    | .brk s' => some (.go s')
    | .ret r => some (.ret r)
def whlR {σ ρ : Type} (c : σ → Option Bool) (f : σ → Option (Lp σ ρ)) : Nat → σ → Option (Lp σ ρ)
  | 0, _ => none
  | n + 1, s => (c s).bind fun b => if b = true then (f s).bind fun
      | .go s' => whlR c f n s'
      | .brk s' => some (.go s')
      | .ret r => some (.ret r) else some (.go s)
end
/-! ### what operations answer -/
section
variable {α β γ : Type} {e : α → PyData} {e' : β → PyData}
theorem gd_some {c : Prop} [Decidable c] {x y : α} (h : gd c x = some y) : c ∧ x = y := by
  unfold gd at h
  split at h
  · next hc => cases h; exact ⟨hc, rfl⟩
  · cases h
theorem fzs_map {xs : List α} : fzs (xs.map e) = xs.map fun x => .fz (e x) := by unfold fzs; rw [List.map_map]; rfl
theorem fzs_len {xs : List PyData} : (fzs xs).length = xs.length := by unfold fzs; rw [List.length_map]
theorem lenV_L {xs : List α} : lenV (.fz (.list (xs.map e))) = some (.int (xs.length : Int)) := by show some (PyData.int ((xs.map e).length : Int)) = _; rw [List.length_map]
theorem lenV_V {xs : List α} : lenV (.fz (.tuple (xs.map e))) = some (.int (xs.length : Int)) := by show some (PyData.int ((xs.map e).length : Int)) = _; rw [List.length_map]
theorem lenV_O {xs : List α} : lenV (.ow (fzs (xs.map e))) = some (.int (xs.length : Int)) := by show some (PyData.int ((fzs (xs.map e)).length : Int)) = _; rw [fzs_len, List.length_map]
theorem lenV_Q {k : Bool} {xs : List α} : lenV (.fz (eQ k e xs)) = some (.int (xs.length : Int)) := by cases k <;> first | exact lenV_L | exact lenV_V
theorem dats_len : ∀ {xs : List AV}, (AV.ds xs).length = xs.length
  | [] => rfl
  | x :: xs => by show (AV.d x :: AV.ds xs).length = _; rw [List.length_cons, List.length_cons, dats_len]
theorem lenV_A {a : AV} {xs : List α} (h : AvD a (.list (xs.map e))) : lenV a = some (.int (xs.length : Int)) := by
  obtain ⟨h1, h2⟩ := h
  cases a with
  | fz d => have : d = .list (xs.map e) := h2; rw [this]; exact lenV_L
  | ow ys =>
    have h3 : AV.ds ys = xs.map e := by have : PyData.list (AV.ds ys) = .list (xs.map e) := h2; exact PyData.list.inj this
    show some (PyData.int (ys.length : Int)) = _
    rw [← dats_len, h3, List.length_map]
  | sc ns => cases h1
  | odT _ => cases h1
  | odK _ => cases h1
theorem lenD_L {xs : List α} : lenD [.list (xs.map e)] = some (.fz (.int (xs.length : Int))) := by show some (AV.fz (.int ((xs.map e).length : Int))) = _; rw [List.length_map]
theorem lenD_V {xs : List α} : lenD [.tuple (xs.map e)] = some (.fz (.int (xs.length : Int))) := by show some (AV.fz (.int ((xs.map e).length : Int))) = _; rw [List.length_map]
theorem lenD_Q {k : Bool} {xs : List α} : lenD [eQ k e xs] = some (.fz (.int (xs.length : Int))) := by cases k <;> first | exact lenD_L | exact lenD_V
theorem atI_mapS {xs : List α} {i : Int} {x : α} (h : atI xs i = some x) : atI (xs.map e) i = some (e x) := by rw [atI_map, h]; rfl
theorem ixV_L {xs : List α} {i : Int} {x : α} (h : atI xs i = some x) : ixV (.fz (.list (xs.map e))) (.int i) = some (e x) := atI_mapS h
theorem ixV_V {xs : List α} {i : Int} {x : α} (h : atI xs i = some x) : ixV (.fz (.tuple (xs.map e))) (.int i) = some (e x) := atI_mapS h
theorem ixV_Q {k : Bool} {xs : List α} {i : Int} {x : α} (h : atI xs i = some x) : ixV (.fz (eQ k e xs)) (.int i) = some (e x) := by cases k <;> first | exact ixV_L h | exact ixV_V h
theorem ixV_O {xs : List α} {i : Int} {x : α} (h : atI xs i = some x) : ixV (.ow (fzs (xs.map e))) (.int i) = some (e x) := by
  show (match atI (fzs (xs.map e)) i with | some (.fz d) => some d | _ => none) = _
  rw [fzs_map, atI_map, h]; rfl
theorem ixD_L {xs : List α} {i : Int} {x : α} (h : atI xs i = some x) : ixD (.list (xs.map e)) (.int i) = some (.fz (e x)) := by show (atI (xs.map e) i).map _ = _; rw [atI_mapS h]; rfl
theorem ixD_V {xs : List α} {i : Int} {x : α} (h : atI xs i = some x) : ixD (.tuple (xs.map e)) (.int i) = some (.fz (e x)) := by show (atI (xs.map e) i).map _ = _; rw [atI_mapS h]; rfl
theorem ixD_Q {k : Bool} {xs : List α} {i : Int} {x : α} (h : atI xs i = some x) : ixD (eQ k e xs) (.int i) = some (.fz (e x)) := by cases k <;> first | exact ixD_L h | exact ixD_V h
theorem seq_Q {k : Bool} {xs : List α} : seqD (eQ k e xs) = some (xs.map e) := by cases k <;> rfl
theorem mulO_ok {i j z : Int} (h : mulI i j = some z) : mulD (.int i) (.int j) = some (.fz (.int z)) := by show (mulI i j).map _ = _; rw [h]; rfl
theorem divO_ok {i j z : Int} (h : divI i j = some z) : divD (.int i) (.int j) = some (.fz (.int z)) := by show (divI i j).map _ = _; rw [h]; rfl
theorem modO_ok {i j z : Int} (h : modI i j = some z) : modD (.int i) (.int j) = some (.fz (.int z)) := by show (modI i j).map _ = _; rw [h]; rfl
theorem powO_ok {i j z : Int} (h : powI i j = some z) : powD (.int i) (.int j) = some (.fz (.int z)) := by show (powI i j).map _ = _; rw [h]; rfl
theorem addL_ok {xs ys zs : List α} (h : catO xs ys = some zs) : addD (.list (xs.map e)) (.list (ys.map e)) = some (.ow (fzs (zs.map e))) := by
  obtain ⟨h1, rfl⟩ := gd_some h
  show (if (xs.map e).length + (ys.map e).length ≤ lim then some (AV.ow (fzs (xs.map e ++ ys.map e))) else none) = _
  rw [List.length_map, List.length_map, if_pos h1, List.map_append]
theorem addV_ok {xs ys zs : List α} (h : catO xs ys = some zs) : addD (.tuple (xs.map e)) (.tuple (ys.map e)) = some (.fz (.tuple (zs.map e))) := by
  obtain ⟨h1, rfl⟩ := gd_some h
  show (if (xs.map e).length + (ys.map e).length ≤ lim then some (AV.fz (.tuple (xs.map e ++ ys.map e))) else none) = _
  rw [List.length_map, List.length_map, if_pos h1, List.map_append]
theorem map_flatten_rep {xs : List α} : ∀ n : Nat, (List.replicate n (xs.map e)).flatten = (List.replicate n xs).flatten.map e
  | 0 => rfl
  | n + 1 => by rw [List.replicate_succ, List.replicate_succ, List.flatten_cons, List.flatten_cons, List.map_append, map_flatten_rep n]
theorem repL_ok {xs ys : List α} {k : Int} (h : repO xs k = some ys) : mulD (.list (xs.map e)) (.int k) = some (.ow (fzs (ys.map e))) := by
  obtain ⟨h1, rfl⟩ := gd_some h
  show (if -1000 ≤ k ∧ k ≤ 1000 ∧ (xs.map e).length ≤ 1000 then some (AV.ow (fzs (List.replicate k.toNat (xs.map e)).flatten)) else none) = _
  rw [List.length_map, if_pos h1, map_flatten_rep]
theorem cutG_map {xs : List α} {lo hi : Option Int} : cutG (xs.map e) lo hi = (cutG xs lo hi).map e := by unfold cutG; rw [List.length_map, List.map_take, List.map_drop]
theorem slL {xs : List α} {lo hi : Option Int} : slD (.list (xs.map e)) lo hi = some (.ow (fzs ((cutG xs lo hi).map e))) := by show some (AV.ow (fzs (cutG (xs.map e) lo hi))) = _; rw [cutG_map]
theorem slV {xs : List α} {lo hi : Option Int} : slD (.tuple (xs.map e)) lo hi = some (.fz (.tuple ((cutG xs lo hi).map e))) := by show some (AV.fz (.tuple (cutG (xs.map e) lo hi))) = _; rw [cutG_map]
theorem revL {xs : List α} : revD (.list (xs.map e)) = some (.ow (fzs (xs.reverse.map e))) := by show some (AV.ow (fzs (xs.map e).reverse)) = _; rw [List.map_reverse]
theorem revV {xs : List α} : revD (.tuple (xs.map e)) = some (.fz (.tuple (xs.reverse.map e))) := by show some (AV.fz (.tuple (xs.map e).reverse)) = _; rw [List.map_reverse]
theorem listL {xs : List α} : listD [.list (xs.map e)] = some (.ow (fzs (xs.map e))) := rfl
theorem listV {xs : List α} : listD [.tuple (xs.map e)] = some (.ow (fzs (xs.map e))) := rfl
theorem listQ {k : Bool} {xs : List α} : listD [eQ k e xs] = some (.ow (fzs (xs.map e))) := by cases k <;> rfl
theorem tupQ {k : Bool} {xs : List α} : tupleD [eQ k e xs] = some (.fz (.tuple (xs.map e))) := by cases k <;> rfl
theorem intsE : ∀ {xs : List Int}, intsOf (xs.map eI) = some xs
  | [] => rfl
  | x :: xs => by show (intsOf (xs.map eI)).map (x :: ·) = _; rw [intsE]; rfl
theorem blsE : ∀ {xs : List Bool}, blsOf (xs.map eB) = some xs
  | [] => rfl
  | x :: xs => by show (blsOf (xs.map eB)).map (x :: ·) = _; rw [blsE]; rfl
theorem sumE {xs : List Int} : sumD [.list (xs.map eI)] = some (.fz (.int xs.sum)) := by show (intsOf (xs.map eI)).map _ = _; rw [intsE]; rfl
theorem allE {xs : List Bool} : allD [.list (xs.map eB)] = some (.fz (.bool (xs.all id))) := by show (blsOf (xs.map eB)).map _ = _; rw [blsE]; rfl
theorem anyE {xs : List Bool} : anyD [.list (xs.map eB)] = some (.fz (.bool (xs.any id))) := by show (blsOf (xs.map eB)).map _ = _; rw [blsE]; rfl
theorem maxE {xs : List Int} {m : Int} (h : maxI xs = some m) : max1D [.list (xs.map eI)] = some (.fz (.int m)) := by show (intsOf (xs.map eI)).bind _ = _; rw [intsE]; show (maxI xs).map _ = _; rw [h]; rfl
theorem minE {xs : List Int} {m : Int} (h : minI xs = some m) : min1D [.list (xs.map eI)] = some (.fz (.int m)) := by show (intsOf (xs.map eI)).bind _ = _; rw [intsE]; show (minI xs).map _ = _; rw [h]; rfl
theorem sortL {xs ys : List Int} (h : sortO xs = some ys) : sortedD2 [.list (xs.map eI)] = some (.ow (fzs (ys.map eI))) := by
  obtain ⟨h1, rfl⟩ := gd_some h
  show (if (xs.map eI).length < 64 then (intsOf (xs.map eI)).map _ else none) = _
  rw [List.length_map, if_pos h1, intsE]; rfl
theorem sortV {xs ys : List Int} (h : sortO xs = some ys) : sortedD2 [.tuple (xs.map eI)] = some (.ow (fzs (ys.map eI))) := by
  obtain ⟨h1, rfl⟩ := gd_some h
  show (if (xs.map eI).length < 64 then (intsOf (xs.map eI)).map _ else none) = _
  rw [List.length_map, if_pos h1, intsE]; rfl
theorem sortQ {k : Bool} {xs ys : List Int} (h : sortO xs = some ys) : sortedD2 [eQ k eI xs] = some (.ow (fzs (ys.map eI))) := by cases k; exact sortL h; exact sortV h
theorem reprE {d : PyData} {s : Str} (h : reprO d = some s) : reprD [d] = some (.fz (.str s)) := by
  obtain ⟨h1, rfl⟩ := gd_some h
  exact if_pos h1
theorem dmE {i j : Int} {p : Int × Int} (h : dmO i j = some p) : divmodD [.int i, .int j] = some (.fz (.tuple [.int p.1, .int p.2])) := by
  obtain ⟨h1, rfl⟩ := gd_some h
  exact if_pos h1
theorem rngE : ∀ {n : Nat} {lo : Int}, rngL lo n = (rngI lo n).map eI
  | 0, _ => rfl
  | n + 1, lo => by show PyData.int lo :: rngL (lo + 1) n = eI lo :: _; rw [rngE]
theorem rng1E {j : Int} {xs : List Int} (h : rng1O j = some xs) : rng1 (.int j) = some (xs.map eI) := by
  obtain ⟨h1, rfl⟩ := gd_some h
  show (if _ then some (rngL 0 j.toNat) else none) = _
  rw [if_pos h1, rngE]
theorem rng2E {i j : Int} {xs : List Int} (h : rng2O i j = some xs) : rng2 (.int i) (.int j) = some (xs.map eI) := by
  obtain ⟨h1, rfl⟩ := gd_some h
  show (if _ then some (rngL i (j - i).toNat) else none) = _
  rw [if_pos h1, rngE]
theorem zipE : ∀ {xs : List α} {ys : List β}, zipD (xs.map e) (ys.map e') = (xs.zip ys).map (eT2 e e')
  | [], _ => rfl
  | _ :: _, [] => rfl
  | x :: xs, y :: ys => by show PyData.tuple [e x, e' y] :: zipD (xs.map e) (ys.map e') = _; rw [zipE]; rfl
theorem zip3E {e3 : γ → PyData} : ∀ {xs : List α} {ys : List β} {zs : List γ}, zip3D (xs.map e) (ys.map e') (zs.map e3) = (xs.zip (ys.zip zs)).map (eT3 e e' e3)
  | [], _, _ => by simp [zip3D]
  | _ :: _, [], _ => by simp [zip3D]
  | _ :: _, _ :: _, [] => by simp [zip3D]
  | x :: xs, y :: ys, z :: zs => by show PyData.tuple [e x, e' y, e3 z] :: zip3D (xs.map e) (ys.map e') (zs.map e3) = _; rw [zip3E]; rfl
theorem enumE : ∀ {xs : List α} {i : Int}, enumD i (xs.map e) = (enumI i xs).map (eT2 eI e)
  | [], _ => rfl
  | x :: xs, i => by show PyData.tuple [.int i, e x] :: enumD (i + 1) (xs.map e) = _; rw [enumE]; rfl
theorem isN {x : Option α} (h : ∀ a, isNon (e a) = false) : isD (eO e x) .none = some x.isNone := by
  cases x with
  | none => rfl
  | some a => show some (isNon (e a)) = _; rw [h]; rfl
theorem isnN {x : Option α} (h : ∀ a, isNon (e a) = false) : isntD (eO e x) .none = some x.isSome := by
  show (isD (eO e x) .none).map not = _
  rw [isN h]
  cases x <;> rfl
/-- equal values are equal things -/
structure EqE [DecidableEq α] (e : α → PyData) : Prop where
  cl : ∀ a, (e a).canLay0 = true
  dep : ∃ n, n ≤ 40 ∧ ∀ a, (e a).depth ≤ n
  ev : ∀ a b, PyData.eqv (e a) (e b) = decide (a = b)
  ns : ∀ a s, e a ≠ .str s
end
end Pv

namespace Pv
open PySem PySem.Spec L2
open PyProof.Rows hiding St
/-! Tv2: equal things; steps with typed values -/
section
variable {α β γ : Type} {e : α → PyData} {e' : β → PyData}
theorem eqvL : ∀ {xs ys : List PyData}, PyData.eqv (.list xs) (.list ys) = PyData.eqvAll xs ys := by intro xs ys; simp [PyData.eqv]
theorem eqI_ok : EqE eI := ⟨fun _ => by simp [PyData.canLay0], ⟨0, by decide, fun _ => by simp [PyData.depth]⟩, fun a b => by
    by_cases h : a = b
    · subst h; simp [PyData.eqv]
    · simp [PyData.eqv, h], fun _ _ h => by cases h⟩
theorem eqB_ok : EqE eB := ⟨fun _ => by simp [PyData.canLay0], ⟨0, by decide, fun _ => by simp [PyData.depth]⟩, fun a b => by
    cases a <;> cases b <;> rfl, fun _ _ h => by cases h⟩
variable [DecidableEq α] [DecidableEq β] [DecidableEq γ]
theorem dpA : ∀ {n : Nat} {xs : List PyData}, (∀ x ∈ xs, x.depth ≤ n) → PyData.depthAll xs ≤ n
  | n, [], _ => by simp [PyData.depthAll]
  | n, x :: xs, h => by
    have h1 := h x (by simp)
    have h2 := dpA (n := n) (xs := xs) fun y m => h y (by simp [m])
    simp only [PyData.depthAll]
    omega
theorem clA : ∀ {xs : List PyData}, (∀ x ∈ xs, x.canLay0 = true) → PyData.canLayAll0 xs = true
  | [], _ => by simp [PyData.canLayAll0]
  | x :: xs, h => by
    simp only [PyData.canLayAll0, h x (by simp), clA (xs := xs) fun y m => h y (by simp [m]), Bool.and_self]
theorem evA (h : EqE e) : ∀ {xs ys : List α}, PyData.eqvAll (xs.map e) (ys.map e) = decide (xs = ys)
  | [], [] => by simp [PyData.eqvAll]
  | [], _ :: _ => by simp [PyData.eqvAll]
  | _ :: _, [] => by simp [PyData.eqvAll]
  | x :: xs, y :: ys => by
    simp only [List.map_cons, PyData.eqvAll, h.ev, evA h]
    by_cases h1 : x = y <;> by_cases h2 : xs = ys <;> simp [h1, h2]
theorem EqE.depA (h : EqE e) : ∃ n, n ≤ 40 ∧ ∀ xs : List α, PyData.depthAll (xs.map e) ≤ n := by
  obtain ⟨n, h1, h2⟩ := h.dep
  exact ⟨n, h1, fun xs => dpA fun x m => by obtain ⟨a, _, rfl⟩ := List.mem_map.mp m; exact h2 a⟩
/-- depth is at most so much -/
structure Dp (n : Nat) (e : α → PyData) : Prop where
  le : ∀ a, (e a).depth ≤ n
theorem eqX_ok (h : EqE e) (a b : α) : eqX (e a) (e b) = some (decide (a = b)) := by
  have h1 : eqX (e a) (e b) = eqD (e a) (e b) := by
    unfold eqX
    split
    · next s t p q => exact absurd p (h.ns a s)
    · rfl
  obtain ⟨n, hn, hd⟩ := h.dep
  have s : ∀ a, SeqAt.shaped (e a) = true := fun a => by unfold SeqAt.shaped; rw [h.cl a]; exact decide_eq_true (Nat.le_trans (hd a) (by omega))
  rw [h1]
  unfold eqD
  rw [if_pos ⟨s a, s b⟩, h.ev]
theorem neX_ok (h : EqE e) (a b : α) : neX (e a) (e b) = some (!decide (a = b)) := by unfold neX; rw [eqX_ok h]; rfl
end
section
variable {α β γ : Type} {e : α → PyData} {e' : β → PyData} {e3 : γ → PyData} [DecidableEq α] [DecidableEq β] [DecidableEq γ]
theorem eqL_ok (h : EqE e) (hd : ∃ n, n ≤ 39 ∧ ∀ a, (e a).depth ≤ n := by exact ⟨_, Nat.le_of_ble_eq_true rfl, fun _ => Nat.le_of_ble_eq_true rfl⟩) : EqE (eL e) := by
  obtain ⟨n, h1, h2⟩ := hd
  refine ⟨fun xs => ?_, ⟨n + 1, by omega, fun xs => ?_⟩, fun xs ys => ?_, fun _ _ q => by cases q⟩
  · have := clA (xs := xs.map e) fun x m => by obtain ⟨a, _, rfl⟩ := List.mem_map.mp m; exact h.cl a
    simpa [PyData.canLay0] using this
  · have := dpA (n := n) (xs := xs.map e) fun x m => by obtain ⟨a, _, rfl⟩ := List.mem_map.mp m; exact h2 a
    simp only [PyData.depth]
    omega
  · show PyData.eqv (.list (xs.map e)) (.list (ys.map e)) = _
    rw [eqvL, evA h]
theorem eqV_ok (h : EqE e) (hd : ∃ n, n ≤ 39 ∧ ∀ a, (e a).depth ≤ n) : EqE (eV e) := by
  obtain ⟨n, h1, h2⟩ := hd
  refine ⟨fun xs => ?_, ⟨n + 1, by omega, fun xs => ?_⟩, fun xs ys => ?_, fun _ _ q => by cases q⟩
  · have := clA (xs := xs.map e) fun x m => by obtain ⟨a, _, rfl⟩ := List.mem_map.mp m; exact h.cl a
    simpa [PyData.canLay0] using this
  · have := dpA (n := n) (xs := xs.map e) fun x m => by obtain ⟨a, _, rfl⟩ := List.mem_map.mp m; exact h2 a
    simp only [PyData.depth]
    omega
  · show PyData.eqv (.tuple (xs.map e)) (.tuple (ys.map e)) = _
    rw [show PyData.eqv (.tuple (xs.map e)) (.tuple (ys.map e)) = PyData.eqvAll (xs.map e) (ys.map e) by simp [PyData.eqv], evA h]
/-- how deep -/
def DpE (e : α → PyData) (n : Nat) : Prop := ∀ a, (e a).depth ≤ n
theorem dpI : DpE eI 0 := fun _ => by simp [PyData.depth]
theorem dpB : DpE eB 0 := fun _ => by simp [PyData.depth]
theorem dpL {n : Nat} (h : DpE e n) : DpE (eL e) (n + 1) := fun xs => by
  have := dpA (n := n) (xs := xs.map e) fun x m => by obtain ⟨a, _, rfl⟩ := List.mem_map.mp m; exact h a
  simp only [PyData.depth]; omega
theorem dpV {n : Nat} (h : DpE e n) : DpE (eV e) (n + 1) := fun xs => by
  have := dpA (n := n) (xs := xs.map e) fun x m => by obtain ⟨a, _, rfl⟩ := List.mem_map.mp m; exact h a
  simp only [PyData.depth]; omega
theorem dp2 {n m : Nat} (h : DpE e n) (h' : DpE e' m) : DpE (eT2 e e') (max n m + 1) := fun p => by
  have := h p.1; have := h' p.2
  simp only [PyData.depth, PyData.depthAll]; omega
theorem dp3 {n m k : Nat} (h : DpE e n) (h' : DpE e' m) (h3 : DpE e3 k) : DpE (eT3 e e' e3) (max n (max m k) + 1) := fun p => by
  have := h p.1; have := h' p.2.1; have := h3 p.2.2
  simp only [PyData.depth, PyData.depthAll]; omega
theorem dpO {n : Nat} (h : DpE e n) : DpE (eO e) n := fun x => by
  cases x with
  | none => simp [eO, PyData.depth]
  | some a => exact h a
theorem dpx {n : Nat} (h : DpE e n) (hn : n ≤ 39) : ∃ n, n ≤ 39 ∧ ∀ a, (e a).depth ≤ n := ⟨n, hn, h⟩
theorem eq2_ok (h : EqE e) (h' : EqE e') (hd : ∃ n, n ≤ 39 ∧ ∀ a, (e a).depth ≤ n) (hd' : ∃ n, n ≤ 39 ∧ ∀ a, (e' a).depth ≤ n) : EqE (eT2 e e') := by
  obtain ⟨n, h1, h2⟩ := hd
  obtain ⟨m, h3, h4⟩ := hd'
  refine ⟨fun p => by simp [PyData.canLay0, PyData.canLayAll0, h.cl, h'.cl], ⟨40, by decide, fun p => ?_⟩, fun p q => ?_, fun _ _ q => by cases q⟩
  · have := h2 p.1; have := h4 p.2
    simp only [PyData.depth, PyData.depthAll]; omega
  · obtain ⟨a, b⟩ := p
    obtain ⟨c, d⟩ := q
    show PyData.eqv (.tuple [e a, e' b]) (.tuple [e c, e' d]) = _
    rw [show PyData.eqv (.tuple [e a, e' b]) (.tuple [e c, e' d]) = (PyData.eqv (e a) (e c) && PyData.eqv (e' b) (e' d)) by simp [PyData.eqv, PyData.eqvAll], h.ev, h'.ev]
    by_cases g1 : a = c <;> by_cases g2 : b = d <;> simp [g1, g2]
theorem eq3_ok (h : EqE e) (h' : EqE e') (h3 : EqE e3) (hd : ∃ n, n ≤ 39 ∧ ∀ a, (e a).depth ≤ n) (hd' : ∃ n, n ≤ 39 ∧ ∀ a, (e' a).depth ≤ n) (hd3 : ∃ n, n ≤ 39 ∧ ∀ a, (e3 a).depth ≤ n) : EqE (eT3 e e' e3) := by
  obtain ⟨n, q1, q2⟩ := hd
  obtain ⟨m, q3, q4⟩ := hd'
  obtain ⟨k, q5, q6⟩ := hd3
  refine ⟨fun p => by simp [PyData.canLay0, PyData.canLayAll0, h.cl, h'.cl, h3.cl], ⟨40, by decide, fun p => ?_⟩, fun p q => ?_, fun _ _ q => by cases q⟩
  · have := q2 p.1; have := q4 p.2.1; have := q6 p.2.2
    simp only [PyData.depth, PyData.depthAll]; omega
  · obtain ⟨a, b, c⟩ := p
    obtain ⟨a', b', c'⟩ := q
    show PyData.eqv (.tuple [e a, e' b, e3 c]) (.tuple [e a', e' b', e3 c']) = _
    rw [show PyData.eqv (.tuple [e a, e' b, e3 c]) (.tuple [e a', e' b', e3 c']) = (PyData.eqv (e a) (e a') && (PyData.eqv (e' b) (e' b') && PyData.eqv (e3 c) (e3 c'))) by simp [PyData.eqv, PyData.eqvAll], h.ev, h'.ev, h3.ev]
    by_cases g1 : a = a' <;> by_cases g2 : b = b' <;> by_cases g3 : c = c' <;> simp [g1, g2, g3]
/-- a value that is there is not None -/
theorem eqO_ok (h : EqE e) (hn : ∀ a, PyData.eqv .none (e a) = false ∧ PyData.eqv (e a) .none = false) : EqE (eO e) := by
  refine ⟨fun x => ?_, ?_, fun x y => ?_, fun x s q => ?_⟩
  · cases x with
    | none => simp [eO, PyData.canLay0]
    | some a => exact h.cl a
  · obtain ⟨n, h1, h2⟩ := h.dep
    refine ⟨n, h1, fun x => ?_⟩
    cases x with
    | none => simp [eO, PyData.depth]
    | some a => exact h2 a
  · cases x with
    | none =>
      cases y with
      | none => simp [eO, PyData.eqv]
      | some b => show PyData.eqv .none (e b) = _; rw [(hn b).1]; simp
    | some a =>
      cases y with
      | none => show PyData.eqv (e a) .none = _; rw [(hn a).2]; simp
      | some b =>
        show PyData.eqv (e a) (e b) = _
        rw [h.ev]
        by_cases g : a = b <;> simp [g]
  · cases x with
    | none => cases q
    | some a => exact h.ns a s q
end
/-! ### steps -/
section
variable {α β γ σ ρ : Type} {δ δ' : En} {f : M α} {i : Nat} {a : AV} {d : PyData} {Q : Fl → Prop}
theorem ep_eq {P : α → En → Prop} (V : α) {D : En} (h : Ep f δ fun a δ' => a = V ∧ δ' = D) (p : P V D) : Ep f δ P := h.mono fun a δ' ⟨h1, h2⟩ => by rw [h1, h2]; exact p
theorem ep_eqS {P : α → En → Prop} (V : α) (h : Ep f δ fun a δ' => a = V ∧ δ' = δ) (p : P V δ) : Ep f δ P := ep_eq V h p
theorem e_varN {P : PyData → En → Prop} (δ2 : En) (h : δ[i]? = some (some a)) (hd : AvD a d) (he : δ.set i (some (.fz d)) = δ2) (p : P d δ2) : Ep (gVar i) δ P := e_varO h hd (by rw [he]; exact p)
theorem t_nxN {g : Sm} (δ2 : En) (h : δ = δ2) (p : Sp g δ2 Q) : thenS g Q (.nx δ) := by rw [h]; exact p
theorem sp_normN {g : Sm} (δ2 : En) (h : δ = δ2) (p : Sp g δ2 Q) : Sp g δ Q := by rw [h]; exact p
theorem e_lstT {e : β → PyData} {xs : List β} {g : M (List PyData)} {P : AV → En → Prop} (hl : Nat.ble xs.length 30 = true) (h : Ep g δ fun x δ1 => x = xs.map e ∧ P (.ow (fzs (xs.map e))) δ1) : Ep (gLstE g) δ P :=
  e_lst (h.mono fun x δ1 ⟨h1, p⟩ => by subst h1; exact ⟨by rw [List.length_map]; exact ll hl, p⟩)
theorem e_tupT {e : β → PyData} {xs : List β} {g : M (List PyData)} {P : PyData → En → Prop} (hl : Nat.ble xs.length 30 = true) (h : Ep g δ fun x δ1 => x = xs.map e ∧ P (.tuple (xs.map e)) δ1) : Ep (gTupE g) δ P :=
  e_tup (h.mono fun x δ1 ⟨h1, p⟩ => by subst h1; exact ⟨by rw [List.length_map]; exact ll hl, p⟩)
theorem e_seqT {f : M PyData} {P : List PyData → En → Prop} (xs : List PyData) (h : Ep f δ fun x δ1 => seqD x = some xs ∧ P xs δ1) : Ep (gSeqI f) δ P := e_seqI (h.mono fun x δ1 ⟨h1, p⟩ => ⟨xs, h1, p⟩)
theorem e_zipT {e : β → PyData} {e' : γ → PyData} (xs : List β) (ys : List γ) {f g : M PyData} {P : List PyData → En → Prop}
    (h : Ep f δ fun x δ1 => seqD x = some (xs.map e) ∧ Ep g δ1 fun y δ2 => seqD y = some (ys.map e') ∧ P ((xs.zip ys).map (eT2 e e')) δ2) : Ep (gZip f g) δ P :=
  e_zip (h.mono fun x δ1 ⟨h1, h⟩ => h.mono fun y δ2 ⟨h2, p⟩ => ⟨_, h1, _, h2, by rw [zipE]; exact p⟩)
theorem e_zip3T {e : β → PyData} {e' : γ → PyData} {e3 : σ → PyData} (xs : List β) (ys : List γ) (zs : List σ) {f g k : M PyData} {P : List PyData → En → Prop}
    (h : Ep f δ fun x δ1 => seqD x = some (xs.map e) ∧ Ep g δ1 fun y δ2 => seqD y = some (ys.map e') ∧ Ep k δ2 fun z δ3 => seqD z = some (zs.map e3) ∧ P ((xs.zip (ys.zip zs)).map (eT3 e e' e3)) δ3) : Ep (gZip3 f g k) δ P := by
  obtain ⟨x, δ1, h1, hx, y, δ2, h2, hy, z, δ3, h3, hz, p⟩ := h
  refine ⟨_, δ3, ?_, p⟩
  unfold gZip3 bnd opt
  simp only [h1, h2, h3, hx, hy, hz, zip3E]
theorem e_enumT {e : β → PyData} (xs : List β) {f : M PyData} {P : List PyData → En → Prop}
    (h : Ep f δ fun x δ1 => x = .list (xs.map e) ∧ P ((enumI 0 xs).map (eT2 eI e)) δ1) : Ep (gEnum f) δ P := by
  obtain ⟨x, δ1, h1, rfl, p⟩ := h
  refine ⟨_, δ1, ?_, p⟩
  unfold gEnum bnd opt
  simp only [h1, enumE]
theorem u_appT {e : β → PyData} {xs ys : List β} {x : β} {f : M AV} {xs0 : List AV} (hv : appO xs x = some ys) (h0 : δ[i]? = some (some (.ow xs0)))
    (h : Ep f δ fun a δ1 => a = .fz (e x) ∧ δ1[i]? = some (some (.ow (fzs (xs.map e)))) ∧ Q (.nx (δ1.set i (some (.ow (fzs (ys.map e))))))) : Sp (gApp i f) δ Q := by
  obtain ⟨hl, rfl⟩ := gd_some hv
  refine u_app h0 (h.mono fun a δ1 ⟨h1, h2, p⟩ => ⟨_, h2, by rw [fzs_len, List.length_map]; exact hl, ?_⟩)
  subst h1
  have e1 : fzs (xs.map e) ++ [.fz (e x)] = fzs ((xs ++ [x]).map e) := by simp [fzs]
  rw [e1]
  exact p
theorem u_extT {e : β → PyData} {xs ys zs : List β} {f : M PyData} {xs0 : List AV} (hv : extO xs ys = some zs) (h0 : δ[i]? = some (some (.ow xs0)))
    (h : Ep f δ fun a δ1 => a = .list (ys.map e) ∧ δ1[i]? = some (some (.ow (fzs (xs.map e)))) ∧ Q (.nx (δ1.set i (some (.ow (fzs (zs.map e))))))) : Sp (gExt i f) δ Q := by
  obtain ⟨hl, rfl⟩ := gd_some hv
  obtain ⟨a, δ1, h1, rfl, h2, p⟩ := h
  refine ⟨_, ?_, p⟩
  unfold gExt
  have e1 : fzs (xs.map e) ++ fzs (ys.map e) = fzs ((xs ++ ys).map e) := by simp [fzs]
  simp only [h0, h1, h2, fzs_len, List.length_map, if_pos hl, e1]
theorem u_putT {e : β → PyData} {xs ys : List β} {x : β} {n : Int} {fi : M PyData} {fv : M AV} (hv : putO xs n x = some ys)
    (h : Ep fv δ fun a δ1 => a = .fz (e x) ∧ Ep fi δ1 fun d δ2 => d = .int n ∧ δ1[i]? = some (some (.ow (fzs (xs.map e)))) ∧ δ2[i]? = some (some (.ow (fzs (xs.map e)))) ∧ Q (.nx (δ2.set i (some (.ow (fzs (ys.map e))))))) : Sp (gPutIx i fi fv) δ Q := by
  unfold putO at hv
  cases hj : ixN xs.length n with
  | none => rw [hj] at hv; cases hv
  | some j =>
    rw [hj] at hv
    cases hv
    obtain ⟨a, δ1, h1, rfl, d, δ2, h2, rfl, g1, g2, p⟩ := h
    refine ⟨_, ?_, p⟩
    unfold gPutIx
    have e1 : (fzs (xs.map e)).set j (.fz (e x)) = fzs ((xs.set j x).map e) := by rw [fzs_map, fzs_map, List.map_set]
    simp only [h1, h2, g1, g2, fzs_len, List.length_map, hj, e1]
/-- how a loop's turn ends -/
def LpOk (E : σ → En → Prop) (R : ρ → AV → En → Prop) : Lp σ ρ → Fl → Prop
  | .go s, fl => ∃ δ, (fl = .nx δ ∨ fl = .ct δ) ∧ E s δ
  | .brk s, fl => ∃ δ, fl = .bk δ ∧ E s δ
  | .ret r, fl => ∃ a δ, fl = .rt a δ ∧ R r a δ
def LpEnd (E : σ → En → Prop) (R : ρ → AV → En → Prop) (Q : Fl → Prop) : Lp σ ρ → Prop
  | .go s => ∀ δ, E s δ → Q (.nx δ)
  | .brk s => ∀ δ, E s δ → Q (.nx δ)
  | .ret r => ∀ a δ, R r a δ → Q (.rt a δ)
theorem sp_forR {e : α → PyData} {src : M (List PyData)} {tgt : Tg} {body : Sm} {items : List α} {g : σ → α → Option (Lp σ ρ)} {s0 : σ} {out : Lp σ ρ} (h1 : forR g items s0 = some out) (E : σ → En → Prop) (R : ρ → AV → En → Prop)
    (h : Ep src δ fun its δ1 => its = items.map e ∧ E s0 δ1)
    (hb : ∀ s x out, g s x = some out → ∀ δ, E s δ → ∃ δ', tgt (e x) δ = some δ' ∧ Sp body δ' (LpOk E R out))
    (hq : LpEnd E R Q out) : Sp (gFor src tgt body) δ Q := by
  obtain ⟨its, δ1, e1, rfl, hE⟩ := h
  have go : ∀ (items : List α) (s : σ) (δ : En), E s δ → forR g items s = some out → ∃ r, forL tgt body (items.map e) δ = some r ∧ Q r := by
    intro items
    induction items with
    | nil =>
      intro s δ hE h
      cases h
      exact ⟨_, rfl, hq δ hE⟩
    | cons x xs ih =>
      intro s δ hE h
      obtain ⟨o, ho, h2⟩ := bnd' h
      obtain ⟨δ', ht, r, hr, hk⟩ := hb s x o ho δ hE
      show ∃ r, forL tgt body (e x :: xs.map e) δ = some r ∧ Q r
      unfold forL
      simp only [ht, hr]
      cases o with
      | go s' =>
        obtain ⟨δ3, (rfl | rfl), hE'⟩ := hk
        · exact ih s' δ3 hE' h2
        · exact ih s' δ3 hE' h2
      | brk s' =>
        obtain ⟨δ3, rfl, hE'⟩ := hk
        cases h2
        exact ⟨_, rfl, hq δ3 hE'⟩
      | ret r' =>
        obtain ⟨a, δ3, rfl, hR⟩ := hk
        cases h2
        exact ⟨_, rfl, hq a δ3 hR⟩
  obtain ⟨r, hr, p⟩ := go items s0 δ1 hE h1
  exact ⟨r, by unfold gFor; rw [e1]; exact hr, p⟩
theorem forO_R {g : σ → α → Option σ} : ∀ {items : List α} {s s1 : σ}, forO g items s = some s1 → forR (ρ := Unit) (fun s x => (g s x).bind fun s => some (.go s)) items s = some (.go s1)
  | [], s, s1, h => by cases h; rfl
  | x :: xs, s, s1, h => by
    obtain ⟨s', h1, h2⟩ := bnd' h
    show (((g s x).bind fun s => some (Lp.go s)).bind _) = _
    rw [h1]
    exact forO_R h2
theorem sp_forO {e : α → PyData} {src : M (List PyData)} {tgt : Tg} {body : Sm} {items : List α} {g : σ → α → Option σ} {s0 s1 : σ} (h1 : forO g items s0 = some s1) (E : σ → En → Prop)
    (h : Ep src δ fun its δ1 => its = items.map e ∧ E s0 δ1)
    (hb : ∀ s x s', g s x = some s' → ∀ δ, E s δ → ∃ δ', tgt (e x) δ = some δ' ∧ Sp body δ' (LpOk (ρ := Unit) E (fun _ _ _ => False) (.go s')))
    (hq : ∀ δ, E s1 δ → Q (.nx δ)) : Sp (gFor src tgt body) δ Q :=
  sp_forR (forO_R h1) E (fun _ _ _ => False) h (fun s x out ho δ hE => by
    obtain ⟨s', h1, h2⟩ := bnd' ho
    cases h2
    exact hb s x s' h1 δ hE) hq
theorem sp_whlR {μ : En → Nat} {n : Nat} {c : M Bool} {body : Sm} {gc : σ → Option Bool} {g : σ → Option (Lp σ ρ)} {s0 : σ} {out : Lp σ ρ} (h1 : whlR gc g n s0 = some out) (E : σ → En → Prop) (R : ρ → AV → En → Prop)
    (hμ : μ δ = n) (h0 : E s0 δ)
    (hb : ∀ s b, gc s = some b → ∀ δ, E s δ → Ep c δ fun b' δ1 => b' = b ∧ (b = false → E s δ1) ∧ (b = true → ∀ out, g s = some out → Sp body δ1 (LpOk E R out)))
    (hq : LpEnd E R Q out) : Sp (gWhl μ c body) δ Q := by
  have go : ∀ (n : Nat) (s : σ) (δ : En), E s δ → whlR gc g n s = some out → ∃ r, whl c body n δ = some r ∧ Q r := by
    intro n
    induction n with
    | zero => intro s δ hE h; cases h
    | succ n ih =>
      intro s δ hE h
      obtain ⟨b, hc, h2⟩ := bnd' h
      obtain ⟨b', δ1, e1, rfl, hf, ht⟩ := hb s b hc δ hE
      unfold whl
      simp only [e1]
      cases b' with
      | false =>
        rw [if_neg (by decide)] at h2
        cases h2
        exact ⟨_, rfl, hq δ1 (hf rfl)⟩
      | true =>
        rw [if_pos rfl] at h2
        obtain ⟨o, ho, h3⟩ := bnd' h2
        obtain ⟨r, hr, hk⟩ := ht rfl o ho
        simp only [hr]
        cases o with
        | go s' =>
          obtain ⟨δ3, (rfl | rfl), hE'⟩ := hk
          · exact ih s' δ3 hE' h3
          · exact ih s' δ3 hE' h3
        | brk s' =>
          obtain ⟨δ3, rfl, hE'⟩ := hk
          cases h3
          exact ⟨_, rfl, hq δ3 hE'⟩
        | ret r' =>
          obtain ⟨a, δ3, rfl, hR⟩ := hk
          cases h3
          exact ⟨_, rfl, hq a δ3 hR⟩
  obtain ⟨r, hr, p⟩ := go n s0 δ h0 h1
  exact ⟨r, by unfold gWhl; rw [hμ]; exact hr, p⟩
theorem lp_go {E : σ → En → Prop} {R : ρ → AV → En → Prop} {s : σ} (h : E s δ) : LpOk E R (.go s) (.nx δ) := ⟨δ, .inl rfl, h⟩
theorem lp_ct {E : σ → En → Prop} {R : ρ → AV → En → Prop} {s : σ} (h : E s δ) : LpOk E R (.go s) (.ct δ) := ⟨δ, .inr rfl, h⟩
theorem lp_brk {E : σ → En → Prop} {R : ρ → AV → En → Prop} {s : σ} (h : E s δ) : LpOk E R (.brk s) (.bk δ) := ⟨δ, rfl, h⟩
theorem lp_ret {E : σ → En → Prop} {R : ρ → AV → En → Prop} {r : ρ} (h : R r a δ) : LpOk E R (.ret r) (.rt a δ) := ⟨a, δ, rfl, h⟩
theorem sp_join {f g : Sm} (E : En → Prop) (h : Sp f δ fun fl => ∃ δ', fl = .nx δ' ∧ E δ') (k : ∀ δ', E δ' → Sp g δ' Q) : Sp f δ (thenS g Q) := h.mono fun r ⟨δ', h1, h2⟩ => by subst h1; exact k δ' h2
end
section
variable {α β σ : Type} {δ : En} {own : List Nat} {src : M (List PyData)} {tgt : Tg} {tt : M Bool} {el : M AV} {P : AV → En → Prop}
/-- a comprehension, each thing partly; A: how the element's value stands -/
theorem lcL_map {e : α → PyData} {e' : β → PyData} {f : α → Option β} {δw : En}
    : ∀ {items : List α} {ys : List β} (acc : List AV), mpG f items = some ys → (∀ x y, x ∈ items → f x = some y → ∃ δ2, tgt (e x) δw = some δ2 ∧ Ep el δ2 fun a δ3 => a = .fz (e' y) ∧ wipeE δ3 own = δw) →
      lcL own tgt (ret true) el (items.map e) acc δw = some (acc ++ fzs (ys.map e'), δw)
  | [], ys, acc, h, _ => by
    cases h
    simp [lcL, fzs]
  | x :: xs, ys, acc, h, hb => by
    obtain ⟨y, h1, h2⟩ := bnd' h
    obtain ⟨zs, h3, h4⟩ := bnd' h2
    cases h4
    obtain ⟨δ2, g1, a, δ3, g2, rfl, g3⟩ := hb x y (by simp) h1
    show lcL own tgt (ret true) el (e x :: xs.map e) acc δw = _
    unfold lcL
    have e1 : (ret true : M Bool) δ2 = some (true, δ2) := rfl
    simp only [g1, e1, g2, g3]
    rw [lcL_map _ h3 fun x y m => hb x y (by simp [m])]
    simp [fzs]
theorem e_mpO {e : α → PyData} {e' : β → PyData} {f : α → Option β} {items : List α} {ys : List β} (hm : mpO f items = some ys)
    (h : Ep src δ fun its δ1 => its = items.map e ∧ own.all (frzAt δ1) = true ∧ ∃ δw, wipeE δ1 own = δw ∧ ∃ δe, bring δ1 own δw = δe ∧
      (∀ x y, x ∈ items → f x = some y → ∃ δ2, tgt (e x) δw = some δ2 ∧ Ep el δ2 fun a δ3 => a = .fz (e' y) ∧ wipeE δ3 own = δw) ∧ P (.ow (fzs (ys.map e'))) δe) :
    Ep (gLc own src tgt (ret true) el) δ P := by
  obtain ⟨its, δ1, e1, rfl, hf, δw, rfl, δe, rfl, hb, p⟩ := h
  unfold mpO at hm
  split at hm
  · next hl =>
    refine ⟨_, _, ?_, p⟩
    unfold gLc
    simp only [e1, List.length_map, hl, hf, and_self, if_true, lcL_map _ hm hb, List.nil_append]
  · cases hm
theorem lcL_flt {e : α → PyData} {e' : β → PyData} {c : α → Option Bool} {f : α → Option β} {δw : En}
    : ∀ {items : List α} {ys : List β} (acc : List AV), lcG c f items = some ys → (∀ x b, x ∈ items → c x = some b → ∃ δ2, tgt (e x) δw = some δ2 ∧ Ep tt δ2 fun b' δ3 => b' = b ∧ (b = false → wipeE δ3 own = δw) ∧ (b = true → ∀ y, f x = some y → Ep el δ3 fun a δ3 => a = .fz (e' y) ∧ wipeE δ3 own = δw)) →
      lcL own tgt tt el (items.map e) acc δw = some (acc ++ fzs (ys.map e'), δw)
  | [], ys, acc, h, _ => by
    cases h
    simp [lcL, fzs]
  | x :: xs, ys, acc, h, hb => by
    obtain ⟨b, h1, h2⟩ := bnd' h
    obtain ⟨δ2, g1, b', δ3, g2, rfl, g3, g4⟩ := hb x b (by simp) h1
    show lcL own tgt tt el (e x :: xs.map e) acc δw = _
    unfold lcL
    simp only [g1, g2]
    cases b' with
    | false =>
      rw [if_neg (by decide)] at h2
      simp only [g3 rfl]
      exact lcL_flt _ h2 fun x y m => hb x y (by simp [m])
    | true =>
      rw [if_pos rfl] at h2
      obtain ⟨y, h3, h4⟩ := bnd' h2
      obtain ⟨zs, h5, h6⟩ := bnd' h4
      cases h6
      obtain ⟨a, δ4, g5, rfl, g6⟩ := g4 rfl y h3
      simp only [g5, g6]
      rw [lcL_flt _ h5 fun x y m => hb x y (by simp [m])]
      simp [fzs]
theorem e_lcO {e : α → PyData} {e' : β → PyData} {c : α → Option Bool} {f : α → Option β} {items : List α} {ys : List β} (hm : lcO c f items = some ys)
    (h : Ep src δ fun its δ1 => its = items.map e ∧ own.all (frzAt δ1) = true ∧ ∃ δw, wipeE δ1 own = δw ∧ ∃ δe, bring δ1 own δw = δe ∧
      (∀ x b, x ∈ items → c x = some b → ∃ δ2, tgt (e x) δw = some δ2 ∧ Ep tt δ2 fun b' δ3 => b' = b ∧ (b = false → wipeE δ3 own = δw) ∧ (b = true → ∀ y, f x = some y → Ep el δ3 fun a δ3 => a = .fz (e' y) ∧ wipeE δ3 own = δw)) ∧ P (.ow (fzs (ys.map e'))) δe) :
    Ep (gLc own src tgt tt el) δ P := by
  obtain ⟨its, δ1, e1, rfl, hf, δw, rfl, δe, rfl, hb, p⟩ := h
  unfold lcO at hm
  split at hm
  · next hl =>
    refine ⟨_, _, ?_, p⟩
    unfold gLc
    simp only [e1, List.length_map, hl, hf, and_self, if_true, lcL_flt _ hm hb, List.nil_append]
  · cases hm
/-- with a state (the pot) -/
theorem lcL_mps {e : α → PyData} {e' : β → PyData} {f : σ → α → Option (β × σ)} {W : σ → En}
    : ∀ {items : List α} {s : σ} {r : List β × σ} (acc : List AV), mpsG f items s = some r → (∀ s x y, x ∈ items → f s x = some y → ∃ δ2, tgt (e x) (W s) = some δ2 ∧ Ep el δ2 fun a δ3 => a = .fz (e' y.1) ∧ wipeE δ3 own = W y.2) →
      lcL own tgt (ret true) el (items.map e) acc (W s) = some (acc ++ fzs (r.1.map e'), W r.2)
  | [], s, r, acc, h, _ => by
    cases h
    simp [lcL, fzs]
  | x :: xs, s, r, acc, h, hb => by
    obtain ⟨y, h1, h2⟩ := bnd' h
    obtain ⟨zs, h3, h4⟩ := bnd' h2
    cases h4
    obtain ⟨δ2, g1, a, δ3, g2, rfl, g3⟩ := hb s x y (by simp) h1
    show lcL own tgt (ret true) el (e x :: xs.map e) acc (W s) = _
    unfold lcL
    have e1 : (ret true : M Bool) δ2 = some (true, δ2) := rfl
    simp only [g1, e1, g2, g3]
    rw [lcL_mps _ h3 fun s x y m => hb s x y (by simp [m])]
    simp [fzs]
theorem e_mpsO {e : α → PyData} {e' : β → PyData} {f : σ → α → Option (β × σ)} {items : List α} {s : σ} {r : List β × σ} (hm : mpsO f items s = some r) (W X : σ → En)
    (h : Ep src δ fun its δ1 => its = items.map e ∧ own.all (frzAt δ1) = true ∧ wipeE δ1 own = W s ∧ bring δ1 own (W r.2) = X r.2 ∧
      (∀ s x y, x ∈ items → f s x = some y → ∃ δ2, tgt (e x) (W s) = some δ2 ∧ Ep el δ2 fun a δ3 => a = .fz (e' y.1) ∧ wipeE δ3 own = W y.2) ∧ P (.ow (fzs (r.1.map e'))) (X r.2)) :
    Ep (gLc own src tgt (ret true) el) δ P := by
  obtain ⟨its, δ1, e1, rfl, hf, hw, hx, hb, p⟩ := h
  unfold mpsO at hm
  split at hm
  · next hl =>
    refine ⟨_, _, ?_, p⟩
    unfold gLc
    simp only [e1, List.length_map, hl, hf, and_self, if_true, hw, lcL_mps _ hm hb, List.nil_append, hx]
  · cases hm
theorem lcL_lcs {e : α → PyData} {e' : β → PyData} {c : σ → α → Option (Bool × σ)} {f : σ → α → Option (β × σ)} {W : σ → En}
    : ∀ {items : List α} {s : σ} {r : List β × σ} (acc : List AV), lcsG c f items s = some r → (∀ s x b, x ∈ items → c s x = some b → ∃ δ2, tgt (e x) (W s) = some δ2 ∧ Ep tt δ2 fun b' δ3 => b' = b.1 ∧ (b.1 = false → wipeE δ3 own = W b.2) ∧ (b.1 = true → ∀ y, f b.2 x = some y → Ep el δ3 fun a δ3 => a = .fz (e' y.1) ∧ wipeE δ3 own = W y.2)) →
      lcL own tgt tt el (items.map e) acc (W s) = some (acc ++ fzs (r.1.map e'), W r.2)
  | [], s, r, acc, h, _ => by
    cases h
    simp [lcL, fzs]
  | x :: xs, s, r, acc, h, hb => by
    obtain ⟨b, h1, h2⟩ := bnd' h
    obtain ⟨δ2, g1, b', δ3, g2, rfl, g3, g4⟩ := hb s x b (by simp) h1
    show lcL own tgt tt el (e x :: xs.map e) acc (W s) = _
    unfold lcL
    simp only [g1, g2]
    cases hb1 : b.1 with
    | false =>
      rw [hb1, if_neg (by decide)] at h2
      simp only [g3 hb1]
      exact lcL_lcs _ h2 fun s x y m => hb s x y (by simp [m])
    | true =>
      rw [hb1, if_pos rfl] at h2
      obtain ⟨y, h3, h4⟩ := bnd' h2
      obtain ⟨zs, h5, h6⟩ := bnd' h4
      cases h6
      obtain ⟨a, δ4, g5, rfl, g6⟩ := g4 hb1 y h3
      simp only [g5, g6]
      rw [lcL_lcs _ h5 fun s x y m => hb s x y (by simp [m])]
      simp [fzs]
theorem e_lcsO {e : α → PyData} {e' : β → PyData} {c : σ → α → Option (Bool × σ)} {f : σ → α → Option (β × σ)} {items : List α} {s : σ} {r : List β × σ} (hm : lcsO c f items s = some r) (W X : σ → En)
    (h : Ep src δ fun its δ1 => its = items.map e ∧ own.all (frzAt δ1) = true ∧ wipeE δ1 own = W s ∧ bring δ1 own (W r.2) = X r.2 ∧
      (∀ s x b, x ∈ items → c s x = some b → ∃ δ2, tgt (e x) (W s) = some δ2 ∧ Ep tt δ2 fun b' δ3 => b' = b.1 ∧ (b.1 = false → wipeE δ3 own = W b.2) ∧ (b.1 = true → ∀ y, f b.2 x = some y → Ep el δ3 fun a δ3 => a = .fz (e' y.1) ∧ wipeE δ3 own = W y.2)) ∧ P (.ow (fzs (r.1.map e'))) (X r.2)) :
    Ep (gLc own src tgt tt el) δ P := by
  obtain ⟨its, δ1, e1, rfl, hf, hw, hx, hb, p⟩ := h
  unfold lcsO at hm
  split at hm
  · next hl =>
    refine ⟨_, _, ?_, p⟩
    unfold gLc
    simp only [e1, List.length_map, hl, hf, and_self, if_true, hw, lcL_lcs _ hm hb, List.nil_append, hx]
  · cases hm
end
/-! ### given things -/
def potA (p : Int × Int) : AV := pot p.1 p.2
/-- what a def that draws hands out, typed -/
def drawO (g : Fn) (p : Int × Int) (many : Int) : Option (Int × (Int × Int)) := match g [potA p, .fz (.int many)] with
  | some (.fz (.int d), [.ow [.fz (.int x), .fz (.int y)]]) => some (d, (x, y))
  | _ => none
theorem drawO_ok {g : Fn} {p : Int × Int} {many : Int} {r : Int × (Int × Int)} (h : drawO g p many = some r) : g [potA p, .fz (.int many)] = some (.fz (.int r.1), [potA r.2]) := by
  unfold drawO at h
  split at h
  · next q => cases h; exact q
  · cases h
def PotZ (p : Int × Int) : Prop := 0 ≤ p.1 ∧ 0 ≤ p.2 ∧ p.2 < 2 ^ 31
theorem drawO_of {g : Fn} (hD : Draws g) {p : Int × Int} {many : Int} (hp : PotZ p) (h0 : 0 < many) (h1 : many < 2 ^ 30) : ∃ d p', drawO g p many = some (d, p') ∧ PotZ p' ∧ 0 ≤ d ∧ d < many := by
  obtain ⟨r, o, e, d, p', rfl, rfl, ⟨x, y, rfl, hx, hy, hy2⟩, h3, h4⟩ := hD (potA p) many ⟨p.1, p.2, rfl, hp.1, hp.2.1, hp.2.2⟩ h0 h1
  refine ⟨d, (x, y), ?_, ⟨hx, hy, hy2⟩, h3, h4⟩
  unfold drawO
  rw [e]
  rfl
def potO (g : Fn) (ns : List Int) (k : Int) : Option (Int × Int) := match g [.sc ns, .fz (.int k)] with
  | some (.ow [.fz (.int x), .fz (.int y)], []) => some (x, y)
  | _ => none
theorem potO_ok {g : Fn} {ns : List Int} {k : Int} {r : Int × Int} (h : potO g ns k = some r) : g [.sc ns, .fz (.int k)] = some (potA r, []) := by
  unfold potO at h
  split at h
  · next q => cases h; exact q
  · cases h
theorem potO_of {g : Fn} (hP : Pots g) {ns : List Int} {k : Int} (h0 : 0 ≤ k) (h1 : k < 64) : ∃ p, potO g ns k = some p ∧ PotZ p := by
  obtain ⟨r, o, e, rfl, ⟨x, y, rfl, hx, hy, hy2⟩⟩ := hP ns k h0 h1
  refine ⟨(x, y), ?_, hx, hy, hy2⟩
  unfold potO
  rw [e]
  rfl
def gcdO (a b : Int) : Option Int := gd (0 ≤ a ∧ 0 ≤ b) (Int.gcd a b : Int)
theorem gcdO_ok {g : Fn} (hD : Divs g) {a b r : Int} (h : gcdO a b = some r) : g [.fz (.int a), .fz (.int b)] = some (.fz (.int r), []) := by
  obtain ⟨⟨h1, h2⟩, rfl⟩ := gd_some h
  exact hD a b h1 h2
theorem eO_some {α : Type} {e : α → PyData} {x : Option α} {v : α} (h : x = some v) : eO e x = e v := by rw [h]; rfl
/-! ### what judges say -/
def isI : PyData → Bool
  | .int _ => true
  | _ => false
def isLs (v : PyData) : Bool := Ty.list.is v || Ty.tuple.is v
def isInB : PyData → Int → Int → Bool
  | .int i, lo, hi => decide (lo ≤ i) && decide (i ≤ hi)
  | _, _, _ => false
def isFr : PyData → Bool
  | .tuple [.int a, .int b] => decide (1 ≤ b) && decide ((Int.gcd a b : Int) = 1)
  | _ => false
theorem gcd_abs (a b : Int) : Int.gcd (absI a) b = Int.gcd a b := by rw [absI_eq]; simp [Int.gcd]
theorem two_of {ds : List PyData} (h : (ds.length : Int) = 2) : ∃ x a, ds = [x, a] := by
  match ds, h with
  | [x, a], _ => exact ⟨x, a, rfl⟩
  | [], h => simp at h
  | [_], h => simp at h
  | _ :: _ :: _ :: _, h => simp at h; omega
theorem fr_two {ds : List PyData} (h : ¬ (ds.length : Int) = 2) : isFr (.tuple ds) = false := by unfold isFr; split <;> simp_all
end Pv

/-! Tv3: in, pop, index, count; looks that keep our own lists -/
namespace Pv
open PySem PySem.Spec L2
open PyProof.Rows hiding St
section
variable {α β : Type} [DecidableEq α] {e : α → PyData} {e' : β → PyData}
theorem shape_of {f : β → PyData} (cl : ∀ a, (f a).canLay0 = true) {n : Nat} (hd : ∀ a, (f a).depth ≤ n) (hn : n ≤ 40) (a : β) : SeqAt.shaped (f a) = true := by
  unfold SeqAt.shaped; rw [cl a]; exact decide_eq_true (Nat.le_trans (hd a) (by omega))
theorem any_in (h : EqE e) (a : α) (xs : List α) : ((xs.map e).any fun z => PyData.eqv z (e a)) = decide (a ∈ xs) := by
  induction xs with
  | nil => simp
  | cons x xs ih =>
    rw [List.map_cons, List.any_cons, ih, h.ev]
    by_cases c : x = a
    · simp [c]
    · simp [c, Ne.symm c]
theorem EqE.sh (h : EqE e) (a : α) : SeqAt.shaped (e a) = true := by
  obtain ⟨n, hn, hd⟩ := h.dep
  exact shape_of h.cl hd hn a
theorem inL (h : EqE e) (hd : ∃ n, n ≤ 39 ∧ ∀ a, (e a).depth ≤ n) (a : α) (xs : List α) : inD (e a) (eL e xs) = some (decide (a ∈ xs)) := by
  show (if SeqAt.shaped (e a) = true ∧ SeqAt.shaped (.list (xs.map e)) = true then some ((xs.map e).any fun z => PyData.eqv z (e a)) else none) = _
  rw [if_pos ⟨h.sh a, (eqL_ok h hd).sh xs⟩, any_in h]
theorem inV (h : EqE e) (hd : ∃ n, n ≤ 39 ∧ ∀ a, (e a).depth ≤ n) (a : α) (xs : List α) : inD (e a) (eV e xs) = some (decide (a ∈ xs)) := by
  show (if SeqAt.shaped (e a) = true ∧ SeqAt.shaped (.tuple (xs.map e)) = true then some ((xs.map e).any fun z => PyData.eqv z (e a)) else none) = _
  rw [if_pos ⟨h.sh a, (eqV_ok h hd).sh xs⟩, any_in h]
theorem inQ {k : Bool} (h : EqE e) (hd : ∃ n, n ≤ 39 ∧ ∀ a, (e a).depth ≤ n) (a : α) (xs : List α) : inD (e a) (eQ k e xs) = some (decide (a ∈ xs)) := by cases k; exact inL h hd a xs; exact inV h hd a xs
theorem ninL (h : EqE e) (hd : ∃ n, n ≤ 39 ∧ ∀ a, (e a).depth ≤ n) (a : α) (xs : List α) : ninD (e a) (eL e xs) = some (!decide (a ∈ xs)) := by unfold ninD; rw [inL h hd]; rfl
theorem ninV (h : EqE e) (hd : ∃ n, n ≤ 39 ∧ ∀ a, (e a).depth ≤ n) (a : α) (xs : List α) : ninD (e a) (eV e xs) = some (!decide (a ∈ xs)) := by unfold ninD; rw [inV h hd]; rfl
theorem ninQ {k : Bool} (h : EqE e) (hd : ∃ n, n ≤ 39 ∧ ∀ a, (e a).depth ≤ n) (a : α) (xs : List α) : ninD (e a) (eQ k e xs) = some (!decide (a ∈ xs)) := by unfold ninD; rw [inQ h hd]; rfl
theorem inNL (h : EqE e) (hd : ∃ n, n ≤ 39 ∧ ∀ a, (e a).depth ≤ n) (hn : ∀ a, PyData.eqv (e a) .none = false) (xs : List α) : inD .none (eL e xs) = some false := by
  show (if SeqAt.shaped .none = true ∧ SeqAt.shaped (.list (xs.map e)) = true then some ((xs.map e).any fun z => PyData.eqv z .none) else none) = _
  rw [if_pos ⟨by decide +kernel, (eqL_ok h hd).sh xs⟩]
  congr 1
  rw [List.any_eq_false]
  intro z hz
  obtain ⟨a, _, rfl⟩ := List.mem_map.mp hz
  rw [hn a]; decide
theorem ninNL (h : EqE e) (hd : ∃ n, n ≤ 39 ∧ ∀ a, (e a).depth ≤ n) (hn : ∀ a, PyData.eqv (e a) .none = false) (xs : List α) : ninD .none (eL e xs) = some true := by unfold ninD; rw [inNL h hd hn]; rfl
theorem strAll : ∀ {xs : List Str}, PyData.canLayAll0 (xs.map eS) = xs.all fun x => (eS x).canLay0
  | [] => rfl
  | x :: xs => by
    have := strAll (xs := xs)
    simp only [List.map_cons, PyData.canLayAll0, this, List.all_cons]
/-- texts among written ones -/
theorem inS {x : Str} {xs : List Str} (h : SeqAt.shaped (eS x) = true) (hs : SeqAt.shaped (.tuple (xs.map eS)) = true) : inD (eS x) (eV eS xs) = some (decide (x ∈ xs)) := by
  show (if SeqAt.shaped (eS x) = true ∧ SeqAt.shaped (.tuple (xs.map eS)) = true then some ((xs.map eS).any fun z => PyData.eqv z (eS x)) else none) = _
  rw [if_pos ⟨h, hs⟩]
  congr 1
  clear hs
  induction xs with
  | nil => simp
  | cons y xs ih =>
    rw [List.map_cons, List.any_cons, ih]
    have : PyData.eqv (eS y) (eS x) = decide (y = x) := by
      show PyData.eqv (.str y) (.str x) = _
      by_cases c : y = x
      · subst c; simp [PyData.eqv]
      · simp [PyData.eqv, c]
    rw [this]
    by_cases c : y = x
    · simp [c]
    · simp [c, Ne.symm c]
def idxO (xs : List α) (a : α) : Option Int := (xs.findIdx? fun z => decide (z = a)).map fun j => (j : Int)
theorem idxE (h : EqE e) (hd : ∃ n, n ≤ 39 ∧ ∀ a, (e a).depth ≤ n) {a : α} {xs : List α} {i : Int} (hi : idxO xs a = some i) : idxD (eL e xs) (e a) = some (.int i) := by
  show (if SeqAt.shaped (.list (xs.map e)) = true ∧ SeqAt.shaped (e a) = true then ((xs.map e).findIdx? fun z => PyData.eqv z (e a)).map fun j => PyData.int (j : Nat) else none) = _
  rw [if_pos ⟨(eqL_ok h hd).sh xs, h.sh a⟩, List.findIdx?_map]
  have : ((fun z => PyData.eqv z (e a)) ∘ e) = fun z => decide (z = a) := funext fun z => h.ev z a
  rw [this]
  unfold idxO at hi
  cases e2 : xs.findIdx? fun z => decide (z = a) with
  | none => rw [e2] at hi; cases hi
  | some j => rw [e2] at hi; cases hi; rfl
theorem cntE {xs : List Int} {k : Int} : cntD (eL eI xs) (.int k) = some (.int (xs.count k : Nat)) := by
  show (intsOf (xs.map eI)).map _ = _
  rw [intsE]; rfl
end
section
variable {α β γ σ ρ : Type} {δ δ' : En} {f : M α} {i : Nat} {a : AV} {d : PyData} {Q : Fl → Prop}
def popO (xs : List α) : Option (α × List α) := (xs[xs.length - 1]?).map fun x => (x, xs.dropLast)
theorem fzs_drop : ∀ {ds : List PyData}, (fzs ds).dropLast = fzs ds.dropLast
  | [] => rfl
  | [d] => rfl
  | d :: d' :: ds => by
    have := fzs_drop (ds := d' :: ds)
    show AV.fz d :: (fzs (d' :: ds)).dropLast = _
    rw [this]; rfl
theorem fzs_at : ∀ {ds : List PyData} {j : Nat}, (fzs ds)[j]? = (ds[j]?).map AV.fz
  | [], _ => rfl
  | d :: ds, 0 => rfl
  | d :: ds, j + 1 => by
    have := fzs_at (ds := ds) (j := j)
    show (fzs ds)[j]? = _
    rw [this]; rfl
theorem e_popT {e : β → PyData} {xs : List β} {r : β × List β} {P : PyData → En → Prop} (h : popO xs = some r) (hi : δ[i]? = some (some (.ow (fzs (xs.map e))))) (p : P (e r.1) (δ.set i (some (.ow (fzs (r.2.map e)))))) : Ep (gPop i) δ P := by
  unfold popO at h
  obtain ⟨x, hx, rfl⟩ := Option.map_eq_some_iff.mp h
  refine ⟨_, _, ?_, p⟩
  unfold gPop
  rw [hi]
  have hl : (fzs (xs.map e)).length - 1 = xs.length - 1 := by rw [fzs_len, List.length_map]
  have hz : (fzs (xs.map e))[(fzs (xs.map e)).length - 1]? = some (.fz (e x)) := by rw [hl, fzs_at, List.getElem?_map, hx]; rfl
  show (match (fzs (xs.map e))[(fzs (xs.map e)).length - 1]? with
    | some (.fz d) => some (d, δ.set i (some (.ow (fzs (xs.map e)).dropLast)))
    | _ => none) = _
  rw [hz, fzs_drop, List.map_dropLast]
theorem e_met {op : PyData → PyData → Option PyData} {f g : M PyData} {P : PyData → En → Prop} (h : Ep f δ fun l δ1 => Ep g δ1 fun d δ2 => ∃ r, op l d = some r ∧ P r δ2) : Ep (gMet op f g) δ P := by
  obtain ⟨l, δ1, h1, d, δ2, h2, r, h3, p⟩ := h
  refine ⟨r, δ2, ?_, p⟩
  simp only [gMet, bnd, opt, h1, h2, h3]
theorem e_bor {f : M PyData} {P : PyData → En → Prop} (δh : En) (hh : hide δ = δh) (h : Ep f δh fun d _ => flatD d = true ∧ P d δ) : Ep (gBor f) δ P := by
  obtain ⟨d, δ1, h1, hd, p⟩ := h
  refine ⟨d, δ, ?_, p⟩
  unfold gBor
  rw [hh, h1]
  exact if_pos hd
theorem e_borT {f : M Bool} {P : Bool → En → Prop} (δh : En) (hh : hide δ = δh) (h : Ep f δh fun b _ => P b δ) : Ep (gBorT f) δ P := by
  obtain ⟨b, δ1, h1, p⟩ := h
  refine ⟨b, δ, ?_, p⟩
  unfold gBorT
  rw [hh, h1]
theorem hd_nil : hide [] = [] := rfl
theorem hd_none (h : hide δ = δ') : hide (none :: δ) = none :: δ' := congrArg (none :: ·) h
theorem hd_av (ha : AvD a d) (h : hide δ = δ') : hide (some a :: δ) = some (.fz d) :: δ' := by
  show hide1 (some a) :: hide δ = _
  rw [h]
  congr 1
  show (if a.dat = true then some (AV.fz a.d) else _) = _
  rw [if_pos ha.1, ha.2]
theorem hd_sc {ns : List Int} (h : hide δ = δ') : hide (some (.sc ns) :: δ) = some (.sc ns) :: δ' := by
  show some (AV.sc ns) :: hide δ = _
  rw [h]
theorem hd_junk {x : Option AV} (h : hide δ = δ') : hide (x :: δ) = hide1 x :: δ' := congrArg (hide1 x :: ·) h
theorem hd_jf {x : Option PyData} (h : hide δ = δ') : hide (x.map AV.fz :: δ) = x.map AV.fz :: δ' := by
  show hide1 (x.map AV.fz) :: hide δ = _
  rw [h]
  cases x <;> rfl
theorem set_selfE : ∀ {i : Nat} {δ : En} {x : Option AV}, δ[i]? = some x → δ.set i x = δ
  | i, [], x, h => by simp at h
  | 0, y :: δ, x, h => by
    have e : y = x := by simpa using h
    rw [e]; rfl
  | i + 1, y :: δ, x, h => by
    show y :: δ.set i x = y :: δ
    rw [set_selfE (by simpa using h)]
theorem frz_nil : frz [] δ = δ := rfl
theorem frz_cons {is : List Nat} {δ2 : En} (hi : δ[i]? = some (some a)) (ha : AvD a d) (h : frz is (δ.set i (some (.fz d))) = δ2) : frz (i :: is) δ = δ2 := by
  rw [← h]
  show frz is (frz1 i δ) = _
  congr 1
  unfold frz1
  rw [hi]
  obtain ⟨h1, rfl⟩ := ha
  cases a with
  | fz d => exact (set_selfE hi).symm
  | ow xs => exact if_pos h1
  | sc ns => cases h1
  | odT _ => cases h1
  | odK _ => cases h1
theorem e_frz {is : List Nat} {P : α → En → Prop} (δ2 : En) (hh : frz is δ = δ2) (h : Ep f δ2 P) : Ep (gFrz is f) δ P := by
  obtain ⟨d, δ1, h1, p⟩ := h
  exact ⟨d, δ1, by show f (frz is δ) = _; rw [hh]; exact h1, p⟩
theorem u_frz {is : List Nat} {g : Sm} (δ2 : En) (hh : frz is δ = δ2) (h : Sp g δ2 Q) : Sp (gFrz is g) δ Q := by
  show Sp (fun δ => g (frz is δ)) δ Q
  obtain ⟨r, h1, p⟩ := h
  exact ⟨r, by show g (frz is δ) = _; rw [hh]; exact h1, p⟩
theorem rgI_rng : ∀ {n : Nat} {a : Int}, (List.range n).map (fun i => a + (i : Nat)) = rngI a n
  | 0, a => rfl
  | n + 1, a => by
    rw [List.range_succ_eq_map, List.map_cons, List.map_map]
    show _ = a :: rngI (a + 1) n
    rw [← rgI_rng (n := n) (a := a + 1)]
    congr 1
    · simp
    · refine List.map_congr_left fun i _ => ?_
      show a + ((i + 1 : Nat) : Int) = a + 1 + (i : Int)
      omega
theorem rgL1 {j : Int} {xs : List Int} (h : rng1O j = some xs) : rgD true (.int 0) (.int j) = some (.ow (fzs (xs.map eI))) := by
  obtain ⟨h1, rfl⟩ := gd_some h
  refine (if_pos ⟨by decide, h1⟩).trans ?_
  show some (AV.ow (fzs ((rgI 0 j).map .int))) = _
  unfold rgI
  rw [rgI_rng, Int.sub_zero]
theorem rgT1 {j : Int} {xs : List Int} (h : rng1O j = some xs) : rgD false (.int 0) (.int j) = some (.fz (eV eI xs)) := by
  obtain ⟨h1, rfl⟩ := gd_some h
  refine (if_pos ⟨by decide, h1⟩).trans ?_
  show some (AV.fz (.tuple ((rgI 0 j).map .int))) = _
  unfold rgI
  rw [rgI_rng, Int.sub_zero]
theorem rgL2 {i j : Int} {xs : List Int} (h : rng2O i j = some xs) : rgD true (.int i) (.int j) = some (.ow (fzs (xs.map eI))) := by
  obtain ⟨h1, rfl⟩ := gd_some h
  refine (if_pos h1).trans ?_
  show some (AV.ow (fzs ((rgI i j).map .int))) = _
  unfold rgI
  rw [rgI_rng]
theorem rgT2 {i j : Int} {xs : List Int} (h : rng2O i j = some xs) : rgD false (.int i) (.int j) = some (.fz (eV eI xs)) := by
  obtain ⟨h1, rfl⟩ := gd_some h
  refine (if_pos h1).trans ?_
  show some (AV.fz (.tuple ((rgI i j).map .int))) = _
  unfold rgI
  rw [rgI_rng]
theorem e_rg1 {l : Bool} {f : M PyData} {P : AV → En → Prop} (h : Ep f δ fun d δ1 => ∃ z, rgD l (.int 0) d = some z ∧ P z δ1) : Ep (gRg1 l f) δ P := by
  obtain ⟨d, δ1, h1, z, h2, p⟩ := h
  exact ⟨z, δ1, by simp only [gRg1, bnd, opt, h1, h2], p⟩
theorem e_rg2 {l : Bool} {f g : M PyData} {P : AV → En → Prop} (h : Ep f δ fun c δ1 => Ep g δ1 fun d δ2 => ∃ z, rgD l c d = some z ∧ P z δ2) : Ep (gRg2 l f g) δ P := by
  obtain ⟨c, δ1, h1, d, δ2, h2, z, h3, p⟩ := h
  exact ⟨z, δ2, by simp only [gRg2, bnd, opt, h1, h2, h3], p⟩
theorem e_lstA {g : M (List AV)} {P : AV → En → Prop} (h : Ep g δ fun as δ1 => Nat.ble as.length 30 = true ∧ P (.ow as) δ1) : Ep (gLstA g) δ P := by
  obtain ⟨as, δ1, h1, hl, p⟩ := h
  refine ⟨.ow as, δ1, ?_, p⟩
  simp only [gLstA, bnd, opt, h1]
  rw [if_pos (Nat.le_of_ble_eq_true hl)]
theorem u_appN {k : Int} {as bs : List AV} {m : Nat} (h : δ[i]? = some (some (.ow as))) (hm : ixN as.length k = some m) (hb : as[m]? = some (.ow bs)) (hl : bs.length < lim) (p : Q (.nx (δ.set i (some (.ow (as.set m (.ow (bs ++ [.fz .none])))))))) : Sp (gAppN i k) δ Q := by
  refine ⟨_, ?_, p⟩
  unfold gAppN
  rw [h]
  simp only [hm, hb]
  rw [if_pos hl]
theorem avd_n2 {a b : List PyData} : AvD (.ow [.ow (fzs a), .ow (fzs b)]) (.list [.list a, .list b]) := by
  refine ⟨?_, ?_⟩
  · show (AV.dats (fzs a) && (AV.dats (fzs b) && true)) = true
    rw [dats_fzs, dats_fzs]; rfl
  · show PyData.list [.list (AV.ds (fzs a)), .list (AV.ds (fzs b))] = _
    rw [ds_fzs, ds_fzs]
theorem fzs_snoc : ∀ {a : List PyData} {d : PyData}, fzs a ++ [AV.fz d] = fzs (a ++ [d])
  | [], _ => rfl
  | x :: a, d => by show AV.fz x :: (fzs a ++ [AV.fz d]) = AV.fz x :: fzs (a ++ [d]); rw [fzs_snoc]
theorem avd_n2N {a b : List PyData} : AvD (.ow [.ow (fzs a ++ [AV.fz .none]), .ow (fzs b ++ [AV.fz .none])]) (.list [.list (a ++ [.none]), .list (b ++ [.none])]) := by
  rw [fzs_snoc, fzs_snoc]; exact avd_n2
end
end Pv

namespace Pv
open PySem PySem.Spec L2
open PyProof.Rows hiding St
/-! Tv4: dicts of our own, typed -/
section
variable {β κ : Type} [DecidableEq κ] {δ : En} {Q : Fl → Prop} {i : Nat}
def getO (kvs : List (κ × β)) (k : κ) : Option β := (kvs.find? fun kv => decide (kv.1 = k)).map (·.2)
def putL (kvs : List (κ × β)) (k : κ) (x : β) : List (κ × β) := if (kvs.any fun kv => decide (kv.1 = k)) = true then kvs.map (fun kv => if kv.1 = k then (kv.1, x) else kv) else kvs ++ [(k, x)]
def putDO (kvs : List (κ × β)) (k : κ) (x : β) : Option (List (κ × β)) := gd (kvs.length < lim) (putL kvs k x)
def kE2 (k : Int × Int) : List Key := [.inl k.1, .inl k.2]
theorem kE2_eq {a b : Int × Int} : kE2 a = kE2 b ↔ a = b := by
  obtain ⟨a1, a2⟩ := a
  obtain ⟨b1, b2⟩ := b
  simp [kE2]
def od2 (e : β → PyData) (kvs : List ((Int × Int) × β)) : List (List Key × PyData) := kvs.map fun kv => (kE2 kv.1, e kv.2)
theorem getK_od2 {e : β → PyData} {k : Int × Int} {x : β} : ∀ {kvs : List ((Int × Int) × β)}, getO kvs k = some x → getK (od2 e kvs) (kE2 k) = some (e x)
  | [], h => by cases h
  | (k2, y) :: kvs, h => by
    by_cases c : k2 = k
    · have : getO ((k2, y) :: kvs) k = some y := by unfold getO; simp [c]
      rw [this] at h
      cases h
      unfold getK od2; simp [c]
    · have e1 : getO ((k2, y) :: kvs) k = getO kvs k := by unfold getO; simp [c]
      rw [e1] at h
      have ih := getK_od2 (e := e) h
      have e2 : getK (od2 e ((k2, y) :: kvs)) (kE2 k) = getK (od2 e kvs) (kE2 k) := by unfold getK od2; simp [kE2_eq, c]
      rw [e2, ih]
theorem putD_od2 {e : β → PyData} {k : Int × Int} {x : β} {kvs : List ((Int × Int) × β)} : putD (od2 e kvs) (kE2 k) (e x) = od2 e (putL kvs k x) := by
  have h1 : ((od2 e kvs).any fun kv => decide (kv.1 = kE2 k)) = kvs.any fun kv => decide (kv.1 = k) := by
    unfold od2
    rw [List.any_map]
    congr 1
    funext kv
    simp [kE2_eq]
  unfold putD putL
  rw [h1]
  split
  · unfold od2
    rw [List.map_map, List.map_map]
    refine List.map_congr_left fun kv _ => ?_
    by_cases c : kv.1 = k
    · simp [c]
    · simp [c, kE2_eq]
  · unfold od2; simp
theorem u_putDT {e : β → PyData} {kvs kvs' : List ((Int × Int) × β)} {a b : Int} {x : β} {l : M (List PyData)} {fv : M PyData} (hv : putDO kvs (a, b) x = some kvs')
    (h : Ep fv δ fun d δ1 => d = e x ∧ Ep l δ1 fun ds δ2 => ds = [.int a, .int b] ∧ δ1[i]? = some (some (.odT (od2 e kvs))) ∧ δ2[i]? = some (some (.odT (od2 e kvs))) ∧ Q (.nx (δ2.set i (some (.odT (od2 e kvs')))))) : Sp (gPutDT i l fv) δ Q := by
  obtain ⟨hl, rfl⟩ := gd_some hv
  obtain ⟨d, δ1, h1, rfl, ds, δ2, h2, rfl, g1, g2, p⟩ := h
  refine ⟨_, ?_, p⟩
  unfold gPutDT
  have hk : dKeys [.int a, .int b] = some (kE2 (a, b)) := rfl
  have hlen : (od2 e kvs).length = kvs.length := by unfold od2; rw [List.length_map]
  simp only [h1, h2, g1, g2, hk, putD_od2]
  rw [if_pos ⟨by rw [hlen]; exact hl, (show (2 : Nat) ≤ lim by unfold lim; decide)⟩]
theorem e_getDT {e : β → PyData} {kvs : List ((Int × Int) × β)} {a b : Int} {x : β} {l : M (List PyData)} {P : PyData → En → Prop} {k0 : List (List Key × PyData)} (hv : getO kvs (a, b) = some x) (h0 : δ[i]? = some (some (.odT k0)))
    (h : Ep l δ fun ds δ1 => ds = [.int a, .int b] ∧ δ1[i]? = some (some (.odT (od2 e kvs))) ∧ P (e x) δ1) : Ep (gGetDT i l) δ P := by
  obtain ⟨ds, δ1, h1, rfl, g1, p⟩ := h
  refine ⟨_, _, ?_, p⟩
  unfold gGetDT
  have hk : dKeys [.int a, .int b] = some (kE2 (a, b)) := rfl
  simp only [h0, h1, g1, hk, getK_od2 hv]
  exact if_pos (show (2 : Nat) ≤ lim by unfold lim; decide)
theorem putL_len {kvs : List (κ × β)} {k : κ} {x : β} : (putL kvs k x).length ≤ kvs.length + 1 := by unfold putL; split <;> simp
theorem getO_map {k j : κ} {x : β} : ∀ {kvs : List (κ × β)}, getO (kvs.map fun kv => if kv.1 = k then (kv.1, x) else kv) j = if j = k then (getO kvs k).map fun _ => x else getO kvs j
  | [] => by unfold getO; split <;> rfl
  | (k2, y) :: kvs => by
    have ih := getO_map (k := k) (j := j) (x := x) (kvs := kvs)
    have st : ∀ (a : κ) (b : β) (l : List (κ × β)) (z : κ), getO ((a, b) :: l) z = if a = z then some b else getO l z := fun a b l z => by
      unfold getO
      by_cases c : a = z <;> simp [c]
    rw [List.map_cons]
    by_cases c1 : k2 = k
    · subst c1
      rw [if_pos rfl, st, st, ih]
      by_cases c2 : k2 = j
      · subst c2; simp
      · have : ¬ j = k2 := fun e => c2 e.symm
        simp [c2, this, st]
    · rw [if_neg c1, st, st, ih]
      by_cases c2 : k2 = j
      · subst c2; rw [if_pos rfl, if_neg c1, st, if_pos rfl]
      · simp [c1, c2, st]
theorem getO_put {kvs : List (κ × β)} {k j : κ} {x : β} : getO (putL kvs k x) j = if j = k then some x else getO kvs j := by
  have anyk : (kvs.any fun kv => decide (kv.1 = k)) = (getO kvs k).isSome := by
    unfold getO
    induction kvs with
    | nil => rfl
    | cons a l ih =>
      by_cases c : a.1 = k
      · simp [c]
      · simp [c] at ih ⊢; exact ih
  unfold putL
  split
  · next h =>
    rw [anyk] at h
    rw [getO_map]
    split
    · obtain ⟨y, hy⟩ := Option.isSome_iff_exists.mp h
      rw [hy]; rfl
    · rfl
  · next h =>
    rw [anyk] at h
    have hn : getO kvs k = none := by cases e : getO kvs k with
      | none => rfl
      | some y => rw [e] at h; exact absurd rfl h
    unfold getO at hn ⊢
    rw [List.find?_append]
    by_cases c : j = k
    · subst c
      have : (kvs.find? fun kv => decide (kv.1 = j)) = none := by simpa using hn
      rw [this]; simp
    · have : ¬ k = j := fun e => c e.symm
      simp [c, this]
theorem hd_odT {δ' : En} {k : List (List Key × PyData)} (h : hide δ = δ') : hide (some (.odT k) :: δ) = none :: δ' := by
  show hide1 (some (.odT k)) :: hide δ = _
  rw [h]; rfl
end
end Pv

namespace Pv
open PySem PySem.Spec L2
open PyProof.Rows hiding St
/-! Tq: fractions are rationals -/
def frP (a : Rat) : Int × Int := (a.num, (a.den : Int))
def Sz (n : Nat) (a : Rat) : Prop := BtF n (frP a)
theorem frP_pos (a : Rat) : 0 < (frP a).2 := by show (0 : Int) < (a.den : Int); have := a.den_pos; omega
theorem frP_can (a : Rat) : Can (frP a) := ⟨frP_pos a, by
  show Int.gcd a.num (a.den : Int) = 1
  have := a.reduced
  unfold Nat.Coprime at this
  simpa [Int.gcd] using this⟩
theorem frP_qv (a : Rat) : qv (frP a) = a := by
  show (a.num : Rat) / ((a.den : Int) : Rat) = a
  have := Rat.mkRat_self a
  rw [Rat.mkRat_eq_div] at this
  exact_mod_cast this
theorem can_frP {p : Int × Int} (h : Can p) : p = frP (qv p) := can_inj h (frP_can _) (frP_qv _).symm
theorem frP_inj {a b : Rat} (h : frP a = frP b) : a = b := by rw [← frP_qv a, h, frP_qv]
theorem frP_eq {a b : Rat} : frP a = frP b ↔ a = b := ⟨frP_inj, fun h => by rw [h]⟩
theorem frP_int (i : Int) : frP (i : Rat) = (i, 1) := by
  refine (can_frP (p := (i, 1)) ⟨by show (0 : Int) < 1; decide, by simp⟩).symm ▸ ?_
  congr 1
  show (i : Rat) = (i : Rat) / ((1 : Int) : Rat)
  have : ((1 : Int) : Rat) = 1 := by simp
  rw [this]; grind
theorem frP_zero : frP 0 = (0, 1) := frP_int 0
theorem frP_one : frP 1 = (1, 1) := frP_int 1
theorem frP_sign {a : Rat} : ((frP a).1 < 0 ↔ a < 0) ∧ (0 < (frP a).1 ↔ 0 < a) ∧ ((frP a).1 = 0 ↔ a = 0) := by
  have h0 := qv_lt (p := frP a) (q := frP 0) (frP_pos _) (frP_pos _)
  have h1 := qv_lt (p := frP 0) (q := frP a) (frP_pos _) (frP_pos _)
  rw [frP_qv, frP_qv, frP_zero] at h0 h1
  have e1 : (frP a).1 * 1 < 0 * (frP a).2 ↔ (frP a).1 < 0 := by constructor <;> intro h <;> omega
  have e2 : 0 * (frP a).2 < (frP a).1 * 1 ↔ 0 < (frP a).1 := by constructor <;> intro h <;> omega
  have h0 : (frP a).1 * 1 < 0 * (frP a).2 ↔ a < 0 := h0
  have h1 : 0 * (frP a).2 < (frP a).1 * 1 ↔ 0 < a := h1
  rw [e1] at h0
  rw [e2] at h1
  refine ⟨h0, h1, ?_⟩
  constructor
  · intro h
    have : ¬ a < 0 := fun z => by have := h0.mpr z; omega
    have : ¬ 0 < a := fun z => by have := h1.mpr z; omega
    grind
  · intro h
    have : ¬ (frP a).1 < 0 := fun z => by have := h0.mp z; grind
    have : ¬ 0 < (frP a).1 := fun z => by have := h1.mp z; grind
    omega
theorem frP_lt {a b : Rat} : (frP a).1 * (frP b).2 < (frP b).1 * (frP a).2 ↔ a < b := by
  have := qv_lt (p := frP a) (q := frP b) (frP_pos _) (frP_pos _)
  rwa [frP_qv, frP_qv] at this
theorem cut_frP {t b : Int} (hb : b ≠ 0) : cutZ t b = frP ((t : Rat) / (b : Rat)) := by rw [can_frP (can_cut (t := t) hb), cut_qv hb]
theorem plus_frP (a b : Rat) : plusZ (frP a) (frP b) = frP (a + b) := by rw [can_frP (can_plus (frP_pos a) (frP_pos b)), qv_plus (frP_pos a) (frP_pos b), frP_qv, frP_qv]
theorem less_frP (a b : Rat) : lessZ (frP a) (frP b) = frP (a - b) := by rw [can_frP (can_less (frP_pos a) (frP_pos b)), qv_less (frP_pos a) (frP_pos b), frP_qv, frP_qv]
theorem times_frP (a b : Rat) : timesZ (frP a) (frP b) = frP (a * b) := by rw [can_frP (can_times (frP_pos a) (frP_pos b)), qv_times (frP_pos a) (frP_pos b), frP_qv, frP_qv]
/-! ### how great they are -/
theorem Sz.mono {n m : Nat} {a : Rat} (h : Sz n a) (w : n ≤ m) : Sz m a := BtF.mono h w
theorem Sz.add {n m : Nat} {a b : Rat} (h : Sz n a) (g : Sz m b) : Sz (n + m + 1) (a + b) := by unfold Sz; rw [← plus_frP]; exact btF_plus h g
theorem Sz.sub {n m : Nat} {a b : Rat} (h : Sz n a) (g : Sz m b) : Sz (n + m + 1) (a - b) := by unfold Sz; rw [← less_frP]; exact btF_less h g
theorem Sz.mul {n m : Nat} {a b : Rat} (h : Sz n a) (g : Sz m b) : Sz (n + m) (a * b) := by unfold Sz; rw [← times_frP]; exact btF_times h g
theorem Sz.int {n : Nat} {i : Int} (h : Bt n i) (hn : 1 ≤ n) : Sz n (i : Rat) := by
  unfold Sz
  rw [frP_int]
  have b1 : Bt 1 (1 : Int) := by unfold Bt; decide
  exact ⟨h, b1.mono hn⟩
theorem Sz.frac {n : Nat} {t b : Int} (hb : b ≠ 0) (h1 : Bt n t) (h2 : Bt n b) : Sz n ((t : Rat) / (b : Rat)) := by unfold Sz; rw [← cut_frP hb]; exact btF_cut h1 h2
theorem Sz.neg {n : Nat} {a : Rat} (h : Sz n a) : Sz n (-a) := by
  exact ⟨by show Bt n (-a).num; rw [Rat.neg_num]; exact bt_neg h.1, h.2⟩
theorem bt_of {n : Nat} {i : Int} (h : i.natAbs < 2 ^ n) : Bt n i := h
theorem Sz.small {i : Int} (h : -1023 ≤ i ∧ i ≤ 1023) : Sz 10 (i : Rat) := Sz.int (bt_small (by omega)) (by decide)
theorem Sz.zero : Sz 1 0 := by unfold Sz; rw [frP_zero]; exact ⟨by unfold Bt; decide, by unfold Bt; decide⟩
theorem Sz.one : Sz 1 1 := by unfold Sz; rw [frP_one]; exact ⟨by unfold Bt; decide, by unfold Bt; decide⟩
/-! ### the typed defs -/
def redT (top : Int) (bottom : Int) : Option (Int × Int) := (if (decide (bottom < (0 : Int))) = true then (gcdO (absI ((0 : Int) - top)) ((0 : Int) - bottom)).bind fun v1 => (divI ((0 : Int) - top) v1).bind fun v2 => (divI ((0 : Int) - bottom) v1).bind fun v3 => some (v2, v3) else (gcdO (absI top) bottom).bind fun v4 => (divI top v4).bind fun v5 => (divI bottom v4).bind fun v6 => some (v5, v6))
def cutN (top : Int) (bottom : Int) : Option (Int × Int) := (if (decide (bottom < (0 : Int))) = true then (gcdO (absI (-top)) (-bottom)).bind fun v1 => (divI (-top) v1).bind fun v2 => (divI (-bottom) v1).bind fun v3 => some (v2, v3) else (gcdO (absI top) bottom).bind fun v4 => (divI top v4).bind fun v5 => (divI bottom v4).bind fun v6 => some (v5, v6))
abbrev FrF := Int × Int → Int × Int → Option (Int × Int)
def CutOk (r : Int → Int → Option (Int × Int)) : Prop := ∀ (t b : Int) (n : Nat), b ≠ 0 → Bt n b → n ≤ 8999 → r t b = some (frP ((t : Rat) / (b : Rat)))
theorem cut_pos {t b : Int} {n : Nat} (hb : 0 < b) (h : Bt n b) (hn : n ≤ 8999) : ((gcdO (absI t) b).bind fun v4 => (divI t v4).bind fun v5 => (divI b v4).bind fun v6 => some (v5, v6)) = some (t / (Int.gcd t b : Int), b / (Int.gcd t b : Int)) := by
  have hg := gcd_le (t := t) (b := b) (by omega)
  have g1 : gcdO (absI t) b = some (Int.gcd t b : Int) := by unfold gcdO gd; rw [if_pos ⟨absI_nn t, by omega⟩, gcd_abs]
  have hlog : (Int.gcd t b : Int).natAbs.log2 < 9000 := by
    have : Bt n (Int.gcd t b : Int) := by unfold Bt at *; omega
    have := bt_log this
    omega
  have d : ∀ x : Int, divI x (Int.gcd t b : Int) = some (x / (Int.gcd t b : Int)) := fun x => by unfold divI; rw [if_pos ⟨by omega, hlog⟩]
  rw [g1]
  simp only [Option.bind_some, d]
theorem cutN_ok : CutOk cutN := by
  intro t b n hb h hn
  rw [← cut_frP hb]
  unfold cutN cutZ
  by_cases h0 : b < 0
  · have e : Int.gcd (-t) (-b) = Int.gcd t b := by simp [Int.gcd]
    rw [if_pos (decide_eq_true h0), if_pos h0, cut_pos (by omega) (bt_neg h) hn, e]
  · rw [if_neg (by simpa using h0), if_neg h0, cut_pos (by omega) h hn]
theorem redT_ok : CutOk redT := by
  intro t b n hb h hn
  rw [← cutN_ok t b n hb h hn]
  unfold redT cutN
  simp only [Int.zero_sub]
def addT (r : Int → Int → Option (Int × Int)) (one : Int × Int) (late : Int × Int) : Option (Int × Int) := (mulI one.1 late.2).bind fun v1 => (mulI late.1 one.2).bind fun v2 => (mulI one.2 late.2).bind fun v3 => (r (v1 + v2) v3).bind fun v4 => some v4
def takeT (r : Int → Int → Option (Int × Int)) (one : Int × Int) (late : Int × Int) : Option (Int × Int) := (mulI one.1 late.2).bind fun v1 => (mulI late.1 one.2).bind fun v2 => (mulI one.2 late.2).bind fun v3 => (r (v1 - v2) v3).bind fun v4 => some v4
def timesT (r : Int → Int → Option (Int × Int)) (one : Int × Int) (late : Int × Int) : Option (Int × Int) := (mulI one.1 late.1).bind fun v1 => (mulI one.2 late.2).bind fun v2 => (r v1 v2).bind fun v3 => some v3
def overT (r : Int → Int → Option (Int × Int)) (one : Int × Int) (late : Int × Int) : Option (Int × Int) := (mulI one.1 late.2).bind fun v1 => (mulI one.2 late.1).bind fun v2 => (r v1 v2).bind fun v3 => some v3
def belowT (one : Int × Int) (late : Int × Int) : Option Bool := (mulI one.1 late.2).bind fun v1 => (mulI late.1 one.2).bind fun v2 => some (decide (v1 < v2))
theorem mulI_bt {n m : Nat} {i j : Int} (h : Bt n i) (g : Bt m j) (hn : n ≤ 400000) (hm : m ≤ 400000) : mulI i j = some (i * j) := by
  unfold mulI
  have h1 := bt_log h
  have h2 := bt_log g
  rw [if_pos (by omega)]
theorem mulI_sm {i j : Int} (hi : -1000000000 ≤ i ∧ i ≤ 1000000000) (hj : -1000000000 ≤ j ∧ j ≤ 1000000000) : mulI i j = some (i * j) :=
  mulI_bt (n := 30) (m := 30) (by unfold Bt; omega) (by unfold Bt; omega) (by decide) (by decide)
section
variable {r : Int → Int → Option (Int × Int)} {n m : Nat} {a b : Rat}
theorem add_ok (hr : CutOk r) (ha : Sz n a) (hb : Sz m b) (hn : n ≤ 4000) (hm : m ≤ 4000) : addT r (frP a) (frP b) = some (frP (a + b)) := by
  unfold addT
  rw [mulI_bt ha.1 hb.2 (by omega) (by omega), mulI_bt hb.1 ha.2 (by omega) (by omega), mulI_bt ha.2 hb.2 (by omega) (by omega)]
  simp only [Option.bind_some]
  rw [hr _ _ (n + m) (mul_ne (frP_pos a) (frP_pos b)) (bt_mul ha.2 hb.2) (by omega), ← cut_frP (mul_ne (frP_pos a) (frP_pos b))]
  show some (plusZ (frP a) (frP b)) = _
  rw [plus_frP]
theorem take_ok (hr : CutOk r) (ha : Sz n a) (hb : Sz m b) (hn : n ≤ 4000) (hm : m ≤ 4000) : takeT r (frP a) (frP b) = some (frP (a - b)) := by
  unfold takeT
  rw [mulI_bt ha.1 hb.2 (by omega) (by omega), mulI_bt hb.1 ha.2 (by omega) (by omega), mulI_bt ha.2 hb.2 (by omega) (by omega)]
  simp only [Option.bind_some]
  rw [hr _ _ (n + m) (mul_ne (frP_pos a) (frP_pos b)) (bt_mul ha.2 hb.2) (by omega), ← cut_frP (mul_ne (frP_pos a) (frP_pos b))]
  show some (lessZ (frP a) (frP b)) = _
  rw [less_frP]
theorem times_ok' (hr : CutOk r) (ha : Sz n a) (hb : Sz m b) (hn : n ≤ 4000) (hm : m ≤ 4000) : timesT r (frP a) (frP b) = some (frP (a * b)) := by
  unfold timesT
  rw [mulI_bt ha.1 hb.1 (by omega) (by omega), mulI_bt ha.2 hb.2 (by omega) (by omega)]
  simp only [Option.bind_some]
  rw [hr _ _ (n + m) (mul_ne (frP_pos a) (frP_pos b)) (bt_mul ha.2 hb.2) (by omega), ← cut_frP (mul_ne (frP_pos a) (frP_pos b))]
  show some (timesZ (frP a) (frP b)) = _
  rw [times_frP]
theorem over_ok (hr : CutOk r) (ha : Sz n a) (hb : Sz m b) (h0 : b ≠ 0) (hn : n ≤ 4000) (hm : m ≤ 4000) : overT r (frP a) (frP b) = some (frP (a / b)) ∧ Sz (n + m) (a / b) := by
  have hb0 : (frP b).1 ≠ 0 := fun h => h0 (frP_sign.2.2.mp h)
  have hne : (frP a).2 * (frP b).1 ≠ 0 := Int.mul_ne_zero (by have := frP_pos a; omega) hb0
  have e : (((frP a).1 * (frP b).2 : Int) : Rat) / (((frP a).2 * (frP b).1 : Int) : Rat) = a / b := by
    have qa := frP_qv a
    have qb := frP_qv b
    unfold qv at qa qb
    have n1 := ratne (show (frP a).2 ≠ 0 by have := frP_pos a; omega)
    have n2 := ratne (show (frP b).2 ≠ 0 by have := frP_pos b; omega)
    have n3 := ratne hb0
    rw [← qa, ← qb]
    push_cast
    grind
  constructor
  · unfold overT
    rw [mulI_bt ha.1 hb.2 (by omega) (by omega), mulI_bt ha.2 hb.1 (by omega) (by omega)]
    simp only [Option.bind_some]
    rw [hr _ _ (n + m) hne (bt_mul ha.2 hb.1) (by omega), e]
    rfl
  · rw [← e]
    exact Sz.frac hne (bt_mul ha.1 hb.2) (bt_mul ha.2 hb.1)
theorem below_ok' (ha : Sz n a) (hb : Sz m b) (hn : n ≤ 4000) (hm : m ≤ 4000) : belowT (frP a) (frP b) = some (decide (a < b)) := by
  unfold belowT
  rw [mulI_bt ha.1 hb.2 (by omega) (by omega), mulI_bt hb.1 ha.2 (by omega) (by omega)]
  simp only [Option.bind_some]
  have : decide ((frP a).1 * (frP b).2 < (frP b).1 * (frP a).2) = decide (a < b) := by rw [decide_eq_decide]; exact frP_lt
  rw [this]
end
/-! ### what is shown and judged -/
theorem isFr_frP (a : Rat) : isFr (.tuple [.int (frP a).1, .int (frP a).2]) = true := by
  have := frP_can a
  have h1 := this.pos
  have h2 := this.cop
  show (decide (1 ≤ (frP a).2) && decide ((Int.gcd (frP a).1 (frP a).2 : Int) = 1)) = true
  rw [h2]
  simp
  omega
def absR (a : Rat) : Rat := if a < 0 then -a else a
theorem frP_abs (a : Rat) : (absI (frP a).1, (frP a).2) = frP (absR a) := by
  have h := frP_sign (a := a)
  unfold absR absI
  by_cases h0 : a < 0
  · rw [if_pos (h.1.mpr h0), if_pos h0]
    show (-a.num, (a.den : Int)) = ((-a).num, ((-a).den : Int))
    rw [Rat.neg_num]; rfl
  · rw [if_neg (fun z => h0 (h.1.mp z)), if_neg h0]
theorem absR_nn (a : Rat) : 0 ≤ absR a := by unfold absR; split <;> grind
theorem Sz.abs {n : Nat} {a : Rat} (h : Sz n a) : Sz n (absR a) := by unfold absR; split; exact h.neg; exact h
/-- what repr shows -/
def RpOk (D W : Nat) (d : PyData) : Prop := nic2 d = true ∧ d.depth ≤ D ∧ wt2 d ≤ W
theorem RpOk.mono {D W D' W' : Nat} {d : PyData} (h : RpOk D W d) (hd : D ≤ D') (hw : W ≤ W') : RpOk D' W' d := ⟨h.1, Nat.le_trans h.2.1 hd, Nat.le_trans h.2.2 hw⟩
theorem repr_ok {D W : Nat} {d : PyData} (h : RpOk D W d) (hd : D ≤ 60) (hw : W ≤ 1000000) : reprO d = some d.shown := by
  have := q_repr2 h.1 (Nat.le_trans h.2.1 hd) (Nat.le_trans h.2.2 hw)
  by_cases e : reprOk d = true
  · unfold reprO gd
    rw [if_pos e]
  · have h2 : reprD [d] = if reprOk d = true then some (AV.fz (PyData.str d.shown)) else none := rfl
    rw [h2, if_neg e] at this
    cases this
end Pv

namespace Pv
open PySem PySem.Spec L2
open PyProof.Rows hiding St
/-! Tm: what the typed steps come to -/
section
variable {α β σ ρ : Type}
theorem gd_ok {c : Prop} [Decidable c] {x : α} (h : c) : gd c x = some x := if_pos h
theorem mpG_ok {f : α → Option β} {g : α → β} : ∀ {xs : List α}, (∀ x ∈ xs, f x = some (g x)) → mpG f xs = some (xs.map g)
  | [], _ => rfl
  | x :: xs, h => by
    show (f x).bind _ = _
    rw [h x (by simp), Option.bind_some, mpG_ok (xs := xs) fun y m => h y (by simp [m])]; rfl
theorem mpO_ok {f : α → Option β} (g : α → β) {xs : List α} (hl : xs.length ≤ lim) (h : ∀ x ∈ xs, f x = some (g x)) : mpO f xs = some (xs.map g) := by unfold mpO; rw [if_pos hl]; exact mpG_ok h
theorem mpG_map {γ : Type} {f : β → Option γ} {g : α → β} : ∀ {xs : List α}, mpG f (xs.map g) = mpG (fun x => f (g x)) xs
  | [] => rfl
  | x :: xs => by show (f (g x)).bind _ = _; rw [mpG_map]; rfl
theorem mpO_map {γ : Type} {f : β → Option γ} {g : α → β} {xs : List α} : mpO f (xs.map g) = mpO (fun x => f (g x)) xs := by unfold mpO; rw [List.length_map, mpG_map]
theorem forO_map {f : σ → β → Option σ} {g : α → β} : ∀ {xs : List α} {s : σ}, forO f (xs.map g) s = forO (fun s x => f s (g x)) xs s
  | [], _ => rfl
  | x :: xs, s => by
    have ih : ∀ s', forO f (xs.map g) s' = forO (fun s x => f s (g x)) xs s' := fun s' => forO_map
    show (f s (g x)).bind (fun s' => forO f (xs.map g) s') = (f s (g x)).bind fun s' => forO (fun s x => f s (g x)) xs s'
    simp only [ih]
theorem lcG_ok {c : α → Option Bool} {f : α → Option β} {p : α → Bool} {g : α → β} : ∀ {xs : List α}, (∀ x ∈ xs, c x = some (p x)) → (∀ x ∈ xs, p x = true → f x = some (g x)) → lcG c f xs = some ((xs.filter p).map g)
  | [], _, _ => rfl
  | x :: xs, hc, hf => by
    have ih := lcG_ok (xs := xs) (fun y m => hc y (by simp [m])) (fun y m => hf y (by simp [m]))
    show (c x).bind _ = _
    rw [hc x (by simp), Option.bind_some]
    cases hp : p x with
    | true =>
      rw [if_pos rfl, hf x (by simp) hp, Option.bind_some, ih, Option.bind_some, List.filter_cons, if_pos hp]; rfl
    | false => rw [if_neg (by decide), ih, List.filter_cons, if_neg (by rw [hp]; decide)]
theorem lcO_ok {c : α → Option Bool} {f : α → Option β} (p : α → Bool) (g : α → β) {xs : List α} (hl : xs.length ≤ lim) (hc : ∀ x ∈ xs, c x = some (p x)) (hf : ∀ x ∈ xs, p x = true → f x = some (g x)) : lcO c f xs = some ((xs.filter p).map g) := by
  unfold lcO; rw [if_pos hl]; exact lcG_ok hc hf
/-- with a state: what holds of the state, of each thing -/
theorem mpsG_inv {f : σ → α → Option (β × σ)} (I : σ → Prop) (R : α → β → Prop) : ∀ {xs : List α} {s : σ}, I s → (∀ s x, x ∈ xs → I s → ∃ y s', f s x = some (y, s') ∧ I s' ∧ R x y) → ∃ ys s', mpsG f xs s = some (ys, s') ∧ I s' ∧ ys.length = xs.length ∧ ∀ i (h : i < xs.length) (h' : i < ys.length), R xs[i] ys[i]
  | [], s, hs, _ => ⟨[], s, rfl, hs, rfl, fun i h => absurd h (Nat.not_lt_zero _)⟩
  | x :: xs, s, hs, hf => by
    obtain ⟨y, s1, e1, h1, r1⟩ := hf s x (by simp) hs
    obtain ⟨ys, s2, e2, h2, l2, r2⟩ := mpsG_inv I R (xs := xs) h1 fun s y m => hf s y (by simp [m])
    refine ⟨y :: ys, s2, ?_, h2, by simp [l2], fun i h h' => ?_⟩
    · show (f s x).bind _ = _
      rw [e1, Option.bind_some, e2]; rfl
    · cases i with
      | zero => exact r1
      | succ i => exact r2 i (by simpa using h) (by simpa using h')
theorem mpsO_inv {f : σ → α → Option (β × σ)} (I : σ → Prop) (R : α → β → Prop) {xs : List α} {s : σ} (hl : xs.length ≤ lim) (hs : I s) (hf : ∀ s x, x ∈ xs → I s → ∃ y s', f s x = some (y, s') ∧ I s' ∧ R x y) : ∃ ys s', mpsO f xs s = some (ys, s') ∧ I s' ∧ ys.length = xs.length ∧ ∀ i (h : i < xs.length) (h' : i < ys.length), R xs[i] ys[i] := by
  unfold mpsO; rw [if_pos hl]; exact mpsG_inv I R hs hf
/-- each thing has a property -/
theorem mpsO_all {f : σ → α → Option (β × σ)} (I : σ → Prop) (R : β → Prop) {xs : List α} {s : σ} (hl : xs.length ≤ lim) (hs : I s) (hf : ∀ s x, x ∈ xs → I s → ∃ y s', f s x = some (y, s') ∧ I s' ∧ R y) : ∃ ys s', mpsO f xs s = some (ys, s') ∧ I s' ∧ ys.length = xs.length ∧ ∀ y ∈ ys, R y := by
  obtain ⟨ys, s', h1, h2, h3, h4⟩ := mpsO_inv I (fun _ y => R y) hl hs hf
  refine ⟨ys, s', h1, h2, h3, fun y m => ?_⟩
  obtain ⟨i, hi, rfl⟩ := List.mem_iff_getElem.mp m
  exact h4 i (by omega) hi
theorem forO_inv {f : σ → α → Option σ} (I : List α → σ → Prop) : ∀ {xs : List α} {s : σ}, I xs s → (∀ x xs s, I (x :: xs) s → ∃ s', f s x = some s' ∧ I xs s') → ∃ s', forO f xs s = some s' ∧ I [] s'
  | [], s, h, _ => ⟨s, rfl, h⟩
  | x :: xs, s, h, hf => by
    obtain ⟨s1, e1, h1⟩ := hf x xs s h
    obtain ⟨s2, e2, h2⟩ := forO_inv I h1 hf
    exact ⟨s2, by show (f s x).bind _ = _; rw [e1, Option.bind_some, e2], h2⟩
theorem forO_fold {f : σ → α → Option σ} {g : σ → α → σ} : ∀ {xs : List α} {s : σ}, (∀ s x, x ∈ xs → f s x = some (g s x)) → forO f xs s = some (xs.foldl g s)
  | [], _, _ => rfl
  | x :: xs, s, h => by
    show (f s x).bind _ = _
    rw [h s x (by simp), Option.bind_some, forO_fold fun s y m => h s y (by simp [m])]; rfl
/-- a fold seen through another state -/
theorem forO_via {τ : Type} {f : σ → α → Option σ} (e : τ → σ) (g : τ → α → τ) : ∀ {xs : List α} {t : τ}, (∀ t x, x ∈ xs → f (e t) x = some (e (g t x))) → forO f xs (e t) = some (e (xs.foldl g t))
  | [], _, _ => rfl
  | x :: xs, t, h => by
    show Option.bind _ _ = _
    rw [h t x (by simp)]
    exact forO_via e g fun t y hy => h t y (by simp [hy])
/-- a fold whose state stays in a set -/
theorem forO_foldI {f : σ → α → Option σ} {g : σ → α → σ} (I : σ → Prop) : ∀ {xs : List α} {s : σ}, I s → (∀ s x, x ∈ xs → I s → f s x = some (g s x) ∧ I (g s x)) → forO f xs s = some (xs.foldl g s) ∧ I (xs.foldl g s)
  | [], _, hs, _ => ⟨rfl, hs⟩
  | x :: xs, s, hs, h => by
    obtain ⟨h1, h2⟩ := h s x (by simp) hs
    obtain ⟨h3, h4⟩ := forO_foldI I (xs := xs) h2 fun s y m => h s y (by simp [m])
    exact ⟨by show (f s x).bind _ = _; rw [h1, Option.bind_some, h3]; rfl, h4⟩
theorem forR_inv {f : σ → α → Option (Lp σ ρ)} (I : List α → σ → Prop) : ∀ {xs : List α} {s : σ}, I xs s → (∀ x xs s, I (x :: xs) s → ∃ s', f s x = some (.go s') ∧ I xs s') → ∃ s', forR f xs s = some (.go s') ∧ I [] s'
  | [], s, h, _ => ⟨s, rfl, h⟩
  | x :: xs, s, h, hf => by
    obtain ⟨s1, e1, h1⟩ := hf x xs s h
    obtain ⟨s2, e2, h2⟩ := forR_inv I h1 hf
    exact ⟨s2, by show (f s x).bind _ = _; rw [e1, Option.bind_some]; exact e2, h2⟩
/-- a loop that only looks: each turn goes on -/
theorem forR_all {f : Unit → α → Option (Lp Unit ρ)} {xs : List α} (h : ∀ x ∈ xs, f () x = some (.go ())) : forR f xs () = some (.go ()) := by
  obtain ⟨s, e, _⟩ := forR_inv (f := f) (fun ys _ => ∀ y ∈ ys, y ∈ xs) (xs := xs) (s := ()) (fun _ m => m) (fun x ys s hI => ⟨(), h x (hI x (by simp)), fun y m => hI y (by simp [m])⟩)
  exact e
theorem forO_append {f : σ → α → Option σ} : ∀ {xs ys : List α} {s : σ}, forO f (xs ++ ys) s = (forO f xs s).bind fun s' => forO f ys s'
  | [], ys, s => rfl
  | x :: xs, ys, s => by
    show (f s x).bind _ = ((f s x).bind _).bind _
    cases f s x with
    | none => rfl
    | some s' => exact forO_append
/-- loops one within the other -/
theorem forO_flat {f : σ → β → Option σ} {g : α → List β} : ∀ {xs : List α} {s : σ}, forO (fun s x => forO f (g x) s) xs s = forO f (xs.flatMap g) s
  | [], _ => rfl
  | x :: xs, s => by
    rw [List.flatMap_cons, forO_append]
    show (forO f (g x) s).bind _ = _
    congr 1
    funext s'
    exact forO_flat
theorem bind_some_eta {x : Option α} : (x.bind fun v => some v) = x := by cases x <;> rfl
/-- the greatest of some -/
def grS (v : α → Rat) (m : Rat) (p : α) : Rat := if m < v p then v p else m
theorem fold_gr {v : α → Rat} : ∀ (P : List α) (m : Rat), m ≤ P.foldl (grS v) m ∧ (∀ p ∈ P, v p ≤ P.foldl (grS v) m) ∧ (P.foldl (grS v) m = m ∨ ∃ p ∈ P, P.foldl (grS v) m = v p)
  | [], m => ⟨by grind, fun p h => absurd h (List.not_mem_nil), .inl rfl⟩
  | q :: P, m => by
    obtain ⟨h1, h2, h3⟩ := fold_gr (v := v) P (grS v m q)
    rw [List.foldl_cons]
    have hm : m ≤ grS v m q ∧ v q ≤ grS v m q ∧ (grS v m q = m ∨ grS v m q = v q) := by unfold grS; split <;> refine ⟨by grind, by grind, ?_⟩ <;> simp
    refine ⟨by grind, fun p hp => ?_, ?_⟩
    · rcases List.mem_cons.mp hp with rfl | hp
      · grind
      · exact h2 p hp
    · rcases h3 with h3 | ⟨p, hp, h4⟩
      · rcases hm.2.2 with e | e
        · exact .inl (by rw [h3, e])
        · exact .inr ⟨q, by simp, by rw [h3, e]⟩
      · exact .inr ⟨p, by simp [hp], h4⟩
/-- the greatest by a loop -/
theorem forO_gr {f : Int × Int → α → Option (Int × Int)} {v : α → Rat} {N : Nat} {P : List α} {m : Rat} (hm : Sz N m) (hv : ∀ p ∈ P, Sz N (v p)) (hf : ∀ m p, p ∈ P → Sz N m → f (frP m) p = some (frP (grS v m p))) : forO f P (frP m) = some (frP (P.foldl (grS v) m)) := by
  obtain ⟨s, e, m1, rfl, _, _, h⟩ := forO_inv (f := f) (fun rest s => ∃ m1, s = frP m1 ∧ Sz N m1 ∧ (∀ p ∈ rest, p ∈ P) ∧ rest.foldl (grS v) m1 = P.foldl (grS v) m) (xs := P) (s := frP m) ⟨m, rfl, hm, fun _ h => h, rfl⟩ (by
    rintro x rest s ⟨m1, rfl, h1, h2, h3⟩
    refine ⟨_, hf m1 x (h2 x (by simp)) h1, _, rfl, ?_, fun p hp => h2 p (by simp [hp]), h3⟩
    unfold grS
    split
    · exact hv x (h2 x (by simp))
    · exact h1)
  rw [e, ← h]; rfl
/-! ### ranges -/
theorem rngI_len : ∀ {n : Nat} {lo : Int}, (rngI lo n).length = n
  | 0, _ => rfl
  | n + 1, _ => by show (rngI _ n).length + 1 = _; rw [rngI_len]
theorem rngI_get : ∀ {n : Nat} {lo : Int} {i : Nat} (h : i < (rngI lo n).length), (rngI lo n)[i] = lo + i
  | n + 1, lo, 0, _ => by show lo = _; omega
  | n + 1, lo, i + 1, h => by
    show (rngI (lo + 1) n)[i]'(by simpa [rngI_len] using h) = _
    rw [rngI_get]; omega
theorem rngI_mem {n : Nat} {lo x : Int} : x ∈ rngI lo n ↔ lo ≤ x ∧ x < lo + n := by
  constructor
  · intro h
    obtain ⟨i, hi, rfl⟩ := List.mem_iff_getElem.mp h
    rw [rngI_get]
    rw [rngI_len] at hi
    omega
  · rintro ⟨h1, h2⟩
    refine List.mem_iff_getElem.mpr ⟨(x - lo).toNat, by rw [rngI_len]; omega, ?_⟩
    rw [rngI_get]; omega
theorem rngI_range : ∀ {n : Nat} {lo : Int}, rngI lo n = (List.range n).map (fun i : Nat => lo + (i : Int)) := by
  intro n lo
  refine List.ext_getElem (by rw [rngI_len]; simp) fun i h1 h2 => ?_
  rw [rngI_get]; simp
theorem rng1O_ok {j : Int} (h : -1000000 ≤ j ∧ j ≤ 1000000) : rng1O j = some (rngI 0 j.toNat) := gd_ok h
theorem rng1O_nat {n : Nat} (h : n ≤ 1000000) : rng1O (n : Int) = some (rngI 0 n) := by rw [rng1O_ok (by omega)]; simp
theorem rng2O_ok {i j : Int} (h : (-1000000 ≤ i ∧ i ≤ 1000000) ∧ -1000000 ≤ j ∧ j ≤ 1000000) : rng2O i j = some (rngI i (j - i).toNat) := gd_ok h
/-! ### places -/
theorem atI_get {xs : List α} {i : Int} (h0 : 0 ≤ i) (h : i < xs.length) : atI xs i = some (xs[i.toNat]'(by omega)) := by
  unfold atI ixN
  rw [if_pos h0, if_pos h]
  exact List.getElem?_eq_getElem (by omega)
theorem atI_natS {xs : List α} {i : Nat} (h : i < xs.length) : atI xs (i : Int) = some xs[i] := by
  rw [atI_get (by omega) (by omega)]; simp
theorem atI_last {xs : List α} (h : xs ≠ []) : atI xs (-1) = some (xs.getLast h) := by
  have hl := List.length_pos_iff.mpr h
  unfold atI ixN
  rw [if_neg (by decide), if_pos (by omega)]
  show xs[((-1 : Int) + xs.length).toNat]? = _
  have e : ((-1 : Int) + xs.length).toNat = xs.length - 1 := by omega
  rw [e, List.getLast_eq_getElem, List.getElem?_eq_getElem (by omega)]
theorem cutG_take {xs : List α} {k : Int} (h : 0 ≤ k) : cutG xs none (some k) = xs.take k.toNat := by
  have e : HT.sIx xs.length xs.length (some k) = min k.toNat xs.length := by show (if k < 0 then _ else _) = _; rw [if_neg (by omega)]
  unfold cutG
  rw [e]
  show (xs.drop 0).take (min k.toNat xs.length - 0) = _
  rw [List.drop_zero, Nat.sub_zero]
  by_cases h2 : k.toNat ≤ xs.length
  · rw [Nat.min_eq_left h2]
  · rw [Nat.min_eq_right (by omega), List.take_length, List.take_of_length_le (by omega)]
theorem cutG_drop {xs : List α} {k : Int} (h : 0 ≤ k) : cutG xs (some k) none = xs.drop k.toNat := by
  have e : HT.sIx xs.length 0 (some k) = min k.toNat xs.length := by show (if k < 0 then _ else _) = _; rw [if_neg (by omega)]
  unfold cutG
  rw [e]
  show (xs.drop (min k.toNat xs.length)).take (xs.length - min k.toNat xs.length) = _
  by_cases h2 : k.toNat ≤ xs.length
  · rw [Nat.min_eq_left h2, List.take_of_length_le (by rw [List.length_drop]; omega)]
  · rw [Nat.min_eq_right (by omega), List.drop_length, List.drop_of_length_le (by omega)]; simp
theorem cutG_drop1 {xs : List α} : cutG xs (some (1 : Int)) none = xs.drop 1 := cutG_drop (by decide)
theorem cutG_mid {xs : List α} {i j : Int} (h : 0 ≤ i) (h2 : i ≤ j) (h3 : j ≤ xs.length) : cutG xs (some i) (some j) = (xs.drop i.toNat).take (j - i).toNat := by
  have e : HT.sIx xs.length 0 (some i) = i.toNat := by show (if i < 0 then _ else _) = _; rw [if_neg (by omega), Nat.min_eq_left (by omega)]
  have e2 : HT.sIx xs.length xs.length (some j) = j.toNat := by show (if j < 0 then _ else _) = _; rw [if_neg (by omega), Nat.min_eq_left (by omega)]
  unfold cutG
  rw [e, e2]
  congr 1
  omega
theorem maxI_ok {xs : List Int} (h : xs ≠ []) : ∃ m, maxI xs = some m ∧ m ∈ xs ∧ ∀ y ∈ xs, y ≤ m := by
  cases xs with
  | nil => exact absurd rfl h
  | cons n ns =>
    obtain ⟨h1, h2, h3⟩ := fold_max ns n
    refine ⟨_, rfl, ?_, fun y m => ?_⟩
    · rcases h1 with e | e
      · rw [e]; simp
      · simp [e]
    · rcases List.mem_cons.mp m with rfl | m
      · exact h2
      · exact h3 y m
theorem minI_ok {xs : List Int} (h : xs ≠ []) : ∃ m, minI xs = some m ∧ m ∈ xs ∧ ∀ y ∈ xs, m ≤ y := by
  cases xs with
  | nil => exact absurd rfl h
  | cons n ns =>
    obtain ⟨h1, h2, h3⟩ := fold_min ns n
    refine ⟨_, rfl, ?_, fun y m => ?_⟩
    · rcases h1 with e | e
      · rw [e]; simp
      · simp [e]
    · rcases List.mem_cons.mp m with rfl | m
      · exact h2
      · exact h3 y m
theorem sortO_ok {xs : List Int} (h : xs.length < 64) : sortO xs = some (sortI xs) := gd_ok h
theorem sortI_perm (xs : List Int) : (sortI xs).Perm xs := List.mergeSort_perm ..
theorem sortI_sorted (xs : List Int) : (sortI xs).Pairwise (· ≤ ·) := by
  have := List.pairwise_mergeSort (le := fun i j : Int => decide (i ≤ j)) (fun a b c h1 h2 => by simp at *; omega) (fun a b => by simp; omega) xs
  exact this.imp fun h => by simpa using h
theorem all_id {p : α → Bool} {xs : List α} : (xs.map p).all id = xs.all p := by induction xs <;> simp_all
theorem any_id {p : α → Bool} {xs : List α} : (xs.map p).any id = xs.any p := by induction xs <;> simp_all
/-- neighbours -/
theorem zip_next {xs : List α} {R : α → α → Prop} : (∀ p ∈ xs.zip (xs.drop 1), R p.1 p.2) ↔ ∀ i (h : i + 1 < xs.length), R xs[i] xs[i + 1] := by
  constructor
  · intro h i hi
    have hm : (xs[i], xs[i + 1]) ∈ xs.zip (xs.drop 1) := by
      refine List.mem_iff_getElem.mpr ⟨i, by rw [List.length_zip, List.length_drop]; omega, ?_⟩
      rw [List.getElem_zip]
      congr 1
      rw [List.getElem_drop]
      congr 1
      omega
    exact h _ hm
  · intro h p hm
    obtain ⟨i, hi, rfl⟩ := List.mem_iff_getElem.mp hm
    rw [List.length_zip, List.length_drop] at hi
    rw [List.getElem_zip]
    have := h i (by omega)
    show R xs[i] _
    have e : (xs.drop 1)[i]'(by rw [List.length_drop]; omega) = xs[i + 1] := by rw [List.getElem_drop]; congr 1; omega
    rw [e]
    exact this
theorem zip_get {xs : List α} {ys : List β} {R : α → β → Prop} : (∀ p ∈ xs.zip ys, R p.1 p.2) ↔ ∀ i (h : i < xs.length) (h' : i < ys.length), R xs[i] ys[i] := by
  constructor
  · intro h i hi hi'
    exact h (xs[i], ys[i]) (List.mem_iff_getElem.mpr ⟨i, by rw [List.length_zip]; omega, by rw [List.getElem_zip]⟩)
  · intro h p hm
    obtain ⟨i, hi, rfl⟩ := List.mem_iff_getElem.mp hm
    rw [List.length_zip] at hi
    rw [List.getElem_zip]
    exact h i (by omega) (by omega)
end
/-! ### what repr asks -/
section
variable {α β : Type} {e : α → PyData} {e' : β → PyData}
theorem rp_int {n : Nat} {i : Int} (h : Bt n i) (hn : n ≤ 1800) : RpOk 0 2000 (.int i) := ⟨nic2_bt h (by omega), by simp [PyData.depth], by simp [wt2]⟩
theorem rp_none : RpOk 0 300 .none := ⟨by simp [nic2], by simp [PyData.depth], by simp [wt2]⟩
theorem rp_bool {b : Bool} : RpOk 0 300 (.bool b) := ⟨by simp [nic2], by simp [PyData.depth], by simp [wt2]⟩
theorem rp_fr {n : Nat} {a : Rat} (h : Sz n a) (hn : n ≤ 1800) : RpOk 1 4008 (eT2 eI eI (frP a)) := by
  obtain ⟨a1, b1, c1⟩ := rp_int h.1 hn
  obtain ⟨a2, b2, c2⟩ := rp_int h.2 hn
  refine ⟨?_, ?_, ?_⟩
  · show nic2 (.tuple [.int (frP a).1, .int (frP a).2]) = true
    simp only [nic2, nic2L] at *
    simp [a1, a2]
  · simp [PyData.depth, PyData.depthAll]
  · simp [wt2, wt2L]
theorem rp_two {D W D' W' : Nat} {x : α} {y : β} (h : RpOk D W (e x)) (h' : RpOk D' W' (e' y)) : RpOk (max D D' + 1) (W + W' + 8) (eT2 e e' (x, y)) := by
  obtain ⟨a1, b1, c1⟩ := h
  obtain ⟨a2, b2, c2⟩ := h'
  refine ⟨?_, ?_, ?_⟩
  · simp [nic2, nic2L, a1, a2]
  · simp only [PyData.depth, PyData.depthAll]; omega
  · simp only [wt2, wt2L]; omega
theorem nic2L_all : ∀ {xs : List PyData}, (∀ x ∈ xs, nic2 x = true) → nic2L xs = true
  | [], _ => rfl
  | x :: xs, h => by show (nic2 x && nic2L xs) = true; rw [h x (by simp), nic2L_all fun y hy => h y (by simp [hy])]; rfl
theorem wt2L_all {W : Nat} : ∀ {xs : List PyData}, (∀ x ∈ xs, wt2 x ≤ W) → wt2L xs ≤ xs.length * (W + 2)
  | [], _ => by simp [wt2L]
  | x :: xs, h => by
    show wt2 x + 2 + wt2L xs ≤ (xs.length + 1) * (W + 2)
    have h1 := h x (by simp)
    have h2 := wt2L_all (xs := xs) fun y hy => h y (by simp [hy])
    rw [Nat.succ_mul]
    omega
theorem rp_seq {D W L : Nat} {xs : List α} (h : ∀ x ∈ xs, RpOk D W (e x)) (hl : xs.length ≤ L) : RpOk (D + 1) (L * (W + 2) + 4) (.list (xs.map e)) ∧ RpOk (D + 1) (L * (W + 2) + 4) (.tuple (xs.map e)) := by
  have h1 : nic2L (xs.map e) = true := nic2L_all fun x m => by obtain ⟨a, ha, rfl⟩ := List.mem_map.mp m; exact (h a ha).1
  have h2 : PyData.depthAll (xs.map e) ≤ D := dpA fun x m => by obtain ⟨a, ha, rfl⟩ := List.mem_map.mp m; exact (h a ha).2.1
  have h3 : wt2L (xs.map e) ≤ L * (W + 2) := by
    have := wt2L_all (W := W) (xs := xs.map e) fun x m => by obtain ⟨a, ha, rfl⟩ := List.mem_map.mp m; exact (h a ha).2.2
    rw [List.length_map] at this
    exact Nat.le_trans this (Nat.mul_le_mul_right _ hl)
  exact ⟨⟨by simpa [nic2] using h1, by simp only [PyData.depth]; omega, by simp only [wt2]; omega⟩, ⟨by simpa [nic2] using h1, by simp only [PyData.depth]; omega, by simp only [wt2]; omega⟩⟩
theorem rp_list {D W L : Nat} {xs : List α} (h : ∀ x ∈ xs, RpOk D W (e x)) (hl : xs.length ≤ L) : RpOk (D + 1) (L * (W + 2) + 4) (eL e xs) := (rp_seq h hl).1
theorem rp_tup {D W L : Nat} {xs : List α} (h : ∀ x ∈ xs, RpOk D W (e x)) (hl : xs.length ≤ L) : RpOk (D + 1) (L * (W + 2) + 4) (eV e xs) := (rp_seq h hl).2
theorem rp_opt {D W : Nat} {x : Option α} (h : ∀ a, x = some a → RpOk D W (e a)) (hw : 300 ≤ W) : RpOk D W (eO e x) := by
  cases x with
  | none => exact rp_none.mono (by omega) hw
  | some a => exact h a rfl
/-- a loop that puts an item behind a list each turn -/
theorem forR_app {ρ : Type} {f : List β → α → Option (Lp (List β) ρ)} (g : α → β) : ∀ {xs : List α} {s : List β}, s.length + xs.length ≤ lim → (∀ s x, x ∈ xs → s.length < lim → f s x = some (.go (s ++ [g x]))) → forR f xs s = some (.go (s ++ xs.map g))
  | [], s, _, _ => by simp [forR]
  | x :: xs, s, hl, h => by
    have hx := h s x (by simp) (by simp at hl; omega)
    have := forR_app g (xs := xs) (s := s ++ [g x]) (by simp at hl ⊢; omega) fun s y hy => h s y (by simp [hy])
    simp only [forR, hx, Option.bind_some]
    rw [this]; simp
theorem enumI_rng {f : Int → α} : ∀ {n : Nat} {lo : Int}, enumI lo ((rngI lo n).map f) = (rngI lo n).map fun k => (k, f k)
  | 0, _ => rfl
  | n + 1, lo => by
    show (lo, f lo) :: enumI (lo + 1) ((rngI (lo + 1) n).map f) = _
    rw [enumI_rng]; rfl
theorem rngI_sorted : ∀ {n : Nat} {lo : Int}, (rngI lo n).Pairwise (· < ·)
  | 0, _ => .nil
  | n + 1, lo => .cons (fun y hy => by rw [rngI_mem] at hy; omega) rngI_sorted
/-- the last of those that pass -/
theorem fold_last {p : α → Bool} {e : α → β} : ∀ {l : List α} {s : Option β}, l.foldl (fun s k => if p k = true then some (e k) else s) s = (((l.filter p).getLast?).map e).or s
  | [], s => rfl
  | k :: l, s => by
    rw [List.foldl_cons, fold_last]
    cases hp : p k with
    | false => simp [hp]
    | true =>
      rw [List.filter_cons_of_pos hp]
      cases e2 : l.filter p with
      | nil => simp
      | cons a b => rw [List.getLast?_cons_cons, List.getLast?_eq_some_getLast (List.cons_ne_nil a b)]; rfl
theorem maxI_last {l : List Int} (h : l ≠ []) (hs : l.Pairwise (· < ·)) : maxI l = l.getLast? := by
  obtain ⟨m, e, hm, hy⟩ := maxI_ok h
  rw [e, List.getLast?_eq_some_getLast h]
  congr 1
  have h1 := hy _ (List.getLast_mem h)
  have h2 : m ≤ l.getLast h := by
    obtain ⟨i, hi, rfl⟩ := List.mem_iff_getElem.mp hm
    rw [List.getLast_eq_getElem]
    by_cases c : i = l.length - 1
    · simp [c]
    · exact Int.le_of_lt (List.pairwise_iff_getElem.mp hs i (l.length - 1) hi (by omega) (by omega))
  omega

/-- a loop that leaves at the first that fails -/
theorem forR_stop {ρ : Type} {f : Unit → α → Option (Lp Unit ρ)} {p : α → Bool} {r : ρ} : ∀ {xs : List α}, (∀ x ∈ xs, f () x = if p x = true then some (.go ()) else some (.ret r)) → forR f xs () = if xs.all p = true then some (.go ()) else some (.ret r)
  | [], _ => rfl
  | x :: xs, h => by
    have hx := h x (by simp)
    have ih := forR_stop (xs := xs) fun y hy => h y (by simp [hy])
    cases c : p x with
    | true => simp only [forR, hx, c, if_true, Option.bind_some, ih, List.all_cons, Bool.true_and]
    | false => simp [forR, hx, c]
/-- rising lists with the same items -/
theorem sorted_ext : ∀ {xs ys : List Int}, xs.Pairwise (· < ·) → ys.Pairwise (· < ·) → (∀ x, x ∈ xs ↔ x ∈ ys) → xs = ys
  | [], [], _, _, _ => rfl
  | [], y :: ys, _, _, h => absurd ((h y).mpr (by simp)) (by simp)
  | x :: xs, [], _, _, h => absurd ((h x).mp (by simp)) (by simp)
  | x :: xs, y :: ys, h1, h2, h => by
    cases h1 with
    | cons a1 b1 =>
      cases h2 with
      | cons a2 b2 =>
        have e : x = y := by
          have m1 := (h x).mp (by simp)
          have m2 := (h y).mpr (by simp)
          rcases List.mem_cons.mp m1 with rfl | m1
          · rfl
          · rcases List.mem_cons.mp m2 with rfl | m2
            · rfl
            · have := a1 y m2; have := a2 x m1; omega
        subst e
        congr 1
        refine sorted_ext b1 b2 fun z => ⟨fun m => ?_, fun m => ?_⟩
        · rcases List.mem_cons.mp ((h z).mp (by simp [m])) with rfl | q
          · exact absurd (a1 z m) (by omega)
          · exact q
        · rcases List.mem_cons.mp ((h z).mpr (by simp [m])) with rfl | q
          · exact absurd (a2 z m) (by omega)
          · exact q

end
end Pv

/-! Tp: fractions in least numbers by a loop of remainders -/
namespace Pv
open PySem PySem.Spec L2
open PyProof.Rows hiding St
def gcdC : Int × Int → Option Bool := fun (s1, s2) => some (!decide (s2 = (0 : Int)))
def gcdB {ρ : Type} : Int × Int → Option (Lp (Int × Int) ρ) := fun (s1, s2) => (modI s1 s2).bind fun v3 => some (.go (s2, v3))
theorem gcd_loop {ρ : Type} : ∀ (n : Nat) {a b : Int}, 0 ≤ a → 0 ≤ b → b.natAbs + 1 ≤ n → whlR (ρ := ρ) gcdC gcdB n (a, b) = some (.go ((Int.gcd a b : Int), 0))
  | 0, a, b, _, _, h => by omega
  | n + 1, a, b, ha, hb, h => by
    show Option.bind (gcdC (a, b)) _ = _
    by_cases c : b = 0
    · subst c
      have e : gcdC (a, 0) = some false := rfl
      rw [e, Option.bind_some, if_neg (by decide)]
      have : (Int.gcd a 0 : Int) = a := by simp; omega
      rw [this]
    · have e : gcdC (a, b) = some true := by show some (!decide (b = 0)) = _; simp [c]
      have hp : 0 < b := by omega
      have m : modI a b = some (a % b) := if_pos hp
      rw [e, Option.bind_some, if_pos rfl]
      show Option.bind (Option.bind (modI a b) _) _ = _
      rw [m, Option.bind_some, Option.bind_some]
      have l1 := Int.emod_lt_of_pos a hp
      have l0 := Int.emod_nonneg a (show b ≠ 0 by omega)
      show whlR gcdC gcdB n (b, a % b) = _
      rw [gcd_loop n hb l0 (by omega)]
      congr 3
      obtain ⟨p, rfl⟩ := Int.eq_ofNat_of_zero_le ha
      obtain ⟨q, rfl⟩ := Int.eq_ofNat_of_zero_le hb
      show (Nat.gcd q (p % q) : Int) = Nat.gcd p q
      rw [Nat.gcd_comm q, ← Nat.gcd_rec, Nat.gcd_comm]
def plainT (top : Int) (bottom : Int) : Option (Int × Int) := (whlR (σ := Int × Int) (ρ := Int × Int) gcdC gcdB ((absI bottom).natAbs + 2) ((absI top), (absI bottom))).bind fun | .go (v4, v5) => (mulI (if (decide ((0 : Int) < bottom)) = true then (1 : Int) else (-(1 : Int))) top).bind fun v7 => (divI v7 v4).bind fun v8 => (mulI (if (decide ((0 : Int) < bottom)) = true then (1 : Int) else (-(1 : Int))) bottom).bind fun v9 => (divI v9 v4).bind fun v10 => some (v8, v10) | .brk _ => none | .ret _ => none
theorem plain_ok {t b : Int} {n m : Nat} (h0 : b ≠ 0) (hb : Bt n b) (ht : Bt m t) (hn : n ≤ 8999) (hm : m ≤ 400000) : plainT t b = some (frP ((t : Rat) / (b : Rat))) := by
  unfold plainT
  rw [gcd_loop _ (absI_nn t) (absI_nn b) (by omega), Option.bind_some]
  have g2 : (Int.gcd (absI t) (absI b) : Int) = (Int.gcd t b : Int) := by rw [absI_eq, absI_eq]; simp [Int.gcd]
  have hg := gcd_le (t := t) (b := b) h0
  have gp : (0 : Int) < (Int.gcd t b : Int) := by
    have := Int.gcd_pos_of_ne_zero_right t h0; omega
  have hlog : (Int.gcd t b : Int).natAbs.log2 < 9000 := by
    have h1 : (Int.gcd t b : Int).natAbs < 2 ^ n := Nat.lt_of_le_of_lt (by omega) hb
    have h2 : (Int.gcd t b : Int).natAbs ≠ 0 := by omega
    have h3 := (Nat.log2_lt h2).mpr h1
    omega
  have dv : ∀ x : Int, divI x (Int.gcd t b : Int) = some (x / (Int.gcd t b : Int)) := fun x => if_pos ⟨gp, hlog⟩
  have cz := cut_frP (t := t) h0
  rw [← cz]
  unfold cutZ
  have one : Bt 1 (1 : Int) := by unfold Bt; decide
  have one' : Bt 1 (-1 : Int) := by unfold Bt; decide
  show Option.bind (mulI (if (decide ((0 : Int) < b)) = true then (1 : Int) else (-(1 : Int))) t) _ = _
  by_cases c : 0 < b
  · rw [if_pos (decide_eq_true c), mulI_bt one ht (by decide) hm, Option.bind_some, g2, dv, Option.bind_some, mulI_bt one hb (by decide) (by omega), Option.bind_some, dv, Option.bind_some, if_neg (by omega), Int.one_mul, Int.one_mul]
  · rw [if_neg (by simpa using c), mulI_bt one' ht (by decide) hm, Option.bind_some, g2, dv, Option.bind_some, mulI_bt one' hb (by decide) (by omega), Option.bind_some, dv, Option.bind_some, if_pos (by omega), Int.neg_one_mul, Int.neg_one_mul]
/-- cuts for bounded tops -/
def CutW (r : Int → Int → Option (Int × Int)) : Prop := ∀ (t b : Int) (n m : Nat), b ≠ 0 → Bt n b → Bt m t → n ≤ 8999 → m ≤ 400000 → r t b = some (frP ((t : Rat) / (b : Rat)))
theorem plainW : CutW plainT := fun t b n m h0 hb ht hn hm => plain_ok h0 hb ht hn hm
section
variable {r : Int → Int → Option (Int × Int)} {n m : Nat} {a b : Rat}
theorem bt_sumW {x y : Int} {k : Nat} (hx : Bt k x) (hy : Bt k y) : Bt (k + 1) (x + y) ∧ Bt (k + 1) (x - y) := by
  unfold Bt at *
  rw [Nat.pow_succ]
  omega
theorem addW_ok (hr : CutW r) (ha : Sz n a) (hb : Sz m b) (hn : n ≤ 4000) (hm : m ≤ 4000) : addT r (frP a) (frP b) = some (frP (a + b)) := by
  unfold addT
  rw [mulI_bt ha.1 hb.2 (by omega) (by omega), mulI_bt hb.1 ha.2 (by omega) (by omega), mulI_bt ha.2 hb.2 (by omega) (by omega)]
  simp only [Option.bind_some]
  have k2 := bt_mul hb.1 ha.2
  rw [Nat.add_comm m n] at k2
  rw [hr _ _ (n + m) (n + m + 1) (mul_ne (frP_pos a) (frP_pos b)) (bt_mul ha.2 hb.2) (bt_sumW (bt_mul ha.1 hb.2) k2).1 (by omega) (by omega), ← cut_frP (mul_ne (frP_pos a) (frP_pos b))]
  show some (plusZ (frP a) (frP b)) = _
  rw [plus_frP]
theorem takeW_ok (hr : CutW r) (ha : Sz n a) (hb : Sz m b) (hn : n ≤ 4000) (hm : m ≤ 4000) : takeT r (frP a) (frP b) = some (frP (a - b)) := by
  unfold takeT
  rw [mulI_bt ha.1 hb.2 (by omega) (by omega), mulI_bt hb.1 ha.2 (by omega) (by omega), mulI_bt ha.2 hb.2 (by omega) (by omega)]
  simp only [Option.bind_some]
  have k2 := bt_mul hb.1 ha.2
  rw [Nat.add_comm m n] at k2
  rw [hr _ _ (n + m) (n + m + 1) (mul_ne (frP_pos a) (frP_pos b)) (bt_mul ha.2 hb.2) (bt_sumW (bt_mul ha.1 hb.2) k2).2 (by omega) (by omega), ← cut_frP (mul_ne (frP_pos a) (frP_pos b))]
  show some (lessZ (frP a) (frP b)) = _
  rw [less_frP]
theorem timesW_ok (hr : CutW r) (ha : Sz n a) (hb : Sz m b) (hn : n ≤ 4000) (hm : m ≤ 4000) : timesT r (frP a) (frP b) = some (frP (a * b)) := by
  unfold timesT
  rw [mulI_bt ha.1 hb.1 (by omega) (by omega), mulI_bt ha.2 hb.2 (by omega) (by omega)]
  simp only [Option.bind_some]
  rw [hr _ _ (n + m) (n + m) (mul_ne (frP_pos a) (frP_pos b)) (bt_mul ha.2 hb.2) (bt_mul ha.1 hb.1) (by omega) (by omega), ← cut_frP (mul_ne (frP_pos a) (frP_pos b))]
  show some (timesZ (frP a) (frP b)) = _
  rw [times_frP]
theorem neg_frP (q : Rat) : ((0 : Int) - (frP q).1, (frP q).2) = frP (-q) := by
  show ((0 : Int) - q.num, (q.den : Int)) = ((-q).num, ((-q).den : Int))
  rw [Rat.neg_num, Rat.neg_den]; congr 1; omega
end
end Pv

namespace Hd
open PySem PySem.Spec PyProof.Rows L2
def top (i : Nat) : Stmt := PySem.Challenge.pw_fitpapers_k12_whole_means_and_product_su.main.body.getD i (.Pass ⟨0, 0, 0, 0⟩)

def d_is_integer : He.DefD := ⟨("is_integer", none), "is_integer", "is_integer", defArgs (top 7), defBody (top 7), defScope (top 7), [], []⟩
def d_is_within : He.DefD := ⟨("is_within", none), "is_within", "is_within", defArgs (top 8), defBody (top 8), defScope (top 8), [], []⟩
def d_is_list : He.DefD := ⟨("is_list", none), "is_list", "is_list", defArgs (top 9), defBody (top 9), defScope (top 9), [], []⟩
def d_divisor : He.DefD := ⟨("divisor", none), "divisor", "divisor", defArgs (top 10), defBody (top 10), defScope (top 10), [], []⟩
def d_is_fraction_of : He.DefD := ⟨("is_fraction_of", none), "is_fraction_of", "is_fraction_of", defArgs (top 11), defBody (top 11), defScope (top 11), [], []⟩
def d_is_short : He.DefD := ⟨("is_short", none), "is_short", "is_short", defArgs (top 12), defBody (top 12), defScope (top 12), [], []⟩
def d_reduced : He.DefD := ⟨("reduced", none), "reduced", "reduced", defArgs (top 15), defBody (top 15), defScope (top 15), [], []⟩
def d_add : He.DefD := ⟨("add", none), "add", "add", defArgs (top 16), defBody (top 16), defScope (top 16), [], []⟩
def d_take : He.DefD := ⟨("take", none), "take", "take", defArgs (top 17), defBody (top 17), defScope (top 17), [], []⟩
def d_multiply : He.DefD := ⟨("multiply", none), "multiply", "multiply", defArgs (top 18), defBody (top 18), defScope (top 18), [], []⟩
def d_total : He.DefD := ⟨("total", none), "total", "total", defArgs (top 19), defBody (top 19), defScope (top 19), [], []⟩
def d_is_row_of : He.DefD := ⟨("is_row_of", none), "is_row_of", "is_row_of", defArgs (top 25), defBody (top 25), defScope (top 25), [], []⟩
def d_is_table_of : He.DefD := ⟨("is_table_of", none), "is_table_of", "is_table_of", defArgs (top 26), defBody (top 26), defScope (top 26), [], []⟩
def d_check_table : He.DefD := ⟨("check_table", none), "check_table", "check_table", defArgs (top 27), defBody (top 27), defScope (top 27), [], []⟩
def d_is_rule_of : He.DefD := ⟨("is_rule_of", none), "is_rule_of", "is_rule_of", defArgs (top 28), defBody (top 28), defScope (top 28), [], []⟩
def d_check_rule : He.DefD := ⟨("check_rule", none), "check_rule", "check_rule", defArgs (top 29), defBody (top 29), defScope (top 29), [], []⟩
def d_check_column : He.DefD := ⟨("check_column", none), "check_column", "check_column", defArgs (top 30), defBody (top 30), defScope (top 30), [], []⟩
def d_columns_of : He.DefD := ⟨("columns_of", none), "columns_of", "columns_of", defArgs (top 31), defBody (top 31), defScope (top 31), [], []⟩
def d_inputs_of : He.DefD := ⟨("inputs_of", none), "inputs_of", "inputs_of", defArgs (top 32), defBody (top 32), defScope (top 32), [], []⟩
def d_answers_of : He.DefD := ⟨("answers_of", none), "answers_of", "answers_of", defArgs (top 33), defBody (top 33), defScope (top 33), [], []⟩
def d_column_mean : He.DefD := ⟨("column_mean", none), "column_mean", "column_mean", defArgs (top 34), defBody (top 34), defScope (top 34), [], []⟩
def d_answer_mean : He.DefD := ⟨("answer_mean", none), "answer_mean", "answer_mean", defArgs (top 35), defBody (top 35), defScope (top 35), [], []⟩
def d_product_sum : He.DefD := ⟨("product_sum", none), "product_sum", "product_sum", defArgs (top 36), defBody (top 36), defScope (top 36), [], []⟩
def d_answer_sum : He.DefD := ⟨("answer_sum", none), "answer_sum", "answer_sum", defArgs (top 37), defBody (top 37), defScope (top 37), [], []⟩
def d_told_by : He.DefD := ⟨("told_by", none), "told_by", "told_by", defArgs (top 39), defBody (top 39), defScope (top 39), [], []⟩
def d_misses_of : He.DefD := ⟨("misses_of", none), "misses_of", "misses_of", defArgs (top 40), defBody (top 40), defScope (top 40), [], []⟩
def d_squares_by : He.DefD := ⟨("squares_by", none), "squares_by", "squares_by", defArgs (top 41), defBody (top 41), defScope (top 41), [], []⟩
def d_check_told : He.DefD := ⟨("check_told", none), "check_told", "check_told", defArgs (top 42), defBody (top 42), defScope (top 42), [], []⟩
def d_misses : He.DefD := ⟨("misses", none), "misses", "misses", defArgs (top 43), defBody (top 43), defScope (top 43), [], []⟩
def d_squares : He.DefD := ⟨("squares", none), "squares", "squares", defArgs (top 44), defBody (top 44), defScope (top 44), [], []⟩
def d__law_pot : He.DefD := ⟨("_law_pot", none), "_law_pot", "_law_pot", defArgs (top 46), defBody (top 46), defScope (top 46), [], []⟩
def d__law_draw : He.DefD := ⟨("_law_draw", none), "_law_draw", "_law_draw", defArgs (top 47), defBody (top 47), defScope (top 47), [], []⟩
def d__law_pick : He.DefD := ⟨("_law_pick", none), "_law_pick", "_law_pick", defArgs (top 48), defBody (top 48), defScope (top 48), [], []⟩
def d__law_divisor : He.DefD := ⟨("_law_divisor", none), "_law_divisor", "_law_divisor", defArgs (top 49), defBody (top 49), defScope (top 49), [], []⟩
def d__law_cut : He.DefD := ⟨("_law_cut", none), "_law_cut", "_law_cut", defArgs (top 50), defBody (top 50), defScope (top 50), [], []⟩
def d__law_plus : He.DefD := ⟨("_law_plus", none), "_law_plus", "_law_plus", defArgs (top 51), defBody (top 51), defScope (top 51), [], []⟩
def d__law_less : He.DefD := ⟨("_law_less", none), "_law_less", "_law_less", defArgs (top 52), defBody (top 52), defScope (top 52), [], []⟩
def d__law_times : He.DefD := ⟨("_law_times", none), "_law_times", "_law_times", defArgs (top 53), defBody (top 53), defScope (top 53), [], []⟩
def d__law_below : He.DefD := ⟨("_law_below", none), "_law_below", "_law_below", defArgs (top 54), defBody (top 54), defScope (top 54), [], []⟩
def d__law_total : He.DefD := ⟨("_law_total", none), "_law_total", "_law_total", defArgs (top 55), defBody (top 55), defScope (top 55), [], []⟩
def d__law_table : He.DefD := ⟨("_law_table", none), "_law_table", "_law_table", defArgs (top 56), defBody (top 56), defScope (top 56), [], []⟩
def d__law_rule : He.DefD := ⟨("_law_rule", none), "_law_rule", "_law_rule", defArgs (top 57), defBody (top 57), defScope (top 57), [], []⟩
def d__law_right : He.DefD := ⟨("_law_right", none), "_law_right", "_law_right", defArgs (top 58), defBody (top 58), defScope (top 58), [], []⟩
def d_law : He.DefD := ⟨("law", none), "law", "law", defArgs (top 59), defBody (top 59), defScope (top 59), [], []⟩
def fn : List He.DefD := [d_is_integer, d_is_within, d_is_list, d_divisor, d_is_fraction_of, d_is_short, d_reduced, d_add, d_take, d_multiply, d_total, d_is_row_of, d_is_table_of, d_check_table, d_is_rule_of, d_check_rule, d_check_column, d_columns_of, d_inputs_of, d_answers_of, d_column_mean, d_answer_mean, d_product_sum, d_answer_sum, d_told_by, d_misses_of, d_squares_by, d_check_told, d_misses, d_squares, d__law_pot, d__law_draw, d__law_pick, d__law_divisor, d__law_cut, d__law_plus, d__law_less, d__law_times, d__law_below, d__law_total, d__law_table, d__law_rule, d__law_right, d_law]
def ex : PySem.W.Frag → Bool := fun K => He.tupB K "NOUGHT" [.int (0), .int (1)]
def fa : List He.Fa := [.glo "is_integer", .glo "is_within", .glo "is_list", .glo "divisor", .glo "is_fraction_of", .glo "is_short", .glo "reduced", .glo "add", .glo "take", .glo "multiply", .glo "total", .glo "is_row_of", .glo "is_table_of", .glo "check_table", .glo "is_rule_of", .glo "check_rule", .glo "check_column", .glo "columns_of", .glo "inputs_of", .glo "answers_of", .glo "column_mean", .glo "answer_mean", .glo "product_sum", .glo "answer_sum", .glo "told_by", .glo "misses_of", .glo "squares_by", .glo "check_told", .glo "misses", .glo "squares", .glo "_law_pot", .glo "_law_draw", .glo "_law_pick", .glo "_law_divisor", .glo "_law_cut", .glo "_law_plus", .glo "_law_less", .glo "_law_times", .glo "_law_below", .glo "_law_total", .glo "_law_table", .glo "_law_rule", .glo "_law_right", .glo "law", .free "ValueError", .free "abs", .free "all", .free "bool", .free "divmod", .free "int", .free "isinstance", .free "len", .free "list", .free "max", .free "min", .free "range", .free "repr", .free "sum", .free "tuple", .free "zip", .int "MOST_DIGITS" (1000000000000), .int "MOST_ROWS" (8), .int "MOST_COLUMNS" (3), .int "MOST_INPUT" (99), .int "MOST_ANSWER" (999), .glo "NOUGHT"]
def names : List Str := ([("is_integer" : Str), ("is_within" : Str), ("is_list" : Str), ("divisor" : Str), ("is_fraction_of" : Str), ("is_short" : Str), ("reduced" : Str), ("add" : Str), ("take" : Str), ("multiply" : Str), ("total" : Str), ("is_row_of" : Str), ("is_table_of" : Str), ("check_table" : Str), ("is_rule_of" : Str), ("check_rule" : Str), ("check_column" : Str), ("columns_of" : Str), ("inputs_of" : Str), ("answers_of" : Str), ("column_mean" : Str), ("answer_mean" : Str), ("product_sum" : Str), ("answer_sum" : Str), ("told_by" : Str), ("misses_of" : Str), ("squares_by" : Str), ("check_told" : Str), ("misses" : Str), ("squares" : Str), ("_law_pot" : Str), ("_law_draw" : Str), ("_law_pick" : Str), ("_law_divisor" : Str), ("_law_cut" : Str)] : List Str) ++ ([("_law_plus" : Str), ("_law_less" : Str), ("_law_times" : Str), ("_law_below" : Str), ("_law_total" : Str), ("_law_table" : Str), ("_law_rule" : Str), ("_law_right" : Str), ("MOST_DIGITS" : Str), ("NOUGHT" : Str), ("MOST_ROWS" : Str), ("MOST_COLUMNS" : Str), ("MOST_INPUT" : Str), ("MOST_ANSWER" : Str), ("FitError" : Str), ("InvalidTable" : Str), ("InvalidRule" : Str), ("InvalidColumn" : Str)] : List Str)
end Hd

namespace Lw
open PySem PySem.Spec L2 Pv
open PyProof.Rows hiding St
theorem bn_is_integer_1 : Bnd "is_integer" (defArgs (Hd.top 7)) ["value"] 1 0 [] [0] := fun _ _ _ _ _ _ _ _ us ws h1 h2 => match us, ws, h1, h2 with | [_], [], _, _ => rfl
theorem bn_divisor_2 : Bnd "divisor" (defArgs (Hd.top 10)) ["one", "late"] 2 0 [] [0, 1] := fun _ _ _ _ _ _ _ _ us ws h1 h2 => match us, ws, h1, h2 with | [_, _], [], _, _ => rfl
theorem bn_is_fraction_of_1 : Bnd "is_fraction_of" (defArgs (Hd.top 11)) ["value"] 1 0 [] [0] := fun _ _ _ _ _ _ _ _ us ws h1 h2 => match us, ws, h1, h2 with | [_], [], _, _ => rfl
theorem bn_reduced_2 : Bnd "reduced" (defArgs (Hd.top 15)) ["top", "bottom"] 2 0 [] [0, 1] := fun _ _ _ _ _ _ _ _ us ws h1 h2 => match us, ws, h1, h2 with | [_, _], [], _, _ => rfl
theorem bn_add_2 : Bnd "add" (defArgs (Hd.top 16)) ["one", "late"] 2 0 [] [0, 1] := fun _ _ _ _ _ _ _ _ us ws h1 h2 => match us, ws, h1, h2 with | [_, _], [], _, _ => rfl
theorem bn_is_within_3 : Bnd "is_within" (defArgs (Hd.top 8)) ["value", "least", "most"] 3 0 [] [0, 1, 2] := fun _ _ _ _ _ _ _ _ us ws h1 h2 => match us, ws, h1, h2 with | [_, _, _], [], _, _ => rfl
theorem bn_is_row_of_1 : Bnd "is_row_of" (defArgs (Hd.top 25)) ["value"] 1 0 [] [0] := fun _ _ _ _ _ _ _ _ us ws h1 h2 => match us, ws, h1, h2 with | [_], [], _, _ => rfl
theorem bn_is_list_1 : Bnd "is_list" (defArgs (Hd.top 9)) ["value"] 1 0 [] [0] := fun _ _ _ _ _ _ _ _ us ws h1 h2 => match us, ws, h1, h2 with | [_], [], _, _ => rfl
theorem bn_is_table_of_1 : Bnd "is_table_of" (defArgs (Hd.top 26)) ["value"] 1 0 [] [0] := fun _ _ _ _ _ _ _ _ us ws h1 h2 => match us, ws, h1, h2 with | [_], [], _, _ => rfl
theorem bn_columns_of_1 : Bnd "columns_of" (defArgs (Hd.top 31)) ["table"] 1 0 [] [0] := fun _ _ _ _ _ _ _ _ us ws h1 h2 => match us, ws, h1, h2 with | [_], [], _, _ => rfl
theorem bn_is_short_1 : Bnd "is_short" (defArgs (Hd.top 12)) ["value"] 1 0 [] [0] := fun _ _ _ _ _ _ _ _ us ws h1 h2 => match us, ws, h1, h2 with | [_], [], _, _ => rfl
theorem bn_is_rule_of_2 : Bnd "is_rule_of" (defArgs (Hd.top 28)) ["table", "value"] 2 0 [] [0, 1] := fun _ _ _ _ _ _ _ _ us ws h1 h2 => match us, ws, h1, h2 with | [_, _], [], _, _ => rfl
theorem bn_inputs_of_2 : Bnd "inputs_of" (defArgs (Hd.top 32)) ["table", "column"] 2 0 [] [0, 1] := fun _ _ _ _ _ _ _ _ us ws h1 h2 => match us, ws, h1, h2 with | [_, _], [], _, _ => rfl
theorem bn_check_column_2 : Bnd "check_column" (defArgs (Hd.top 30)) ["table", "value"] 2 0 [] [0, 1] := fun _ _ _ _ _ _ _ _ us ws h1 h2 => match us, ws, h1, h2 with | [_, _], [], _, _ => rfl
theorem bn_check_table_1 : Bnd "check_table" (defArgs (Hd.top 27)) ["value"] 1 0 [] [0] := fun _ _ _ _ _ _ _ _ us ws h1 h2 => match us, ws, h1, h2 with | [_], [], _, _ => rfl
theorem bn_answers_of_1 : Bnd "answers_of" (defArgs (Hd.top 33)) ["table"] 1 0 [] [0] := fun _ _ _ _ _ _ _ _ us ws h1 h2 => match us, ws, h1, h2 with | [_], [], _, _ => rfl
theorem bn_multiply_2 : Bnd "multiply" (defArgs (Hd.top 18)) ["one", "late"] 2 0 [] [0, 1] := fun _ _ _ _ _ _ _ _ us ws h1 h2 => match us, ws, h1, h2 with | [_, _], [], _, _ => rfl
theorem bn_take_2 : Bnd "take" (defArgs (Hd.top 17)) ["one", "late"] 2 0 [] [0, 1] := fun _ _ _ _ _ _ _ _ us ws h1 h2 => match us, ws, h1, h2 with | [_, _], [], _, _ => rfl
theorem bn_told_by_2 : Bnd "told_by" (defArgs (Hd.top 39)) ["inputs", "rule"] 2 0 [] [0, 1] := fun _ _ _ _ _ _ _ _ us ws h1 h2 => match us, ws, h1, h2 with | [_, _], [], _, _ => rfl
theorem bn_total_1 : Bnd "total" (defArgs (Hd.top 19)) ["some"] 1 0 [] [0] := fun _ _ _ _ _ _ _ _ us ws h1 h2 => match us, ws, h1, h2 with | [_], [], _, _ => rfl
theorem bn_misses_of_2 : Bnd "misses_of" (defArgs (Hd.top 40)) ["table", "rule"] 2 0 [] [0, 1] := fun _ _ _ _ _ _ _ _ us ws h1 h2 => match us, ws, h1, h2 with | [_, _], [], _, _ => rfl
theorem bn_check_rule_2 : Bnd "check_rule" (defArgs (Hd.top 29)) ["table", "value"] 2 0 [] [0, 1] := fun _ _ _ _ _ _ _ _ us ws h1 h2 => match us, ws, h1, h2 with | [_, _], [], _, _ => rfl
theorem bn_check_told_2 : Bnd "check_told" (defArgs (Hd.top 42)) ["table", "rule"] 2 0 [] [0, 1] := fun _ _ _ _ _ _ _ _ us ws h1 h2 => match us, ws, h1, h2 with | [_, _], [], _, _ => rfl
theorem bn_squares_by_2 : Bnd "squares_by" (defArgs (Hd.top 41)) ["table", "rule"] 2 0 [] [0, 1] := fun _ _ _ _ _ _ _ _ us ws h1 h2 => match us, ws, h1, h2 with | [_, _], [], _, _ => rfl
theorem bn__law_draw_2 : Bnd "_law_draw" (defArgs (Hd.top 47)) ["pot", "many"] 2 0 [] [0, 1] := fun _ _ _ _ _ _ _ _ us ws h1 h2 => match us, ws, h1, h2 with | [_, _], [], _, _ => rfl
theorem bn__law_divisor_2 : Bnd "_law_divisor" (defArgs (Hd.top 49)) ["one", "other"] 2 0 [] [0, 1] := fun _ _ _ _ _ _ _ _ us ws h1 h2 => match us, ws, h1, h2 with | [_, _], [], _, _ => rfl
theorem bn__law_cut_2 : Bnd "_law_cut" (defArgs (Hd.top 50)) ["top", "bottom"] 2 0 [] [0, 1] := fun _ _ _ _ _ _ _ _ us ws h1 h2 => match us, ws, h1, h2 with | [_, _], [], _, _ => rfl
theorem bn__law_plus_2 : Bnd "_law_plus" (defArgs (Hd.top 51)) ["one", "other"] 2 0 [] [0, 1] := fun _ _ _ _ _ _ _ _ us ws h1 h2 => match us, ws, h1, h2 with | [_, _], [], _, _ => rfl
theorem bn__law_pick_2 : Bnd "_law_pick" (defArgs (Hd.top 48)) ["pot", "some"] 2 0 [] [0, 1] := fun _ _ _ _ _ _ _ _ us ws h1 h2 => match us, ws, h1, h2 with | [_, _], [], _, _ => rfl
theorem bn__law_less_2 : Bnd "_law_less" (defArgs (Hd.top 52)) ["one", "other"] 2 0 [] [0, 1] := fun _ _ _ _ _ _ _ _ us ws h1 h2 => match us, ws, h1, h2 with | [_, _], [], _, _ => rfl
theorem bn__law_times_2 : Bnd "_law_times" (defArgs (Hd.top 53)) ["one", "other"] 2 0 [] [0, 1] := fun _ _ _ _ _ _ _ _ us ws h1 h2 => match us, ws, h1, h2 with | [_, _], [], _, _ => rfl
theorem bn__law_total_1 : Bnd "_law_total" (defArgs (Hd.top 55)) ["some"] 1 0 [] [0] := fun _ _ _ _ _ _ _ _ us ws h1 h2 => match us, ws, h1, h2 with | [_], [], _, _ => rfl
theorem bn_misses_2 : Bnd "misses" (defArgs (Hd.top 43)) ["table", "rule"] 2 0 [] [0, 1] := fun _ _ _ _ _ _ _ _ us ws h1 h2 => match us, ws, h1, h2 with | [_, _], [], _, _ => rfl
theorem bn_squares_2 : Bnd "squares" (defArgs (Hd.top 44)) ["table", "rule"] 2 0 [] [0, 1] := fun _ _ _ _ _ _ _ _ us ws h1 h2 => match us, ws, h1, h2 with | [_, _], [], _, _ => rfl
theorem bn__law_below_2 : Bnd "_law_below" (defArgs (Hd.top 54)) ["one", "other"] 2 0 [] [0, 1] := fun _ _ _ _ _ _ _ _ us ws h1 h2 => match us, ws, h1, h2 with | [_, _], [], _, _ => rfl
theorem bn_product_sum_3 : Bnd "product_sum" (defArgs (Hd.top 36)) ["table", "column", "late"] 3 0 [] [0, 1, 2] := fun _ _ _ _ _ _ _ _ us ws h1 h2 => match us, ws, h1, h2 with | [_, _, _], [], _, _ => rfl
theorem bn_product_sum_0_late_column_table : Bnd "product_sum" (defArgs (Hd.top 36)) ["table", "column", "late"] 0 3 ["late", "column", "table"] [2, 1, 0] := fun _ _ _ _ _ _ _ _ us ws h1 h2 => match us, ws, h1, h2 with | [], [_, _, _], _, _ => rfl
theorem bn_answer_sum_0_column_table : Bnd "answer_sum" (defArgs (Hd.top 37)) ["table", "column"] 0 2 ["column", "table"] [1, 0] := fun _ _ _ _ _ _ _ _ us ws h1 h2 => match us, ws, h1, h2 with | [], [_, _], _, _ => rfl
theorem bn_answer_sum_2 : Bnd "answer_sum" (defArgs (Hd.top 37)) ["table", "column"] 2 0 [] [0, 1] := fun _ _ _ _ _ _ _ _ us ws h1 h2 => match us, ws, h1, h2 with | [_, _], [], _, _ => rfl
theorem bn_column_mean_0_column_table : Bnd "column_mean" (defArgs (Hd.top 34)) ["table", "column"] 0 2 ["column", "table"] [1, 0] := fun _ _ _ _ _ _ _ _ us ws h1 h2 => match us, ws, h1, h2 with | [], [_, _], _, _ => rfl
theorem bn_column_mean_2 : Bnd "column_mean" (defArgs (Hd.top 34)) ["table", "column"] 2 0 [] [0, 1] := fun _ _ _ _ _ _ _ _ us ws h1 h2 => match us, ws, h1, h2 with | [_, _], [], _, _ => rfl
theorem bn_answer_mean_0_table : Bnd "answer_mean" (defArgs (Hd.top 35)) ["table"] 0 1 ["table"] [0] := fun _ _ _ _ _ _ _ _ us ws h1 h2 => match us, ws, h1, h2 with | [], [_], _, _ => rfl
theorem bn_answer_mean_1 : Bnd "answer_mean" (defArgs (Hd.top 35)) ["table"] 1 0 [] [0] := fun _ _ _ _ _ _ _ _ us ws h1 h2 => match us, ws, h1, h2 with | [_], [], _, _ => rfl
theorem bn__law_rule_2 : Bnd "_law_rule" (defArgs (Hd.top 57)) ["pot", "columns"] 2 0 [] [0, 1] := fun _ _ _ _ _ _ _ _ us ws h1 h2 => match us, ws, h1, h2 with | [_, _], [], _, _ => rfl
theorem bn__law_table_3 : Bnd "_law_table" (defArgs (Hd.top 56)) ["pot", "columns", "most"] 3 0 [] [0, 1, 2] := fun _ _ _ _ _ _ _ _ us ws h1 h2 => match us, ws, h1, h2 with | [_, _, _], [], _, _ => rfl
theorem bn__law_pot_2 : Bnd "_law_pot" (defArgs (Hd.top 46)) ["script", "k"] 2 0 [] [0, 1] := fun _ _ _ _ _ _ _ _ us ws h1 h2 => match us, ws, h1, h2 with | [_, _], [], _, _ => rfl
theorem bn__law_right_1 : Bnd "_law_right" (defArgs (Hd.top 58)) ["pot"] 1 0 [] [0] := fun _ _ _ _ _ _ _ _ us ws h1 h2 => match us, ws, h1, h2 with | [_], [], _, _ => rfl
theorem bn_law_1 : Bnd "law" (defArgs (Hd.top 59)) ["script"] 1 0 [] [0] := fun _ _ _ _ _ _ _ _ us ws h1 h2 => match us, ws, h1, h2 with | [_], [], _, _ => rfl
theorem tbk_NOUGHT {K : PySem.W.Frag} (h : Hd.ex K = true) : He.tupB K "NOUGHT" [.int (0), .int (1)] = true := h
section
variable {P : Program} {w : World} {K : PySem.W.Frag} {mg : Str → Option Value} {base : Heap}
def b_is_integer : Sm :=
 gSeq (gRet (aOf (gAndV (gIsi .int (gVar 0)) (gNotV (gIsi .bool (gVar 0))))))
 (gNil)
def m_is_integer : Fn := defF 1 1 false b_is_integer
theorem ok_is_integer (c : He.SaysD Hd.fa Hd.fn K) (cx : Hd.ex K = true) (KX : K.In base) (G : base.Ns mainGlobals mg) : DefAt P w K mg base "is_integer" (defArgs (Hd.top 7)) 1 1 ["value"] false m_is_integer := by
  have f_bool : mg "bool" = none := He.free_ok KX G (c.fact 47)
  have f_int : mg "int" = none := He.free_ok KX G (c.fact 49)
  have f_isinstance : mg "isinstance" = none := He.free_ok KX G (c.fact 50)
  obtain ⟨fd, F⟩ := c.def_ 0
  refine def_at (N := ["value"]) (k := 0) false F (He.glo_ok KX G (c.fact 0)) ⟨rfl, rfl, rfl, by decide +kernel, rfl, by decide +kernel, by decide +kernel⟩ 1 1 rfl rfl (by decide) ?_
  intro cdv A outer s H hgd hr
  have hu := hr.u64
  have hu5 := hr.u65
  have hN : (["value"] : List Str).Nodup := by decide +kernel
  refine b_cons ?_ b_nil
  refine s_ret ?_
  refine .of ?_
  refine d_and ?_ ?_
  · refine d_isi ?_ rfl f_isinstance rfl f_int (by decide +kernel)
    refine d_var 0
  · refine d_one ?_
    refine d_not ?_
    refine d_isi ?_ rfl f_isinstance rfl f_bool (by decide +kernel)
    refine d_var 0
def b_is_within : Sm :=
 gSeq (gRet (aOf (gAndV (dOf (gFn m_is_integer 1 0 [0] (lcons (gVar 0) (ret [])) (ret []))) (gBl (gChn leI leI (gVar 1) (gVar 0) (gVar 2))))))
 (gNil)
def m_is_within : Fn := defF 3 3 false b_is_within
theorem ok_is_within (c : He.SaysD Hd.fa Hd.fn K) (cx : Hd.ex K = true) (KX : K.In base) (G : base.Ns mainGlobals mg) : DefAt P w K mg base "is_within" (defArgs (Hd.top 8)) 2 3 ["value", "least", "most"] false m_is_within := by
  have D_is_integer := ok_is_integer (P := P) (w := w) (mg := mg) (base := base) c cx KX G
  obtain ⟨fd, F⟩ := c.def_ 1
  refine def_at (N := ["value", "least", "most"]) (k := 1) false F (He.glo_ok KX G (c.fact 1)) ⟨rfl, rfl, rfl, by decide +kernel, rfl, by decide +kernel, by decide +kernel⟩ 3 3 rfl rfl (by decide) ?_
  intro cdv A outer s H hgd hr
  have hu := hr.u64
  have hu5 := hr.u65
  have hN : (["value", "least", "most"] : List Str).Nodup := by decide +kernel
  refine b_cons ?_ b_nil
  refine s_ret ?_
  refine .of ?_
  refine d_and ?_ ?_
  · refine .of ?_
    refine c_fn D_is_integer bn_is_integer_1 (hr.mono (by decide)) hgd rfl ?_ k_nil
    refine l_cons ?_ l_nil
    refine d_var 0
  · refine d_one ?_
    refine d_chn o_le o_le ?_ ?_ ?_
    · refine d_var 1
    · refine d_var 0
    · refine d_var 2
def b_is_list : Sm :=
 gSeq (gRet (aOf (gIsi2 .list .tuple (gVar 0))))
 (gNil)
def m_is_list : Fn := defF 1 1 false b_is_list
theorem ok_is_list (c : He.SaysD Hd.fa Hd.fn K) (cx : Hd.ex K = true) (KX : K.In base) (G : base.Ns mainGlobals mg) : DefAt P w K mg base "is_list" (defArgs (Hd.top 9)) 1 1 ["value"] false m_is_list := by
  have f_isinstance : mg "isinstance" = none := He.free_ok KX G (c.fact 50)
  have f_list : mg "list" = none := He.free_ok KX G (c.fact 52)
  have f_tuple : mg "tuple" = none := He.free_ok KX G (c.fact 58)
  obtain ⟨fd, F⟩ := c.def_ 2
  refine def_at (N := ["value"]) (k := 0) false F (He.glo_ok KX G (c.fact 2)) ⟨rfl, rfl, rfl, by decide +kernel, rfl, by decide +kernel, by decide +kernel⟩ 1 1 rfl rfl (by decide) ?_
  intro cdv A outer s H hgd hr
  have hu := hr.u64
  have hu5 := hr.u65
  have hN : (["value"] : List Str).Nodup := by decide +kernel
  refine b_cons ?_ b_nil
  refine s_ret ?_
  refine .of ?_
  refine d_isi2 ?_ rfl f_isinstance rfl f_list (by decide +kernel) rfl f_tuple (by decide +kernel)
  refine d_var 0
def b_divisor : Sm :=
 gSeq (gWhl (natAt 1) (gCmp gtI (gVar 1) (ret (.int 0))) (gSeq (gParL [0, 1] (acons (aOf (gVar 1)) (acons (gBin modD (dOf (gCall intD (lcons (gVar 0) (ret [])))) (gVar 1)) (ret []))))
 (gNil)))
 (gSeq (gRet (mVar 0))
 (gNil))
def m_divisor : Fn := defF 2 2 false b_divisor
theorem ok_divisor (c : He.SaysD Hd.fa Hd.fn K) (cx : Hd.ex K = true) (KX : K.In base) (G : base.Ns mainGlobals mg) : DefAt P w K mg base "divisor" (defArgs (Hd.top 10)) 1 2 ["one", "late"] false m_divisor := by
  have f_int : mg "int" = none := He.free_ok KX G (c.fact 49)
  obtain ⟨fd, F⟩ := c.def_ 3
  refine def_at (N := ["one", "late"]) (k := 0) false F (He.glo_ok KX G (c.fact 3)) ⟨rfl, rfl, rfl, by decide +kernel, rfl, by decide +kernel, by decide +kernel⟩ 2 2 rfl rfl (by decide) ?_
  intro cdv A outer s H hgd hr
  have hu := hr.u64
  have hu5 := hr.u65
  have hN : (["one", "late"] : List Str).Nodup := by decide +kernel
  refine b_cons ?_ ?_
  · refine s_whl (natAt 1) PassesOwn.never ?_ ?_
    · refine t_cmp o_gt ?_ d_int
      refine d_var 1
    · refine b_cons ?_ b_nil
      refine s_par2 rfl hN ?_
      refine as_cons ?_ ?_
      · refine .of ?_
        refine d_var 1
      · refine as_cons ?_ as_nil
        refine a_bin o_mod ?_ ?_
        · refine .of ?_
          refine a_callTy c_int rfl f_int (by decide +kernel) ?_
          refine l_cons ?_ l_nil
          refine d_var 0
        · refine d_var 1
  · refine b_cons ?_ b_nil
    refine s_ret ?_
    refine a_mv 0
def b_is_fraction_of : Sm :=
 gSeq (gIfS (gOr (gNot (tB (gIsi .tuple (gVar 0)))) (gOr (gCmp neX (gLenV 0) (ret (.int 2))) (gOr (gNot (tB (dOf (gFn m_is_integer 1 0 [0] (lcons (gIxV 0 (ret (.int 0))) (ret [])) (ret []))))) (gNot (tB (dOf (gFn m_is_integer 1 0 [0] (lcons (gIxV 0 (ret (.int 1))) (ret [])) (ret [])))))))) (gSeq (gRet (aOf (ret (.bool false))))
 (gNil)) (gNil))
 (gSeq (gRet (aOf (gAndV (gBl (gCmp geI (gIxV 0 (ret (.int 1))) (ret (.int 1)))) (gBl (gCmp eqX (dOf (gFn m_divisor 2 0 [0, 1] (lcons (dOf (gCall absD (lcons (gIxV 0 (ret (.int 0))) (ret [])))) (lcons (gIxV 0 (ret (.int 1))) (ret []))) (ret []))) (ret (.int 1)))))))
 (gNil))
def m_is_fraction_of : Fn := defF 1 1 false b_is_fraction_of
theorem ok_is_fraction_of (c : He.SaysD Hd.fa Hd.fn K) (cx : Hd.ex K = true) (KX : K.In base) (G : base.Ns mainGlobals mg) : DefAt P w K mg base "is_fraction_of" (defArgs (Hd.top 11)) 2 1 ["value"] false m_is_fraction_of := by
  have D_divisor := ok_divisor (P := P) (w := w) (mg := mg) (base := base) c cx KX G
  have D_is_integer := ok_is_integer (P := P) (w := w) (mg := mg) (base := base) c cx KX G
  have f_abs : mg "abs" = none := He.free_ok KX G (c.fact 45)
  have f_isinstance : mg "isinstance" = none := He.free_ok KX G (c.fact 50)
  have f_len : mg "len" = none := He.free_ok KX G (c.fact 51)
  have f_tuple : mg "tuple" = none := He.free_ok KX G (c.fact 58)
  obtain ⟨fd, F⟩ := c.def_ 4
  refine def_at (N := ["value"]) (k := 1) false F (He.glo_ok KX G (c.fact 4)) ⟨rfl, rfl, rfl, by decide +kernel, rfl, by decide +kernel, by decide +kernel⟩ 1 1 rfl rfl (by decide) ?_
  intro cdv A outer s H hgd hr
  have hu := hr.u64
  have hu5 := hr.u65
  have hN : (["value"] : List Str).Nodup := by decide +kernel
  refine b_cons ?_ ?_
  · refine s_if ?_ ?_ b_nil
    · refine t_w ?_
      refine w_or ?_ ?_
      · refine t_not ?_
        refine t_val ?_
        refine d_isi ?_ rfl f_isinstance rfl f_tuple (by decide +kernel)
        refine d_var 0
      · refine w_or ?_ ?_
        · refine t_cmp (o_neX hu) ?_ d_int
          refine d_lenV 0 rfl f_len
        · refine w_or ?_ ?_
          · refine t_not ?_
            refine t_val ?_
            refine .of ?_
            refine c_fn D_is_integer bn_is_integer_1 (hr.mono (by decide)) hgd rfl ?_ k_nil
            refine l_cons ?_ l_nil
            refine d_ixV 0 d_int
          · refine w_or1 ?_
            refine t_not ?_
            refine t_val ?_
            refine .of ?_
            refine c_fn D_is_integer bn_is_integer_1 (hr.mono (by decide)) hgd rfl ?_ k_nil
            refine l_cons ?_ l_nil
            refine d_ixV 0 d_int
    · refine b_cons ?_ b_nil
      refine s_ret ?_
      refine .of d_bl
  · refine b_cons ?_ b_nil
    refine s_ret ?_
    refine .of ?_
    refine d_and ?_ ?_
    · refine d_cmp o_ge ?_ d_int
      refine d_ixV 0 d_int
    · refine d_one ?_
      refine d_cmp (o_eqX hu) ?_ d_int
      refine .of ?_
      refine c_fn D_divisor bn_divisor_2 (hr.mono (by decide)) hgd rfl ?_ k_nil
      refine l_cons ?_ ?_
      · refine .of ?_
        refine a_callB c_abs rfl f_abs (by decide +kernel) ?_
        refine l_cons ?_ l_nil
        refine d_ixV 0 d_int
      · refine l_cons ?_ l_nil
        refine d_ixV 0 d_int
def b_is_short : Sm :=
 gSeq (gRet (aOf (gAndV (dOf (gFn m_is_fraction_of 1 0 [0] (lcons (gVar 0) (ret [])) (ret []))) (gAndV (gBl (gCmp ltI (dOf (gCall absD (lcons (gIxV 0 (ret (.int 0))) (ret [])))) (ret (.int (1000000000000))))) (gBl (gCmp ltI (gIxV 0 (ret (.int 1))) (ret (.int (1000000000000)))))))))
 (gNil)
def m_is_short : Fn := defF 1 1 false b_is_short
theorem ok_is_short (c : He.SaysD Hd.fa Hd.fn K) (cx : Hd.ex K = true) (KX : K.In base) (G : base.Ns mainGlobals mg) : DefAt P w K mg base "is_short" (defArgs (Hd.top 12)) 3 1 ["value"] false m_is_short := by
  have D_is_fraction_of := ok_is_fraction_of (P := P) (w := w) (mg := mg) (base := base) c cx KX G
  obtain ⟨t_MOST_DIGITS, ie_MOST_DIGITS⟩ := He.int_ok KX G (c.fact 60)
  have f_abs : mg "abs" = none := He.free_ok KX G (c.fact 45)
  obtain ⟨fd, F⟩ := c.def_ 5
  refine def_at (N := ["value"]) (k := 2) false F (He.glo_ok KX G (c.fact 5)) ⟨rfl, rfl, rfl, by decide +kernel, rfl, by decide +kernel, by decide +kernel⟩ 1 1 rfl rfl (by decide) ?_
  intro cdv A outer s H hgd hr
  have hu := hr.u64
  have hu5 := hr.u65
  have hN : (["value"] : List Str).Nodup := by decide +kernel
  refine b_cons ?_ b_nil
  refine s_ret ?_
  refine .of ?_
  refine d_and ?_ ?_
  · refine .of ?_
    refine c_fn D_is_fraction_of bn_is_fraction_of_1 (hr.mono (by decide)) hgd rfl ?_ k_nil
    refine l_cons ?_ l_nil
    refine d_var 0
  · refine d_and ?_ ?_
    · refine d_cmp o_lt ?_ ?_
      · refine .of ?_
        refine a_callB c_abs rfl f_abs (by decide +kernel) ?_
        refine l_cons ?_ l_nil
        refine d_ixV 0 d_int
      · refine d_gint rfl ie_MOST_DIGITS
    · refine d_one ?_
      refine d_cmp o_lt ?_ ?_
      · refine d_ixV 0 d_int
      · refine d_gint rfl ie_MOST_DIGITS
def b_reduced : Sm :=
 gSeq (gIfS (gCmp ltI (gVar 1) (ret (.int 0))) (gSeq (gParL [0, 1] (acons (gBin subD (ret (.int 0)) (gVar 0)) (acons (gBin subD (ret (.int 0)) (gVar 1)) (ret []))))
 (gNil)) (gNil))
 (gSeq (gSet 2 (gFn m_divisor 2 0 [0, 1] (lcons (dOf (gCall absD (lcons (gVar 0) (ret [])))) (lcons (gVar 1) (ret []))) (ret [])))
 (gSeq (gRet (aOf (gTupE (lcons (dOf (gBin divD (gVar 0) (gVar 2))) (lcons (dOf (gBin divD (gVar 1) (gVar 2))) (ret []))))))
 (gNil)))
def m_reduced : Fn := defF 3 2 false b_reduced
theorem ok_reduced (c : He.SaysD Hd.fa Hd.fn K) (cx : Hd.ex K = true) (KX : K.In base) (G : base.Ns mainGlobals mg) : DefAt P w K mg base "reduced" (defArgs (Hd.top 15)) 2 2 ["top", "bottom"] false m_reduced := by
  have D_divisor := ok_divisor (P := P) (w := w) (mg := mg) (base := base) c cx KX G
  have f_abs : mg "abs" = none := He.free_ok KX G (c.fact 45)
  obtain ⟨fd, F⟩ := c.def_ 6
  refine def_at (N := ["top", "bottom", "common"]) (k := 1) false F (He.glo_ok KX G (c.fact 6)) ⟨rfl, rfl, rfl, by decide +kernel, rfl, by decide +kernel, by decide +kernel⟩ 2 3 rfl rfl (by decide) ?_
  intro cdv A outer s H hgd hr
  have hu := hr.u64
  have hu5 := hr.u65
  have hN : (["top", "bottom", "common"] : List Str).Nodup := by decide +kernel
  refine b_cons ?_ ?_
  · refine s_if ?_ ?_ b_nil
    · refine t_cmp o_lt ?_ d_int
      refine d_var 1
    · refine b_cons ?_ b_nil
      refine s_par2 rfl hN ?_
      refine as_cons ?_ ?_
      · refine a_bin o_sub d_int ?_
        refine d_var 0
      · refine as_cons ?_ as_nil
        refine a_bin o_sub d_int ?_
        refine d_var 1
  · refine b_cons ?_ ?_
    · refine s_set (i := 2) hN ?_
      refine c_fn D_divisor bn_divisor_2 (hr.mono (by decide)) hgd rfl ?_ k_nil
      refine l_cons ?_ ?_
      · refine .of ?_
        refine a_callB c_abs rfl f_abs (by decide +kernel) ?_
        refine l_cons ?_ l_nil
        refine d_var 0
      · refine l_cons ?_ l_nil
        refine d_var 1
    · refine b_cons ?_ b_nil
      refine s_ret ?_
      refine .of ?_
      refine d_tup ?_
      refine l_cons ?_ ?_
      · refine .of ?_
        refine a_bin o_div ?_ ?_
        · refine d_var 0
        · refine d_var 2
      · refine l_cons ?_ l_nil
        refine .of ?_
        refine a_bin o_div ?_ ?_
        · refine d_var 1
        · refine d_var 2
def b_add : Sm :=
 gSeq (gRet (gFn m_reduced 2 0 [0, 1] (lcons (dOf (gBin addD (dOf (gBin mulD (gIxV 0 (ret (.int 0))) (gIxV 1 (ret (.int 1))))) (dOf (gBin mulD (gIxV 1 (ret (.int 0))) (gIxV 0 (ret (.int 1))))))) (lcons (dOf (gBin mulD (gIxV 0 (ret (.int 1))) (gIxV 1 (ret (.int 1))))) (ret []))) (ret [])))
 (gNil)
def m_add : Fn := defF 2 2 false b_add
theorem ok_add (c : He.SaysD Hd.fa Hd.fn K) (cx : Hd.ex K = true) (KX : K.In base) (G : base.Ns mainGlobals mg) : DefAt P w K mg base "add" (defArgs (Hd.top 16)) 3 2 ["one", "late"] false m_add := by
  have D_reduced := ok_reduced (P := P) (w := w) (mg := mg) (base := base) c cx KX G
  obtain ⟨fd, F⟩ := c.def_ 7
  refine def_at (N := ["one", "late"]) (k := 2) false F (He.glo_ok KX G (c.fact 7)) ⟨rfl, rfl, rfl, by decide +kernel, rfl, by decide +kernel, by decide +kernel⟩ 2 2 rfl rfl (by decide) ?_
  intro cdv A outer s H hgd hr
  have hu := hr.u64
  have hu5 := hr.u65
  have hN : (["one", "late"] : List Str).Nodup := by decide +kernel
  refine b_cons ?_ b_nil
  refine s_ret ?_
  refine c_fn D_reduced bn_reduced_2 (hr.mono (by decide)) hgd rfl ?_ k_nil
  refine l_cons ?_ ?_
  · refine .of ?_
    refine a_bin o_add ?_ ?_
    · refine .of ?_
      refine a_bin o_mul ?_ ?_
      · refine d_ixV 0 d_int
      · refine d_ixV 1 d_int
    · refine .of ?_
      refine a_bin o_mul ?_ ?_
      · refine d_ixV 1 d_int
      · refine d_ixV 0 d_int
  · refine l_cons ?_ l_nil
    refine .of ?_
    refine a_bin o_mul ?_ ?_
    · refine d_ixV 0 d_int
    · refine d_ixV 1 d_int
def b_take : Sm :=
 gSeq (gRet (gFn m_reduced 2 0 [0, 1] (lcons (dOf (gBin subD (dOf (gBin mulD (gIxV 0 (ret (.int 0))) (gIxV 1 (ret (.int 1))))) (dOf (gBin mulD (gIxV 1 (ret (.int 0))) (gIxV 0 (ret (.int 1))))))) (lcons (dOf (gBin mulD (gIxV 0 (ret (.int 1))) (gIxV 1 (ret (.int 1))))) (ret []))) (ret [])))
 (gNil)
def m_take : Fn := defF 2 2 false b_take
theorem ok_take (c : He.SaysD Hd.fa Hd.fn K) (cx : Hd.ex K = true) (KX : K.In base) (G : base.Ns mainGlobals mg) : DefAt P w K mg base "take" (defArgs (Hd.top 17)) 3 2 ["one", "late"] false m_take := by
  have D_reduced := ok_reduced (P := P) (w := w) (mg := mg) (base := base) c cx KX G
  obtain ⟨fd, F⟩ := c.def_ 8
  refine def_at (N := ["one", "late"]) (k := 2) false F (He.glo_ok KX G (c.fact 8)) ⟨rfl, rfl, rfl, by decide +kernel, rfl, by decide +kernel, by decide +kernel⟩ 2 2 rfl rfl (by decide) ?_
  intro cdv A outer s H hgd hr
  have hu := hr.u64
  have hu5 := hr.u65
  have hN : (["one", "late"] : List Str).Nodup := by decide +kernel
  refine b_cons ?_ b_nil
  refine s_ret ?_
  refine c_fn D_reduced bn_reduced_2 (hr.mono (by decide)) hgd rfl ?_ k_nil
  refine l_cons ?_ ?_
  · refine .of ?_
    refine a_bin o_sub ?_ ?_
    · refine .of ?_
      refine a_bin o_mul ?_ ?_
      · refine d_ixV 0 d_int
      · refine d_ixV 1 d_int
    · refine .of ?_
      refine a_bin o_mul ?_ ?_
      · refine d_ixV 1 d_int
      · refine d_ixV 0 d_int
  · refine l_cons ?_ l_nil
    refine .of ?_
    refine a_bin o_mul ?_ ?_
    · refine d_ixV 0 d_int
    · refine d_ixV 1 d_int
def b_multiply : Sm :=
 gSeq (gRet (gFn m_reduced 2 0 [0, 1] (lcons (dOf (gBin mulD (gIxV 0 (ret (.int 0))) (gIxV 1 (ret (.int 0))))) (lcons (dOf (gBin mulD (gIxV 0 (ret (.int 1))) (gIxV 1 (ret (.int 1))))) (ret []))) (ret [])))
 (gNil)
def m_multiply : Fn := defF 2 2 false b_multiply
theorem ok_multiply (c : He.SaysD Hd.fa Hd.fn K) (cx : Hd.ex K = true) (KX : K.In base) (G : base.Ns mainGlobals mg) : DefAt P w K mg base "multiply" (defArgs (Hd.top 18)) 3 2 ["one", "late"] false m_multiply := by
  have D_reduced := ok_reduced (P := P) (w := w) (mg := mg) (base := base) c cx KX G
  obtain ⟨fd, F⟩ := c.def_ 9
  refine def_at (N := ["one", "late"]) (k := 2) false F (He.glo_ok KX G (c.fact 9)) ⟨rfl, rfl, rfl, by decide +kernel, rfl, by decide +kernel, by decide +kernel⟩ 2 2 rfl rfl (by decide) ?_
  intro cdv A outer s H hgd hr
  have hu := hr.u64
  have hu5 := hr.u65
  have hN : (["one", "late"] : List Str).Nodup := by decide +kernel
  refine b_cons ?_ b_nil
  refine s_ret ?_
  refine c_fn D_reduced bn_reduced_2 (hr.mono (by decide)) hgd rfl ?_ k_nil
  refine l_cons ?_ ?_
  · refine .of ?_
    refine a_bin o_mul ?_ ?_
    · refine d_ixV 0 d_int
    · refine d_ixV 1 d_int
  · refine l_cons ?_ l_nil
    refine .of ?_
    refine a_bin o_mul ?_ ?_
    · refine d_ixV 0 d_int
    · refine d_ixV 1 d_int
def b_total : Sm :=
 gSeq (gSet 1 (aOf (ret (.tuple [(.int (0)), (.int (1))]))))
 (gSeq (gFor (gSeqI (gVar 0)) (tgN 2) (gSeq (gSet 1 (gFn m_add 2 0 [0, 1] (lcons (gVar 1) (lcons (gVar 2) (ret []))) (ret [])))
 (gNil)))
 (gSeq (gRet (mVar 1))
 (gNil)))
def m_total : Fn := defF 3 1 false b_total
theorem ok_total (c : He.SaysD Hd.fa Hd.fn K) (cx : Hd.ex K = true) (KX : K.In base) (G : base.Ns mainGlobals mg) : DefAt P w K mg base "total" (defArgs (Hd.top 19)) 4 1 ["some"] false m_total := by
  have D_add := ok_add (P := P) (w := w) (mg := mg) (base := base) c cx KX G
  have tg_NOUGHT := He.glo_ok KX G (c.fact 65)
  have tb_NOUGHT := tbk_NOUGHT cx
  obtain ⟨fd, F⟩ := c.def_ 10
  refine def_at (N := ["some", "found", "one"]) (k := 3) false F (He.glo_ok KX G (c.fact 10)) ⟨rfl, rfl, rfl, by decide +kernel, rfl, by decide +kernel, by decide +kernel⟩ 1 3 rfl rfl (by decide) ?_
  intro cdv A outer s H hgd hr
  have hu := hr.u64
  have hu5 := hr.u65
  have hN : (["some", "found", "one"] : List Str).Nodup := by decide +kernel
  refine b_cons ?_ ?_
  · refine s_set (i := 1) hN ?_
    refine .of ?_
    refine d_gtup rfl tg_NOUGHT tb_NOUGHT (fun _ _ => (.cons (.int _) (.cons (.int _) .nil)))
  · refine b_cons ?_ ?_
    · refine s_for PassesOwn.never rfl ?_ ?_ ?_
      · refine i_seq ?_
        refine d_var 0
      · refine g_name 2 hN
      · refine b_cons ?_ b_nil
        refine s_set (i := 1) hN ?_
        refine c_fn D_add bn_add_2 (hr.mono (by decide)) hgd rfl ?_ k_nil
        refine l_cons ?_ ?_
        · refine d_var 1
        · refine l_cons ?_ l_nil
          refine d_var 2
    · refine b_cons ?_ b_nil
      refine s_ret ?_
      refine a_mv 1
def b_is_row_of : Sm :=
 gSeq (gIfS (gOr (gNot (tB (gIsi .tuple (gVar 0)))) (gOr (gCmp neX (gLenV 0) (ret (.int 2))) (gNot (tB (dOf (gFn m_is_within 3 0 [0, 1, 2] (lcons (gIxV 0 (ret (.int 1))) (lcons (dOf (gBin subD (ret (.int 0)) (ret (.int (999))))) (lcons (ret (.int (999))) (ret [])))) (ret []))))))) (gSeq (gRet (aOf (ret (.bool false))))
 (gNil)) (gNil))
 (gSeq (gIfS (gOr (gNot (tB (gIsi .tuple (gIxV 0 (ret (.int 0)))))) (gNot (gChn leI leI (ret (.int 1)) (dOf (gCall lenD (lcons (gIxV 0 (ret (.int 0))) (ret [])))) (ret (.int (3)))))) (gSeq (gRet (aOf (ret (.bool false))))
 (gNil)) (gNil))
 (gSeq (gRet (gCall allD (lcons (dOf (gLc [1] (gSeqI (gIxV 0 (ret (.int 0)))) (tgN 1) (ret true) (gFn m_is_within 3 0 [0, 1, 2] (lcons (gVar 1) (lcons (dOf (gBin subD (ret (.int 0)) (ret (.int (99))))) (lcons (ret (.int (99))) (ret [])))) (ret [])))) (ret []))))
 (gNil)))
def m_is_row_of : Fn := defF 2 1 false b_is_row_of
theorem ok_is_row_of (c : He.SaysD Hd.fa Hd.fn K) (cx : Hd.ex K = true) (KX : K.In base) (G : base.Ns mainGlobals mg) : DefAt P w K mg base "is_row_of" (defArgs (Hd.top 25)) 3 1 ["value"] false m_is_row_of := by
  have D_is_within := ok_is_within (P := P) (w := w) (mg := mg) (base := base) c cx KX G
  obtain ⟨t_MOST_ANSWER, ie_MOST_ANSWER⟩ := He.int_ok KX G (c.fact 64)
  obtain ⟨t_MOST_COLUMNS, ie_MOST_COLUMNS⟩ := He.int_ok KX G (c.fact 62)
  obtain ⟨t_MOST_INPUT, ie_MOST_INPUT⟩ := He.int_ok KX G (c.fact 63)
  have f_all : mg "all" = none := He.free_ok KX G (c.fact 46)
  have f_isinstance : mg "isinstance" = none := He.free_ok KX G (c.fact 50)
  have f_len : mg "len" = none := He.free_ok KX G (c.fact 51)
  have f_tuple : mg "tuple" = none := He.free_ok KX G (c.fact 58)
  obtain ⟨fd, F⟩ := c.def_ 11
  refine def_at (N := ["value", "one"]) (k := 2) false F (He.glo_ok KX G (c.fact 11)) ⟨rfl, rfl, rfl, by decide +kernel, rfl, by decide +kernel, by decide +kernel⟩ 1 2 rfl rfl (by decide) ?_
  intro cdv A outer s H hgd hr
  have hu := hr.u64
  have hu5 := hr.u65
  have hN : (["value", "one"] : List Str).Nodup := by decide +kernel
  refine b_cons ?_ ?_
  · refine s_if ?_ ?_ b_nil
    · refine t_w ?_
      refine w_or ?_ ?_
      · refine t_not ?_
        refine t_val ?_
        refine d_isi ?_ rfl f_isinstance rfl f_tuple (by decide +kernel)
        refine d_var 0
      · refine w_or ?_ ?_
        · refine t_cmp (o_neX hu) ?_ d_int
          refine d_lenV 0 rfl f_len
        · refine w_or1 ?_
          refine t_not ?_
          refine t_val ?_
          refine .of ?_
          refine c_fn D_is_within bn_is_within_3 (hr.mono (by decide)) hgd rfl ?_ k_nil
          refine l_cons ?_ ?_
          · refine d_ixV 0 d_int
          · refine l_cons ?_ ?_
            · refine .of ?_
              refine a_bin o_sub d_int ?_
              refine d_gint rfl ie_MOST_ANSWER
            · refine l_cons ?_ l_nil
              refine d_gint rfl ie_MOST_ANSWER
    · refine b_cons ?_ b_nil
      refine s_ret ?_
      refine .of d_bl
  · refine b_cons ?_ ?_
    · refine s_if ?_ ?_ b_nil
      · refine t_w ?_
        refine w_or ?_ ?_
        · refine t_not ?_
          refine t_val ?_
          refine d_isi ?_ rfl f_isinstance rfl f_tuple (by decide +kernel)
          refine d_ixV 0 d_int
        · refine w_or1 ?_
          refine t_not ?_
          refine t_chn o_le o_le d_int ?_ ?_
          · refine .of ?_
            refine a_callB c_len rfl f_len (by decide +kernel) ?_
            refine l_cons ?_ l_nil
            refine d_ixV 0 d_int
          · refine d_gint rfl ie_MOST_COLUMNS
      · refine b_cons ?_ b_nil
        refine s_ret ?_
        refine .of d_bl
    · refine b_cons ?_ b_nil
      refine s_ret ?_
      refine a_callB (c_all rfl) rfl f_all (by decide +kernel) ?_
      refine l_cons ?_ l_nil
      refine .of ?_
      refine a_lc (pairs := [("one", 1)]) rfl hN ?_ (blkOk_by (by kernel_rfl)) ?_ (fun _ _ _ _ _ => Ifs.no) ?_
      · refine i_seq ?_
        refine d_ixV 0 d_int
      · intro _ _ _ _ _
        refine cg_name 1 hN
      · intro _ _ _ _ _
        refine c_fn D_is_within bn_is_within_3 (hr.mono (by decide)) hgd rfl ?_ k_nil
        refine l_cons ?_ ?_
        · refine d_var 1
        · refine l_cons ?_ ?_
          · refine .of ?_
            refine a_bin o_sub d_int ?_
            refine d_gint rfl ie_MOST_INPUT
          · refine l_cons ?_ l_nil
            refine d_gint rfl ie_MOST_INPUT
def b_is_table_of : Sm :=
 gSeq (gIfS (gOr (gNot (tB (dOf (gFn m_is_list 1 0 [0] (lcons (gVar 0) (ret [])) (ret []))))) (gOr (gNot (gChn leI leI (ret (.int 1)) (gLenV 0) (ret (.int (8))))) (gNot (tB (dOf (gCall allD (lcons (dOf (gLc [1] (gSeqI (gVar 0)) (tgN 1) (ret true) (gFn m_is_row_of 1 0 [0] (lcons (gVar 1) (ret [])) (ret [])))) (ret [])))))))) (gSeq (gRet (aOf (ret (.bool false))))
 (gNil)) (gNil))
 (gSeq (gRet (gCall allD (lcons (dOf (gLc [1] (gSeqI (gVar 0)) (tgN 1) (ret true) (aOf (gBl (gCmp eqX (dOf (gCall lenD (lcons (gIxV 1 (ret (.int 0))) (ret [])))) (dOf (gCall lenD (lcons (dOf (gBin ixD (gIxV 0 (ret (.int 0))) (ret (.int 0)))) (ret []))))))))) (ret []))))
 (gNil))
def m_is_table_of : Fn := defF 2 1 false b_is_table_of
theorem ok_is_table_of (c : He.SaysD Hd.fa Hd.fn K) (cx : Hd.ex K = true) (KX : K.In base) (G : base.Ns mainGlobals mg) : DefAt P w K mg base "is_table_of" (defArgs (Hd.top 26)) 4 1 ["value"] false m_is_table_of := by
  have D_is_list := ok_is_list (P := P) (w := w) (mg := mg) (base := base) c cx KX G
  have D_is_row_of := ok_is_row_of (P := P) (w := w) (mg := mg) (base := base) c cx KX G
  obtain ⟨t_MOST_ROWS, ie_MOST_ROWS⟩ := He.int_ok KX G (c.fact 61)
  have f_all : mg "all" = none := He.free_ok KX G (c.fact 46)
  have f_len : mg "len" = none := He.free_ok KX G (c.fact 51)
  obtain ⟨fd, F⟩ := c.def_ 12
  refine def_at (N := ["value", "row"]) (k := 3) false F (He.glo_ok KX G (c.fact 12)) ⟨rfl, rfl, rfl, by decide +kernel, rfl, by decide +kernel, by decide +kernel⟩ 1 2 rfl rfl (by decide) ?_
  intro cdv A outer s H hgd hr
  have hu := hr.u64
  have hu5 := hr.u65
  have hN : (["value", "row"] : List Str).Nodup := by decide +kernel
  refine b_cons ?_ ?_
  · refine s_if ?_ ?_ b_nil
    · refine t_w ?_
      refine w_or ?_ ?_
      · refine t_not ?_
        refine t_val ?_
        refine .of ?_
        refine c_fn D_is_list bn_is_list_1 (hr.mono (by decide)) hgd rfl ?_ k_nil
        refine l_cons ?_ l_nil
        refine d_var 0
      · refine w_or ?_ ?_
        · refine t_not ?_
          refine t_chn o_le o_le d_int ?_ ?_
          · refine d_lenV 0 rfl f_len
          · refine d_gint rfl ie_MOST_ROWS
        · refine w_or1 ?_
          refine t_not ?_
          refine t_val ?_
          refine .of ?_
          refine a_callB (c_all rfl) rfl f_all (by decide +kernel) ?_
          refine l_cons ?_ l_nil
          refine .of ?_
          refine a_lc (pairs := [("row", 1)]) rfl hN ?_ (blkOk_by (by kernel_rfl)) ?_ (fun _ _ _ _ _ => Ifs.no) ?_
          · refine i_seq ?_
            refine d_var 0
          · intro _ _ _ _ _
            refine cg_name 1 hN
          · intro _ _ _ _ _
            refine c_fn D_is_row_of bn_is_row_of_1 (hr.mono (by decide)) hgd rfl ?_ k_nil
            refine l_cons ?_ l_nil
            refine d_var 1
    · refine b_cons ?_ b_nil
      refine s_ret ?_
      refine .of d_bl
  · refine b_cons ?_ b_nil
    refine s_ret ?_
    refine a_callB (c_all rfl) rfl f_all (by decide +kernel) ?_
    refine l_cons ?_ l_nil
    refine .of ?_
    refine a_lc (pairs := [("row", 1)]) rfl hN ?_ (blkOk_by (by kernel_rfl)) ?_ (fun _ _ _ _ _ => Ifs.no) ?_
    · refine i_seq ?_
      refine d_var 0
    · intro _ _ _ _ _
      refine cg_name 1 hN
    · intro _ _ _ _ _
      refine .of ?_
      refine d_cmp (o_eqX hu) ?_ ?_
      · refine .of ?_
        refine a_callB c_len rfl f_len (by decide +kernel) ?_
        refine l_cons ?_ l_nil
        refine d_ixV 1 d_int
      · refine .of ?_
        refine a_callB c_len rfl f_len (by decide +kernel) ?_
        refine l_cons ?_ l_nil
        refine .of ?_
        refine a_ix x_ix ?_ d_int
        refine d_ixV 0 d_int
def b_check_table : Sm :=
 gSeq (gIfS (gNot (tB (dOf (gFn m_is_table_of 1 0 [0] (lcons (gVar 0) (ret [])) (ret []))))) (gSeq (gNev)
 (gNil)) (gNil))
 (gNil)
def m_check_table : Fn := defF 1 1 false b_check_table
theorem ok_check_table (c : He.SaysD Hd.fa Hd.fn K) (cx : Hd.ex K = true) (KX : K.In base) (G : base.Ns mainGlobals mg) : DefAt P w K mg base "check_table" (defArgs (Hd.top 27)) 5 1 ["value"] false m_check_table := by
  have D_is_table_of := ok_is_table_of (P := P) (w := w) (mg := mg) (base := base) c cx KX G
  obtain ⟨fd, F⟩ := c.def_ 13
  refine def_at (N := ["value"]) (k := 4) false F (He.glo_ok KX G (c.fact 13)) ⟨rfl, rfl, rfl, by decide +kernel, rfl, by decide +kernel, by decide +kernel⟩ 1 1 rfl rfl (by decide) ?_
  intro cdv A outer s H hgd hr
  have hu := hr.u64
  have hu5 := hr.u65
  have hN : (["value"] : List Str).Nodup := by decide +kernel
  refine b_cons ?_ b_nil
  refine s_if ?_ ?_ b_nil
  · refine t_not ?_
    refine t_val ?_
    refine .of ?_
    refine c_fn D_is_table_of bn_is_table_of_1 (hr.mono (by decide)) hgd rfl ?_ k_nil
    refine l_cons ?_ l_nil
    refine d_var 0
  · refine b_cons s_never b_nil
def b_columns_of : Sm :=
 gSeq (gRet (gCall lenD (lcons (dOf (gBin ixD (gIxV 0 (ret (.int 0))) (ret (.int 0)))) (ret []))))
 (gNil)
def m_columns_of : Fn := defF 1 1 false b_columns_of
theorem ok_columns_of (c : He.SaysD Hd.fa Hd.fn K) (cx : Hd.ex K = true) (KX : K.In base) (G : base.Ns mainGlobals mg) : DefAt P w K mg base "columns_of" (defArgs (Hd.top 31)) 1 1 ["table"] false m_columns_of := by
  have f_len : mg "len" = none := He.free_ok KX G (c.fact 51)
  obtain ⟨fd, F⟩ := c.def_ 17
  refine def_at (N := ["table"]) (k := 0) false F (He.glo_ok KX G (c.fact 17)) ⟨rfl, rfl, rfl, by decide +kernel, rfl, by decide +kernel, by decide +kernel⟩ 1 1 rfl rfl (by decide) ?_
  intro cdv A outer s H hgd hr
  have hu := hr.u64
  have hu5 := hr.u65
  have hN : (["table"] : List Str).Nodup := by decide +kernel
  refine b_cons ?_ b_nil
  refine s_ret ?_
  refine a_callB c_len rfl f_len (by decide +kernel) ?_
  refine l_cons ?_ l_nil
  refine .of ?_
  refine a_ix x_ix ?_ d_int
  refine d_ixV 0 d_int
def b_is_rule_of : Sm :=
 gSeq (gRet (aOf (gAndV (dOf (gFn m_is_list 1 0 [0] (lcons (gVar 1) (ret [])) (ret []))) (gAndV (gBl (gCmp eqX (gLenV 1) (dOf (gFn m_columns_of 1 0 [0] (lcons (gVar 0) (ret [])) (ret []))))) (dOf (gCall allD (lcons (dOf (gLc [2] (gSeqI (gVar 1)) (tgN 2) (ret true) (gFn m_is_fraction_of 1 0 [0] (lcons (gVar 2) (ret [])) (ret [])))) (ret []))))))))
 (gNil)
def m_is_rule_of : Fn := defF 3 2 false b_is_rule_of
theorem ok_is_rule_of (c : He.SaysD Hd.fa Hd.fn K) (cx : Hd.ex K = true) (KX : K.In base) (G : base.Ns mainGlobals mg) : DefAt P w K mg base "is_rule_of" (defArgs (Hd.top 28)) 3 2 ["table", "value"] false m_is_rule_of := by
  have D_columns_of := ok_columns_of (P := P) (w := w) (mg := mg) (base := base) c cx KX G
  have D_is_fraction_of := ok_is_fraction_of (P := P) (w := w) (mg := mg) (base := base) c cx KX G
  have D_is_list := ok_is_list (P := P) (w := w) (mg := mg) (base := base) c cx KX G
  have f_all : mg "all" = none := He.free_ok KX G (c.fact 46)
  have f_len : mg "len" = none := He.free_ok KX G (c.fact 51)
  obtain ⟨fd, F⟩ := c.def_ 14
  refine def_at (N := ["table", "value", "one"]) (k := 2) false F (He.glo_ok KX G (c.fact 14)) ⟨rfl, rfl, rfl, by decide +kernel, rfl, by decide +kernel, by decide +kernel⟩ 2 3 rfl rfl (by decide) ?_
  intro cdv A outer s H hgd hr
  have hu := hr.u64
  have hu5 := hr.u65
  have hN : (["table", "value", "one"] : List Str).Nodup := by decide +kernel
  refine b_cons ?_ b_nil
  refine s_ret ?_
  refine .of ?_
  refine d_and ?_ ?_
  · refine .of ?_
    refine c_fn D_is_list bn_is_list_1 (hr.mono (by decide)) hgd rfl ?_ k_nil
    refine l_cons ?_ l_nil
    refine d_var 1
  · refine d_and ?_ ?_
    · refine d_cmp (o_eqX hu) ?_ ?_
      · refine d_lenV 1 rfl f_len
      · refine .of ?_
        refine c_fn D_columns_of bn_columns_of_1 (hr.mono (by decide)) hgd rfl ?_ k_nil
        refine l_cons ?_ l_nil
        refine d_var 0
    · refine d_one ?_
      refine .of ?_
      refine a_callB (c_all rfl) rfl f_all (by decide +kernel) ?_
      refine l_cons ?_ l_nil
      refine .of ?_
      refine a_lc (pairs := [("one", 2)]) rfl hN ?_ (blkOk_by (by kernel_rfl)) ?_ (fun _ _ _ _ _ => Ifs.no) ?_
      · refine i_seq ?_
        refine d_var 1
      · intro _ _ _ _ _
        refine cg_name 2 hN
      · intro _ _ _ _ _
        refine c_fn D_is_fraction_of bn_is_fraction_of_1 (hr.mono (by decide)) hgd rfl ?_ k_nil
        refine l_cons ?_ l_nil
        refine d_var 2
def b_check_rule : Sm :=
 gSeq (gIfS (gOr (gNot (tB (dOf (gFn m_is_rule_of 2 0 [0, 1] (lcons (gVar 0) (lcons (gVar 1) (ret []))) (ret []))))) (gNot (tB (dOf (gCall allD (lcons (dOf (gLc [2] (gSeqI (gVar 1)) (tgN 2) (ret true) (gFn m_is_short 1 0 [0] (lcons (gVar 2) (ret [])) (ret [])))) (ret []))))))) (gSeq (gNev)
 (gNil)) (gNil))
 (gNil)
def m_check_rule : Fn := defF 3 2 false b_check_rule
theorem ok_check_rule (c : He.SaysD Hd.fa Hd.fn K) (cx : Hd.ex K = true) (KX : K.In base) (G : base.Ns mainGlobals mg) : DefAt P w K mg base "check_rule" (defArgs (Hd.top 29)) 4 2 ["table", "value"] false m_check_rule := by
  have D_is_rule_of := ok_is_rule_of (P := P) (w := w) (mg := mg) (base := base) c cx KX G
  have D_is_short := ok_is_short (P := P) (w := w) (mg := mg) (base := base) c cx KX G
  have f_all : mg "all" = none := He.free_ok KX G (c.fact 46)
  obtain ⟨fd, F⟩ := c.def_ 15
  refine def_at (N := ["table", "value", "one"]) (k := 3) false F (He.glo_ok KX G (c.fact 15)) ⟨rfl, rfl, rfl, by decide +kernel, rfl, by decide +kernel, by decide +kernel⟩ 2 3 rfl rfl (by decide) ?_
  intro cdv A outer s H hgd hr
  have hu := hr.u64
  have hu5 := hr.u65
  have hN : (["table", "value", "one"] : List Str).Nodup := by decide +kernel
  refine b_cons ?_ b_nil
  refine s_if ?_ ?_ b_nil
  · refine t_w ?_
    refine w_or ?_ ?_
    · refine t_not ?_
      refine t_val ?_
      refine .of ?_
      refine c_fn D_is_rule_of bn_is_rule_of_2 (hr.mono (by decide)) hgd rfl ?_ k_nil
      refine l_cons ?_ ?_
      · refine d_var 0
      · refine l_cons ?_ l_nil
        refine d_var 1
    · refine w_or1 ?_
      refine t_not ?_
      refine t_val ?_
      refine .of ?_
      refine a_callB (c_all rfl) rfl f_all (by decide +kernel) ?_
      refine l_cons ?_ l_nil
      refine .of ?_
      refine a_lc (pairs := [("one", 2)]) rfl hN ?_ (blkOk_by (by kernel_rfl)) ?_ (fun _ _ _ _ _ => Ifs.no) ?_
      · refine i_seq ?_
        refine d_var 1
      · intro _ _ _ _ _
        refine cg_name 2 hN
      · intro _ _ _ _ _
        refine c_fn D_is_short bn_is_short_1 (hr.mono (by decide)) hgd rfl ?_ k_nil
        refine l_cons ?_ l_nil
        refine d_var 2
  · refine b_cons s_never b_nil
def b_check_column : Sm :=
 gSeq (gIfS (gNot (tB (dOf (gFn m_is_within 3 0 [0, 1, 2] (lcons (gVar 1) (lcons (ret (.int 0)) (lcons (dOf (gBin subD (dOf (gFn m_columns_of 1 0 [0] (lcons (gVar 0) (ret [])) (ret []))) (ret (.int 1)))) (ret [])))) (ret []))))) (gSeq (gNev)
 (gNil)) (gNil))
 (gNil)
def m_check_column : Fn := defF 2 2 false b_check_column
theorem ok_check_column (c : He.SaysD Hd.fa Hd.fn K) (cx : Hd.ex K = true) (KX : K.In base) (G : base.Ns mainGlobals mg) : DefAt P w K mg base "check_column" (defArgs (Hd.top 30)) 3 2 ["table", "value"] false m_check_column := by
  have D_columns_of := ok_columns_of (P := P) (w := w) (mg := mg) (base := base) c cx KX G
  have D_is_within := ok_is_within (P := P) (w := w) (mg := mg) (base := base) c cx KX G
  obtain ⟨fd, F⟩ := c.def_ 16
  refine def_at (N := ["table", "value"]) (k := 2) false F (He.glo_ok KX G (c.fact 16)) ⟨rfl, rfl, rfl, by decide +kernel, rfl, by decide +kernel, by decide +kernel⟩ 2 2 rfl rfl (by decide) ?_
  intro cdv A outer s H hgd hr
  have hu := hr.u64
  have hu5 := hr.u65
  have hN : (["table", "value"] : List Str).Nodup := by decide +kernel
  refine b_cons ?_ b_nil
  refine s_if ?_ ?_ b_nil
  · refine t_not ?_
    refine t_val ?_
    refine .of ?_
    refine c_fn D_is_within bn_is_within_3 (hr.mono (by decide)) hgd rfl ?_ k_nil
    refine l_cons ?_ ?_
    · refine d_var 1
    · refine l_cons d_int ?_
      refine l_cons ?_ l_nil
      refine .of ?_
      refine a_bin o_sub ?_ d_int
      refine .of ?_
      refine c_fn D_columns_of bn_columns_of_1 (hr.mono (by decide)) hgd rfl ?_ k_nil
      refine l_cons ?_ l_nil
      refine d_var 0
  · refine b_cons s_never b_nil
def b_inputs_of : Sm :=
 gSeq (gRet (gLc [2] (gSeqI (gVar 0)) (tgN 2) (ret true) (gBin ixD (gIxV 2 (ret (.int 0))) (gVar 1))))
 (gNil)
def m_inputs_of : Fn := defF 3 2 false b_inputs_of
theorem ok_inputs_of (c : He.SaysD Hd.fa Hd.fn K) (cx : Hd.ex K = true) (KX : K.In base) (G : base.Ns mainGlobals mg) : DefAt P w K mg base "inputs_of" (defArgs (Hd.top 32)) 1 2 ["table", "column"] false m_inputs_of := by
  obtain ⟨fd, F⟩ := c.def_ 18
  refine def_at (N := ["table", "column", "row"]) (k := 0) false F (He.glo_ok KX G (c.fact 18)) ⟨rfl, rfl, rfl, by decide +kernel, rfl, by decide +kernel, by decide +kernel⟩ 2 3 rfl rfl (by decide) ?_
  intro cdv A outer s H hgd hr
  have hu := hr.u64
  have hu5 := hr.u65
  have hN : (["table", "column", "row"] : List Str).Nodup := by decide +kernel
  refine b_cons ?_ b_nil
  refine s_ret ?_
  refine a_lc (pairs := [("row", 2)]) rfl hN ?_ (blkOk_by (by kernel_rfl)) ?_ (fun _ _ _ _ _ => Ifs.no) ?_
  · refine i_seq ?_
    refine d_var 0
  · intro _ _ _ _ _
    refine cg_name 2 hN
  · intro _ _ _ _ _
    refine a_ix x_ix ?_ ?_
    · refine d_ixV 2 d_int
    · refine d_var 1
def b_answers_of : Sm :=
 gSeq (gRet (gLc [1] (gSeqI (gVar 0)) (tgN 1) (ret true) (aOf (gIxV 1 (ret (.int 1))))))
 (gNil)
def m_answers_of : Fn := defF 2 1 false b_answers_of
theorem ok_answers_of (c : He.SaysD Hd.fa Hd.fn K) (cx : Hd.ex K = true) (KX : K.In base) (G : base.Ns mainGlobals mg) : DefAt P w K mg base "answers_of" (defArgs (Hd.top 33)) 1 1 ["table"] false m_answers_of := by
  obtain ⟨fd, F⟩ := c.def_ 19
  refine def_at (N := ["table", "row"]) (k := 0) false F (He.glo_ok KX G (c.fact 19)) ⟨rfl, rfl, rfl, by decide +kernel, rfl, by decide +kernel, by decide +kernel⟩ 1 2 rfl rfl (by decide) ?_
  intro cdv A outer s H hgd hr
  have hu := hr.u64
  have hu5 := hr.u65
  have hN : (["table", "row"] : List Str).Nodup := by decide +kernel
  refine b_cons ?_ b_nil
  refine s_ret ?_
  refine a_lc (pairs := [("row", 1)]) rfl hN ?_ (blkOk_by (by kernel_rfl)) ?_ (fun _ _ _ _ _ => Ifs.no) ?_
  · refine i_seq ?_
    refine d_var 0
  · intro _ _ _ _ _
    refine cg_name 1 hN
  · intro _ _ _ _ _
    refine .of ?_
    refine d_ixV 1 d_int
def b_column_mean : Sm :=
 gSeq (gDrop (gFn m_check_table 1 0 [0] (lcons (gVar 0) (ret [])) (ret [])))
 (gSeq (gDrop (gFn m_check_column 2 0 [0, 1] (lcons (gVar 0) (lcons (gVar 1) (ret []))) (ret [])))
 (gSeq (gRet (gFn m_reduced 2 0 [0, 1] (lcons (dOf (gCall sumD (lcons (dOf (gFn m_inputs_of 2 0 [0, 1] (lcons (gVar 0) (lcons (gVar 1) (ret []))) (ret []))) (ret [])))) (lcons (gLenV 0) (ret []))) (ret [])))
 (gNil)))
def m_column_mean : Fn := defF 2 2 false b_column_mean
theorem ok_column_mean (c : He.SaysD Hd.fa Hd.fn K) (cx : Hd.ex K = true) (KX : K.In base) (G : base.Ns mainGlobals mg) : DefAt P w K mg base "column_mean" (defArgs (Hd.top 34)) 6 2 ["table", "column"] false m_column_mean := by
  have D_check_column := ok_check_column (P := P) (w := w) (mg := mg) (base := base) c cx KX G
  have D_check_table := ok_check_table (P := P) (w := w) (mg := mg) (base := base) c cx KX G
  have D_inputs_of := ok_inputs_of (P := P) (w := w) (mg := mg) (base := base) c cx KX G
  have D_reduced := ok_reduced (P := P) (w := w) (mg := mg) (base := base) c cx KX G
  have f_len : mg "len" = none := He.free_ok KX G (c.fact 51)
  have f_sum : mg "sum" = none := He.free_ok KX G (c.fact 57)
  obtain ⟨fd, F⟩ := c.def_ 20
  refine def_at (N := ["table", "column"]) (k := 5) false F (He.glo_ok KX G (c.fact 20)) ⟨rfl, rfl, rfl, by decide +kernel, rfl, by decide +kernel, by decide +kernel⟩ 2 2 rfl rfl (by decide) ?_
  intro cdv A outer s H hgd hr
  have hu := hr.u64
  have hu5 := hr.u65
  have hN : (["table", "column"] : List Str).Nodup := by decide +kernel
  refine b_cons ?_ ?_
  · refine s_expr ?_
    refine c_fn D_check_table bn_check_table_1 (hr.mono (by decide)) hgd rfl ?_ k_nil
    refine l_cons ?_ l_nil
    refine d_var 0
  · refine b_cons ?_ ?_
    · refine s_expr ?_
      refine c_fn D_check_column bn_check_column_2 (hr.mono (by decide)) hgd rfl ?_ k_nil
      refine l_cons ?_ ?_
      · refine d_var 0
      · refine l_cons ?_ l_nil
        refine d_var 1
    · refine b_cons ?_ b_nil
      refine s_ret ?_
      refine c_fn D_reduced bn_reduced_2 (hr.mono (by decide)) hgd rfl ?_ k_nil
      refine l_cons ?_ ?_
      · refine .of ?_
        refine a_callB (c_sum rfl) rfl f_sum (by decide +kernel) ?_
        refine l_cons ?_ l_nil
        refine .of ?_
        refine c_fn D_inputs_of bn_inputs_of_2 (hr.mono (by decide)) hgd rfl ?_ k_nil
        refine l_cons ?_ ?_
        · refine d_var 0
        · refine l_cons ?_ l_nil
          refine d_var 1
      · refine l_cons ?_ l_nil
        refine d_lenV 0 rfl f_len
def b_answer_mean : Sm :=
 gSeq (gDrop (gFn m_check_table 1 0 [0] (lcons (gVar 0) (ret [])) (ret [])))
 (gSeq (gRet (gFn m_reduced 2 0 [0, 1] (lcons (dOf (gCall sumD (lcons (dOf (gFn m_answers_of 1 0 [0] (lcons (gVar 0) (ret [])) (ret []))) (ret [])))) (lcons (gLenV 0) (ret []))) (ret [])))
 (gNil))
def m_answer_mean : Fn := defF 1 1 false b_answer_mean
theorem ok_answer_mean (c : He.SaysD Hd.fa Hd.fn K) (cx : Hd.ex K = true) (KX : K.In base) (G : base.Ns mainGlobals mg) : DefAt P w K mg base "answer_mean" (defArgs (Hd.top 35)) 6 1 ["table"] false m_answer_mean := by
  have D_answers_of := ok_answers_of (P := P) (w := w) (mg := mg) (base := base) c cx KX G
  have D_check_table := ok_check_table (P := P) (w := w) (mg := mg) (base := base) c cx KX G
  have D_reduced := ok_reduced (P := P) (w := w) (mg := mg) (base := base) c cx KX G
  have f_len : mg "len" = none := He.free_ok KX G (c.fact 51)
  have f_sum : mg "sum" = none := He.free_ok KX G (c.fact 57)
  obtain ⟨fd, F⟩ := c.def_ 21
  refine def_at (N := ["table"]) (k := 5) false F (He.glo_ok KX G (c.fact 21)) ⟨rfl, rfl, rfl, by decide +kernel, rfl, by decide +kernel, by decide +kernel⟩ 1 1 rfl rfl (by decide) ?_
  intro cdv A outer s H hgd hr
  have hu := hr.u64
  have hu5 := hr.u65
  have hN : (["table"] : List Str).Nodup := by decide +kernel
  refine b_cons ?_ ?_
  · refine s_expr ?_
    refine c_fn D_check_table bn_check_table_1 (hr.mono (by decide)) hgd rfl ?_ k_nil
    refine l_cons ?_ l_nil
    refine d_var 0
  · refine b_cons ?_ b_nil
    refine s_ret ?_
    refine c_fn D_reduced bn_reduced_2 (hr.mono (by decide)) hgd rfl ?_ k_nil
    refine l_cons ?_ ?_
    · refine .of ?_
      refine a_callB (c_sum rfl) rfl f_sum (by decide +kernel) ?_
      refine l_cons ?_ l_nil
      refine .of ?_
      refine c_fn D_answers_of bn_answers_of_1 (hr.mono (by decide)) hgd rfl ?_ k_nil
      refine l_cons ?_ l_nil
      refine d_var 0
    · refine l_cons ?_ l_nil
      refine d_lenV 0 rfl f_len
def b_product_sum : Sm :=
 gSeq (gDrop (gFn m_check_table 1 0 [0] (lcons (gVar 0) (ret [])) (ret [])))
 (gSeq (gDrop (gFn m_check_column 2 0 [0, 1] (lcons (gVar 0) (lcons (gVar 1) (ret []))) (ret [])))
 (gSeq (gDrop (gFn m_check_column 2 0 [0, 1] (lcons (gVar 0) (lcons (gVar 2) (ret []))) (ret [])))
 (gSeq (gRet (gCall sumD (lcons (dOf (gLc [3, 4] (gZip (dOf (gFn m_inputs_of 2 0 [0, 1] (lcons (gVar 0) (lcons (gVar 1) (ret []))) (ret []))) (dOf (gFn m_inputs_of 2 0 [0, 1] (lcons (gVar 0) (lcons (gVar 2) (ret []))) (ret [])))) (tgT 2 (tgsCons (tgN 3) (tgsCons (tgN 4) (tgsNil)))) (ret true) (gBin mulD (gVar 3) (gVar 4)))) (ret []))))
 (gNil))))
def m_product_sum : Fn := defF 5 3 false b_product_sum
theorem ok_product_sum (c : He.SaysD Hd.fa Hd.fn K) (cx : Hd.ex K = true) (KX : K.In base) (G : base.Ns mainGlobals mg) : DefAt P w K mg base "product_sum" (defArgs (Hd.top 36)) 6 3 ["table", "column", "late"] false m_product_sum := by
  have D_check_column := ok_check_column (P := P) (w := w) (mg := mg) (base := base) c cx KX G
  have D_check_table := ok_check_table (P := P) (w := w) (mg := mg) (base := base) c cx KX G
  have D_inputs_of := ok_inputs_of (P := P) (w := w) (mg := mg) (base := base) c cx KX G
  have f_sum : mg "sum" = none := He.free_ok KX G (c.fact 57)
  have f_zip : mg "zip" = none := He.free_ok KX G (c.fact 59)
  obtain ⟨fd, F⟩ := c.def_ 22
  refine def_at (N := ["table", "column", "late", "one", "two"]) (k := 5) false F (He.glo_ok KX G (c.fact 22)) ⟨rfl, rfl, rfl, by decide +kernel, rfl, by decide +kernel, by decide +kernel⟩ 3 5 rfl rfl (by decide) ?_
  intro cdv A outer s H hgd hr
  have hu := hr.u64
  have hu5 := hr.u65
  have hN : (["table", "column", "late", "one", "two"] : List Str).Nodup := by decide +kernel
  refine b_cons ?_ ?_
  · refine s_expr ?_
    refine c_fn D_check_table bn_check_table_1 (hr.mono (by decide)) hgd rfl ?_ k_nil
    refine l_cons ?_ l_nil
    refine d_var 0
  · refine b_cons ?_ ?_
    · refine s_expr ?_
      refine c_fn D_check_column bn_check_column_2 (hr.mono (by decide)) hgd rfl ?_ k_nil
      refine l_cons ?_ ?_
      · refine d_var 0
      · refine l_cons ?_ l_nil
        refine d_var 1
    · refine b_cons ?_ ?_
      · refine s_expr ?_
        refine c_fn D_check_column bn_check_column_2 (hr.mono (by decide)) hgd rfl ?_ k_nil
        refine l_cons ?_ ?_
        · refine d_var 0
        · refine l_cons ?_ l_nil
          refine d_var 2
      · refine b_cons ?_ b_nil
        refine s_ret ?_
        refine a_callB (c_sum rfl) rfl f_sum (by decide +kernel) ?_
        refine l_cons ?_ l_nil
        refine .of ?_
        refine a_lc (pairs := [("one", 3), ("two", 4)]) rfl hN ?_ (blkOk_by (by kernel_rfl)) ?_ (fun _ _ _ _ _ => Ifs.no) ?_
        · refine i_zip rfl f_zip ?_ ?_
          · refine .of ?_
            refine c_fn D_inputs_of bn_inputs_of_2 (hr.mono (by decide)) hgd rfl ?_ k_nil
            refine l_cons ?_ ?_
            · refine d_var 0
            · refine l_cons ?_ l_nil
              refine d_var 1
          · refine .of ?_
            refine c_fn D_inputs_of bn_inputs_of_2 (hr.mono (by decide)) hgd rfl ?_ k_nil
            refine l_cons ?_ ?_
            · refine d_var 0
            · refine l_cons ?_ l_nil
              refine d_var 2
        · intro _ _ _ _ _
          refine cg_tup rfl ?_
          refine cgs_cons ?_ ?_
          · refine cg_name 3 hN
          · refine cgs_cons ?_ cgs_nil
            refine cg_name 4 hN
        · intro _ _ _ _ _
          refine a_bin o_mul ?_ ?_
          · refine d_var 3
          · refine d_var 4
def b_answer_sum : Sm :=
 gSeq (gDrop (gFn m_check_table 1 0 [0] (lcons (gVar 0) (ret [])) (ret [])))
 (gSeq (gDrop (gFn m_check_column 2 0 [0, 1] (lcons (gVar 0) (lcons (gVar 1) (ret []))) (ret [])))
 (gSeq (gRet (gCall sumD (lcons (dOf (gLc [2, 3] (gZip (dOf (gFn m_inputs_of 2 0 [0, 1] (lcons (gVar 0) (lcons (gVar 1) (ret []))) (ret []))) (dOf (gFn m_answers_of 1 0 [0] (lcons (gVar 0) (ret [])) (ret [])))) (tgT 2 (tgsCons (tgN 2) (tgsCons (tgN 3) (tgsNil)))) (ret true) (gBin mulD (gVar 2) (gVar 3)))) (ret []))))
 (gNil)))
def m_answer_sum : Fn := defF 4 2 false b_answer_sum
theorem ok_answer_sum (c : He.SaysD Hd.fa Hd.fn K) (cx : Hd.ex K = true) (KX : K.In base) (G : base.Ns mainGlobals mg) : DefAt P w K mg base "answer_sum" (defArgs (Hd.top 37)) 6 2 ["table", "column"] false m_answer_sum := by
  have D_answers_of := ok_answers_of (P := P) (w := w) (mg := mg) (base := base) c cx KX G
  have D_check_column := ok_check_column (P := P) (w := w) (mg := mg) (base := base) c cx KX G
  have D_check_table := ok_check_table (P := P) (w := w) (mg := mg) (base := base) c cx KX G
  have D_inputs_of := ok_inputs_of (P := P) (w := w) (mg := mg) (base := base) c cx KX G
  have f_sum : mg "sum" = none := He.free_ok KX G (c.fact 57)
  have f_zip : mg "zip" = none := He.free_ok KX G (c.fact 59)
  obtain ⟨fd, F⟩ := c.def_ 23
  refine def_at (N := ["table", "column", "one", "two"]) (k := 5) false F (He.glo_ok KX G (c.fact 23)) ⟨rfl, rfl, rfl, by decide +kernel, rfl, by decide +kernel, by decide +kernel⟩ 2 4 rfl rfl (by decide) ?_
  intro cdv A outer s H hgd hr
  have hu := hr.u64
  have hu5 := hr.u65
  have hN : (["table", "column", "one", "two"] : List Str).Nodup := by decide +kernel
  refine b_cons ?_ ?_
  · refine s_expr ?_
    refine c_fn D_check_table bn_check_table_1 (hr.mono (by decide)) hgd rfl ?_ k_nil
    refine l_cons ?_ l_nil
    refine d_var 0
  · refine b_cons ?_ ?_
    · refine s_expr ?_
      refine c_fn D_check_column bn_check_column_2 (hr.mono (by decide)) hgd rfl ?_ k_nil
      refine l_cons ?_ ?_
      · refine d_var 0
      · refine l_cons ?_ l_nil
        refine d_var 1
    · refine b_cons ?_ b_nil
      refine s_ret ?_
      refine a_callB (c_sum rfl) rfl f_sum (by decide +kernel) ?_
      refine l_cons ?_ l_nil
      refine .of ?_
      refine a_lc (pairs := [("one", 2), ("two", 3)]) rfl hN ?_ (blkOk_by (by kernel_rfl)) ?_ (fun _ _ _ _ _ => Ifs.no) ?_
      · refine i_zip rfl f_zip ?_ ?_
        · refine .of ?_
          refine c_fn D_inputs_of bn_inputs_of_2 (hr.mono (by decide)) hgd rfl ?_ k_nil
          refine l_cons ?_ ?_
          · refine d_var 0
          · refine l_cons ?_ l_nil
            refine d_var 1
        · refine .of ?_
          refine c_fn D_answers_of bn_answers_of_1 (hr.mono (by decide)) hgd rfl ?_ k_nil
          refine l_cons ?_ l_nil
          refine d_var 0
      · intro _ _ _ _ _
        refine cg_tup rfl ?_
        refine cgs_cons ?_ ?_
        · refine cg_name 2 hN
        · refine cgs_cons ?_ cgs_nil
          refine cg_name 3 hN
      · intro _ _ _ _ _
        refine a_bin o_mul ?_ ?_
        · refine d_var 2
        · refine d_var 3
def b_told_by : Sm :=
 gSeq (gSet 2 (aOf (ret (.tuple [(.int (0)), (.int (1))]))))
 (gSeq (gFor (gZip (gVar 0) (gVar 1)) (tgT 2 (tgsCons (tgN 3) (tgsCons (tgN 4) (tgsNil)))) (gSeq (gSet 2 (gFn m_add 2 0 [0, 1] (lcons (gVar 2) (lcons (dOf (gFn m_multiply 2 0 [0, 1] (lcons (gTupE (lcons (gVar 3) (lcons (ret (.int 1)) (ret [])))) (lcons (gVar 4) (ret []))) (ret []))) (ret []))) (ret [])))
 (gNil)))
 (gSeq (gRet (mVar 2))
 (gNil)))
def m_told_by : Fn := defF 5 2 false b_told_by
theorem ok_told_by (c : He.SaysD Hd.fa Hd.fn K) (cx : Hd.ex K = true) (KX : K.In base) (G : base.Ns mainGlobals mg) : DefAt P w K mg base "told_by" (defArgs (Hd.top 39)) 4 2 ["inputs", "rule"] false m_told_by := by
  have D_add := ok_add (P := P) (w := w) (mg := mg) (base := base) c cx KX G
  have D_multiply := ok_multiply (P := P) (w := w) (mg := mg) (base := base) c cx KX G
  have tg_NOUGHT := He.glo_ok KX G (c.fact 65)
  have tb_NOUGHT := tbk_NOUGHT cx
  have f_zip : mg "zip" = none := He.free_ok KX G (c.fact 59)
  obtain ⟨fd, F⟩ := c.def_ 24
  refine def_at (N := ["inputs", "rule", "found", "one", "number"]) (k := 3) false F (He.glo_ok KX G (c.fact 24)) ⟨rfl, rfl, rfl, by decide +kernel, rfl, by decide +kernel, by decide +kernel⟩ 2 5 rfl rfl (by decide) ?_
  intro cdv A outer s H hgd hr
  have hu := hr.u64
  have hu5 := hr.u65
  have hN : (["inputs", "rule", "found", "one", "number"] : List Str).Nodup := by decide +kernel
  refine b_cons ?_ ?_
  · refine s_set (i := 2) hN ?_
    refine .of ?_
    refine d_gtup rfl tg_NOUGHT tb_NOUGHT (fun _ _ => (.cons (.int _) (.cons (.int _) .nil)))
  · refine b_cons ?_ ?_
    · refine s_for PassesOwn.never rfl ?_ ?_ ?_
      · refine i_zip rfl f_zip ?_ ?_
        · refine d_var 0
        · refine d_var 1
      · refine g_tup rfl ?_
        refine gs_cons ?_ ?_
        · refine g_name 3 hN
        · refine gs_cons ?_ gs_nil
          refine g_name 4 hN
      · refine b_cons ?_ b_nil
        refine s_set (i := 2) hN ?_
        refine c_fn D_add bn_add_2 (hr.mono (by decide)) hgd rfl ?_ k_nil
        refine l_cons ?_ ?_
        · refine d_var 2
        · refine l_cons ?_ l_nil
          refine .of ?_
          refine c_fn D_multiply bn_multiply_2 (hr.mono (by decide)) hgd rfl ?_ k_nil
          refine l_cons ?_ ?_
          · refine d_tup ?_
            refine l_cons ?_ ?_
            · refine d_var 3
            · refine l_cons d_int l_nil
          · refine l_cons ?_ l_nil
            refine d_var 4
    · refine b_cons ?_ b_nil
      refine s_ret ?_
      refine a_mv 2
def b_misses_of : Sm :=
 gSeq (gRet (gLc [2, 3] (gSeqI (gVar 0)) (tgT 2 (tgsCons (tgN 2) (tgsCons (tgN 3) (tgsNil)))) (ret true) (gFn m_take 2 0 [0, 1] (lcons (gTupE (lcons (gVar 3) (lcons (ret (.int 1)) (ret [])))) (lcons (dOf (gFn m_told_by 2 0 [0, 1] (lcons (gVar 2) (lcons (gVar 1) (ret []))) (ret []))) (ret []))) (ret []))))
 (gNil)
def m_misses_of : Fn := defF 4 2 false b_misses_of
theorem ok_misses_of (c : He.SaysD Hd.fa Hd.fn K) (cx : Hd.ex K = true) (KX : K.In base) (G : base.Ns mainGlobals mg) : DefAt P w K mg base "misses_of" (defArgs (Hd.top 40)) 5 2 ["table", "rule"] false m_misses_of := by
  have D_take := ok_take (P := P) (w := w) (mg := mg) (base := base) c cx KX G
  have D_told_by := ok_told_by (P := P) (w := w) (mg := mg) (base := base) c cx KX G
  obtain ⟨fd, F⟩ := c.def_ 25
  refine def_at (N := ["table", "rule", "inputs", "answer"]) (k := 4) false F (He.glo_ok KX G (c.fact 25)) ⟨rfl, rfl, rfl, by decide +kernel, rfl, by decide +kernel, by decide +kernel⟩ 2 4 rfl rfl (by decide) ?_
  intro cdv A outer s H hgd hr
  have hu := hr.u64
  have hu5 := hr.u65
  have hN : (["table", "rule", "inputs", "answer"] : List Str).Nodup := by decide +kernel
  refine b_cons ?_ b_nil
  refine s_ret ?_
  refine a_lc (pairs := [("inputs", 2), ("answer", 3)]) rfl hN ?_ (blkOk_by (by kernel_rfl)) ?_ (fun _ _ _ _ _ => Ifs.no) ?_
  · refine i_seq ?_
    refine d_var 0
  · intro _ _ _ _ _
    refine cg_tup rfl ?_
    refine cgs_cons ?_ ?_
    · refine cg_name 2 hN
    · refine cgs_cons ?_ cgs_nil
      refine cg_name 3 hN
  · intro _ _ _ _ _
    refine c_fn D_take bn_take_2 (hr.mono (by decide)) hgd rfl ?_ k_nil
    refine l_cons ?_ ?_
    · refine d_tup ?_
      refine l_cons ?_ ?_
      · refine d_var 3
      · refine l_cons d_int l_nil
    · refine l_cons ?_ l_nil
      refine .of ?_
      refine c_fn D_told_by bn_told_by_2 (hr.mono (by decide)) hgd rfl ?_ k_nil
      refine l_cons ?_ ?_
      · refine d_var 2
      · refine l_cons ?_ l_nil
        refine d_var 1
def b_squares_by : Sm :=
 gSeq (gRet (gFn m_total 1 0 [0] (lcons (dOf (gLc [2] (gSeqI (dOf (gFn m_misses_of 2 0 [0, 1] (lcons (gVar 0) (lcons (gVar 1) (ret []))) (ret [])))) (tgN 2) (ret true) (gFn m_multiply 2 0 [0, 1] (lcons (gVar 2) (lcons (gVar 2) (ret []))) (ret [])))) (ret [])) (ret [])))
 (gNil)
def m_squares_by : Fn := defF 3 2 false b_squares_by
theorem ok_squares_by (c : He.SaysD Hd.fa Hd.fn K) (cx : Hd.ex K = true) (KX : K.In base) (G : base.Ns mainGlobals mg) : DefAt P w K mg base "squares_by" (defArgs (Hd.top 41)) 6 2 ["table", "rule"] false m_squares_by := by
  have D_misses_of := ok_misses_of (P := P) (w := w) (mg := mg) (base := base) c cx KX G
  have D_multiply := ok_multiply (P := P) (w := w) (mg := mg) (base := base) c cx KX G
  have D_total := ok_total (P := P) (w := w) (mg := mg) (base := base) c cx KX G
  obtain ⟨fd, F⟩ := c.def_ 26
  refine def_at (N := ["table", "rule", "one"]) (k := 5) false F (He.glo_ok KX G (c.fact 26)) ⟨rfl, rfl, rfl, by decide +kernel, rfl, by decide +kernel, by decide +kernel⟩ 2 3 rfl rfl (by decide) ?_
  intro cdv A outer s H hgd hr
  have hu := hr.u64
  have hu5 := hr.u65
  have hN : (["table", "rule", "one"] : List Str).Nodup := by decide +kernel
  refine b_cons ?_ b_nil
  refine s_ret ?_
  refine c_fn D_total bn_total_1 (hr.mono (by decide)) hgd rfl ?_ k_nil
  refine l_cons ?_ l_nil
  refine .of ?_
  refine a_lc (pairs := [("one", 2)]) rfl hN ?_ (blkOk_by (by kernel_rfl)) ?_ (fun _ _ _ _ _ => Ifs.no) ?_
  · refine i_seq ?_
    refine .of ?_
    refine c_fn D_misses_of bn_misses_of_2 (hr.mono (by decide)) hgd rfl ?_ k_nil
    refine l_cons ?_ ?_
    · refine d_var 0
    · refine l_cons ?_ l_nil
      refine d_var 1
  · intro _ _ _ _ _
    refine cg_name 2 hN
  · intro _ _ _ _ _
    refine c_fn D_multiply bn_multiply_2 (hr.mono (by decide)) hgd rfl ?_ k_nil
    refine l_cons ?_ ?_
    · refine d_var 2
    · refine l_cons ?_ l_nil
      refine d_var 2
def b_check_told : Sm :=
 gSeq (gDrop (gFn m_check_table 1 0 [0] (lcons (gVar 0) (ret [])) (ret [])))
 (gSeq (gDrop (gFn m_check_rule 2 0 [0, 1] (lcons (gVar 0) (lcons (gVar 1) (ret []))) (ret [])))
 (gNil))
def m_check_told : Fn := defF 2 2 false b_check_told
theorem ok_check_told (c : He.SaysD Hd.fa Hd.fn K) (cx : Hd.ex K = true) (KX : K.In base) (G : base.Ns mainGlobals mg) : DefAt P w K mg base "check_told" (defArgs (Hd.top 42)) 6 2 ["table", "rule"] false m_check_told := by
  have D_check_rule := ok_check_rule (P := P) (w := w) (mg := mg) (base := base) c cx KX G
  have D_check_table := ok_check_table (P := P) (w := w) (mg := mg) (base := base) c cx KX G
  obtain ⟨fd, F⟩ := c.def_ 27
  refine def_at (N := ["table", "rule"]) (k := 5) false F (He.glo_ok KX G (c.fact 27)) ⟨rfl, rfl, rfl, by decide +kernel, rfl, by decide +kernel, by decide +kernel⟩ 2 2 rfl rfl (by decide) ?_
  intro cdv A outer s H hgd hr
  have hu := hr.u64
  have hu5 := hr.u65
  have hN : (["table", "rule"] : List Str).Nodup := by decide +kernel
  refine b_cons ?_ ?_
  · refine s_expr ?_
    refine c_fn D_check_table bn_check_table_1 (hr.mono (by decide)) hgd rfl ?_ k_nil
    refine l_cons ?_ l_nil
    refine d_var 0
  · refine b_cons ?_ b_nil
    refine s_expr ?_
    refine c_fn D_check_rule bn_check_rule_2 (hr.mono (by decide)) hgd rfl ?_ k_nil
    refine l_cons ?_ ?_
    · refine d_var 0
    · refine l_cons ?_ l_nil
      refine d_var 1
def b_misses : Sm :=
 gSeq (gDrop (gFn m_check_told 2 0 [0, 1] (lcons (gVar 0) (lcons (gVar 1) (ret []))) (ret [])))
 (gSeq (gRet (gFn m_misses_of 2 0 [0, 1] (lcons (gVar 0) (lcons (gVar 1) (ret []))) (ret [])))
 (gNil))
def m_misses : Fn := defF 2 2 false b_misses
theorem ok_misses (c : He.SaysD Hd.fa Hd.fn K) (cx : Hd.ex K = true) (KX : K.In base) (G : base.Ns mainGlobals mg) : DefAt P w K mg base "misses" (defArgs (Hd.top 43)) 7 2 ["table", "rule"] false m_misses := by
  have D_check_told := ok_check_told (P := P) (w := w) (mg := mg) (base := base) c cx KX G
  have D_misses_of := ok_misses_of (P := P) (w := w) (mg := mg) (base := base) c cx KX G
  obtain ⟨fd, F⟩ := c.def_ 28
  refine def_at (N := ["table", "rule"]) (k := 6) false F (He.glo_ok KX G (c.fact 28)) ⟨rfl, rfl, rfl, by decide +kernel, rfl, by decide +kernel, by decide +kernel⟩ 2 2 rfl rfl (by decide) ?_
  intro cdv A outer s H hgd hr
  have hu := hr.u64
  have hu5 := hr.u65
  have hN : (["table", "rule"] : List Str).Nodup := by decide +kernel
  refine b_cons ?_ ?_
  · refine s_expr ?_
    refine c_fn D_check_told bn_check_told_2 (hr.mono (by decide)) hgd rfl ?_ k_nil
    refine l_cons ?_ ?_
    · refine d_var 0
    · refine l_cons ?_ l_nil
      refine d_var 1
  · refine b_cons ?_ b_nil
    refine s_ret ?_
    refine c_fn D_misses_of bn_misses_of_2 (hr.mono (by decide)) hgd rfl ?_ k_nil
    refine l_cons ?_ ?_
    · refine d_var 0
    · refine l_cons ?_ l_nil
      refine d_var 1
def b_squares : Sm :=
 gSeq (gDrop (gFn m_check_told 2 0 [0, 1] (lcons (gVar 0) (lcons (gVar 1) (ret []))) (ret [])))
 (gSeq (gRet (gFn m_squares_by 2 0 [0, 1] (lcons (gVar 0) (lcons (gVar 1) (ret []))) (ret [])))
 (gNil))
def m_squares : Fn := defF 2 2 false b_squares
theorem ok_squares (c : He.SaysD Hd.fa Hd.fn K) (cx : Hd.ex K = true) (KX : K.In base) (G : base.Ns mainGlobals mg) : DefAt P w K mg base "squares" (defArgs (Hd.top 44)) 7 2 ["table", "rule"] false m_squares := by
  have D_check_told := ok_check_told (P := P) (w := w) (mg := mg) (base := base) c cx KX G
  have D_squares_by := ok_squares_by (P := P) (w := w) (mg := mg) (base := base) c cx KX G
  obtain ⟨fd, F⟩ := c.def_ 29
  refine def_at (N := ["table", "rule"]) (k := 6) false F (He.glo_ok KX G (c.fact 29)) ⟨rfl, rfl, rfl, by decide +kernel, rfl, by decide +kernel, by decide +kernel⟩ 2 2 rfl rfl (by decide) ?_
  intro cdv A outer s H hgd hr
  have hu := hr.u64
  have hu5 := hr.u65
  have hN : (["table", "rule"] : List Str).Nodup := by decide +kernel
  refine b_cons ?_ ?_
  · refine s_expr ?_
    refine c_fn D_check_told bn_check_told_2 (hr.mono (by decide)) hgd rfl ?_ k_nil
    refine l_cons ?_ ?_
    · refine d_var 0
    · refine l_cons ?_ l_nil
      refine d_var 1
  · refine b_cons ?_ b_nil
    refine s_ret ?_
    refine c_fn D_squares_by bn_squares_by_2 (hr.mono (by decide)) hgd rfl ?_ k_nil
    refine l_cons ?_ ?_
    · refine d_var 0
    · refine l_cons ?_ l_nil
      refine d_var 1
def b__law_pot : Sm :=
 gSeq (gSet 2 (gIf (gCmp ltI (gVar 1) (gLenV 0)) (gCall absD (lcons (gIxV 0 (gVar 1)) (ret []))) (gBin addD (dOf (gBin mulD (ret (.int 3631)) (gVar 1))) (ret (.int 2939)))))
 (gSeq (gRet (gLstE (lcons (dOf (gCall max2D (lcons (ret (.int 0)) (lcons (dOf (gBin subD (gVar 2) (dOf (gBin powD (ret (.int 10)) (ret (.int 18)))))) (ret []))))) (lcons (dOf (gBin addD (dOf (gBin modD (dOf (gCall intD (lcons (dOf (gBin addD (dOf (gBin addD (dOf (gBin mulD (dOf (gBin modD (dOf (gCall intD (lcons (gVar 2) (ret [])))) (ret (.int 2147483549)))) (ret (.int 40692)))) (dOf (gBin mulD (ret (.int 33403)) (gVar 1))))) (ret (.int 2237)))) (ret [])))) (ret (.int 2147483563)))) (ret (.int 1)))) (ret [])))))
 (gNil))
def m__law_pot : Fn := defF 3 2 false b__law_pot
theorem ok__law_pot (c : He.SaysD Hd.fa Hd.fn K) (cx : Hd.ex K = true) (KX : K.In base) (G : base.Ns mainGlobals mg) : DefAt P w K mg base "_law_pot" (defArgs (Hd.top 46)) 1 2 ["script", "k"] false m__law_pot := by
  have f_abs : mg "abs" = none := He.free_ok KX G (c.fact 45)
  have f_int : mg "int" = none := He.free_ok KX G (c.fact 49)
  have f_len : mg "len" = none := He.free_ok KX G (c.fact 51)
  have f_max : mg "max" = none := He.free_ok KX G (c.fact 53)
  obtain ⟨fd, F⟩ := c.def_ 30
  refine def_at (N := ["script", "k", "cell"]) (k := 0) false F (He.glo_ok KX G (c.fact 30)) ⟨rfl, rfl, rfl, by decide +kernel, rfl, by decide +kernel, by decide +kernel⟩ 2 3 rfl rfl (by decide) ?_
  intro cdv A outer s H hgd hr
  have hu := hr.u64
  have hu5 := hr.u65
  have hN : (["script", "k", "cell"] : List Str).Nodup := by decide +kernel
  refine b_cons ?_ ?_
  · refine s_set (i := 2) hN ?_
    refine a_ifExp ?_ ?_ ?_
    · refine t_cmp o_lt ?_ ?_
      · refine d_var 1
      · refine d_lenV 0 rfl f_len
    · refine a_callB c_abs rfl f_abs (by decide +kernel) ?_
      refine l_cons ?_ l_nil
      refine d_ixV 0 ?_
      refine d_var 1
    · refine a_bin o_add ?_ d_int
      refine .of ?_
      refine a_bin o_mul d_int ?_
      refine d_var 1
  · refine b_cons ?_ b_nil
    refine s_ret ?_
    refine a_lst ?_
    refine l_cons ?_ ?_
    · refine .of ?_
      refine a_callB (c_max2 rfl) rfl f_max (by decide +kernel) ?_
      refine l_cons d_int ?_
      refine l_cons ?_ l_nil
      refine .of ?_
      refine a_bin o_sub ?_ ?_
      · refine d_var 2
      · refine .of ?_
        refine a_bin o_pow d_int d_int
    · refine l_cons ?_ l_nil
      refine .of ?_
      refine a_bin o_add ?_ d_int
      refine .of ?_
      refine a_bin o_mod ?_ d_int
      refine .of ?_
      refine a_callTy c_int rfl f_int (by decide +kernel) ?_
      refine l_cons ?_ l_nil
      refine .of ?_
      refine a_bin o_add ?_ d_int
      refine .of ?_
      refine a_bin o_add ?_ ?_
      · refine .of ?_
        refine a_bin o_mul ?_ d_int
        refine .of ?_
        refine a_bin o_mod ?_ d_int
        refine .of ?_
        refine a_callTy c_int rfl f_int (by decide +kernel) ?_
        refine l_cons ?_ l_nil
        refine d_var 2
      · refine .of ?_
        refine a_bin o_mul d_int ?_
        refine d_var 1
def b__law_draw : Sm :=
 gSeq (gIfS (gCmp gtI (gIxV 0 (ret (.int 0))) (ret (.int 0))) (gSeq (gUnpIx 0 (ret (.int 0)) 2 (dOf (gCall divmodD (lcons (gIxV 0 (ret (.int 0))) (lcons (gVar 1) (ret []))))))
 (gSeq (gRet (mVar 2))
 (gNil))) (gNil))
 (gSeq (gPutIx 0 (ret (.int 1)) (gBin modD (dOf (gCall intD (lcons (dOf (gBin addD (dOf (gBin mulD (gIxV 0 (ret (.int 1))) (ret (.int 40014)))) (ret (.int 11593)))) (ret [])))) (ret (.int 2147483563))))
 (gSeq (gRet (gBin modD (dOf (gCall intD (lcons (dOf (gBin divD (dOf (gBin modD (dOf (gCall intD (lcons (dOf (gBin mulD (gIxV 0 (ret (.int 1))) (gIxV 0 (ret (.int 1))))) (ret [])))) (ret (.int 2147483549)))) (ret (.int 19)))) (ret [])))) (gVar 1)))
 (gNil)))
def m__law_draw : Fn := defF 3 2 true b__law_draw
theorem ok__law_draw (c : He.SaysD Hd.fa Hd.fn K) (cx : Hd.ex K = true) (KX : K.In base) (G : base.Ns mainGlobals mg) : DefAt P w K mg base "_law_draw" (defArgs (Hd.top 47)) 1 2 ["pot", "many"] true m__law_draw := by
  have f_divmod : mg "divmod" = none := He.free_ok KX G (c.fact 48)
  have f_int : mg "int" = none := He.free_ok KX G (c.fact 49)
  obtain ⟨fd, F⟩ := c.def_ 31
  refine def_at (N := ["pot", "many", "digit"]) (k := 0) true F (He.glo_ok KX G (c.fact 31)) ⟨rfl, rfl, rfl, by decide +kernel, rfl, by decide +kernel, by decide +kernel⟩ 2 3 rfl rfl (by decide) ?_
  intro cdv A outer s H hgd hr
  have hu := hr.u64
  have hu5 := hr.u65
  have hN : (["pot", "many", "digit"] : List Str).Nodup := by decide +kernel
  refine b_cons ?_ ?_
  · refine s_if ?_ ?_ b_nil
    · refine t_cmp o_gt ?_ d_int
      refine d_ixV 0 d_int
    · refine b_cons ?_ ?_
      · refine s_unpIx 0 2 rfl hN ?_ d_int
        refine .of ?_
        refine a_callB c_divmod rfl f_divmod (by decide +kernel) ?_
        refine l_cons ?_ ?_
        · refine d_ixV 0 d_int
        · refine l_cons ?_ l_nil
          refine d_var 1
      · refine b_cons ?_ b_nil
        refine s_ret ?_
        refine a_mv 2
  · refine b_cons ?_ ?_
    · refine s_putIx 0 d_int ?_
      refine a_bin o_mod ?_ d_int
      refine .of ?_
      refine a_callTy c_int rfl f_int (by decide +kernel) ?_
      refine l_cons ?_ l_nil
      refine .of ?_
      refine a_bin o_add ?_ d_int
      refine .of ?_
      refine a_bin o_mul ?_ d_int
      refine d_ixV 0 d_int
    · refine b_cons ?_ b_nil
      refine s_ret ?_
      refine a_bin o_mod ?_ ?_
      · refine .of ?_
        refine a_callTy c_int rfl f_int (by decide +kernel) ?_
        refine l_cons ?_ l_nil
        refine .of ?_
        refine a_bin o_div ?_ d_int
        refine .of ?_
        refine a_bin o_mod ?_ d_int
        refine .of ?_
        refine a_callTy c_int rfl f_int (by decide +kernel) ?_
        refine l_cons ?_ l_nil
        refine .of ?_
        refine a_bin o_mul ?_ ?_
        · refine d_ixV 0 d_int
        · refine d_ixV 0 d_int
      · refine d_var 1
def b__law_pick : Sm :=
 gSeq (gRet (aOf (gIxV 1 (dOf (gFnP m__law_draw 0 1 (lcons (gLenV 1) (ret [])))))))
 (gNil)
def m__law_pick : Fn := defF 2 2 true b__law_pick
theorem ok__law_pick (c : He.SaysD Hd.fa Hd.fn K) (cx : Hd.ex K = true) (KX : K.In base) (G : base.Ns mainGlobals mg) : DefAt P w K mg base "_law_pick" (defArgs (Hd.top 48)) 2 2 ["pot", "some"] true m__law_pick := by
  have D__law_draw := ok__law_draw (P := P) (w := w) (mg := mg) (base := base) c cx KX G
  have f_len : mg "len" = none := He.free_ok KX G (c.fact 51)
  obtain ⟨fd, F⟩ := c.def_ 32
  refine def_at (N := ["pot", "some"]) (k := 1) true F (He.glo_ok KX G (c.fact 32)) ⟨rfl, rfl, rfl, by decide +kernel, rfl, by decide +kernel, by decide +kernel⟩ 2 2 rfl rfl (by decide) ?_
  intro cdv A outer s H hgd hr
  have hu := hr.u64
  have hu5 := hr.u65
  have hN : (["pot", "some"] : List Str).Nodup := by decide +kernel
  refine b_cons ?_ b_nil
  refine s_ret ?_
  refine .of ?_
  refine d_ixV 1 ?_
  refine .of ?_
  refine c_fnP 0 D__law_draw bn__law_draw_2 (hr.mono (by decide)) hgd rfl ?_
  refine l_cons ?_ l_nil
  refine d_lenV 1 rfl f_len
def b__law_divisor : Sm :=
 gSeq (gWhl (natAt 1) (gCmp gtI (gVar 1) (ret (.int 0))) (gSeq (gParL [0, 1] (acons (aOf (gVar 1)) (acons (gBin modD (dOf (gCall intD (lcons (gVar 0) (ret [])))) (gVar 1)) (ret []))))
 (gNil)))
 (gSeq (gRet (mVar 0))
 (gNil))
def m__law_divisor : Fn := defF 2 2 false b__law_divisor
theorem ok__law_divisor (c : He.SaysD Hd.fa Hd.fn K) (cx : Hd.ex K = true) (KX : K.In base) (G : base.Ns mainGlobals mg) : DefAt P w K mg base "_law_divisor" (defArgs (Hd.top 49)) 1 2 ["one", "other"] false m__law_divisor := by
  have f_int : mg "int" = none := He.free_ok KX G (c.fact 49)
  obtain ⟨fd, F⟩ := c.def_ 33
  refine def_at (N := ["one", "other"]) (k := 0) false F (He.glo_ok KX G (c.fact 33)) ⟨rfl, rfl, rfl, by decide +kernel, rfl, by decide +kernel, by decide +kernel⟩ 2 2 rfl rfl (by decide) ?_
  intro cdv A outer s H hgd hr
  have hu := hr.u64
  have hu5 := hr.u65
  have hN : (["one", "other"] : List Str).Nodup := by decide +kernel
  refine b_cons ?_ ?_
  · refine s_whl (natAt 1) PassesOwn.never ?_ ?_
    · refine t_cmp o_gt ?_ d_int
      refine d_var 1
    · refine b_cons ?_ b_nil
      refine s_par2 rfl hN ?_
      refine as_cons ?_ ?_
      · refine .of ?_
        refine d_var 1
      · refine as_cons ?_ as_nil
        refine a_bin o_mod ?_ ?_
        · refine .of ?_
          refine a_callTy c_int rfl f_int (by decide +kernel) ?_
          refine l_cons ?_ l_nil
          refine d_var 0
        · refine d_var 1
  · refine b_cons ?_ b_nil
    refine s_ret ?_
    refine a_mv 0
def b__law_cut : Sm :=
 gSeq (gIfS (gCmp ltI (gVar 1) (ret (.int 0))) (gSeq (gParL [0, 1] (acons (aOf (gNeg (gVar 0))) (acons (aOf (gNeg (gVar 1))) (ret []))))
 (gNil)) (gNil))
 (gSeq (gSet 2 (gFn m__law_divisor 2 0 [0, 1] (lcons (dOf (gCall absD (lcons (gVar 0) (ret [])))) (lcons (gVar 1) (ret []))) (ret [])))
 (gSeq (gRet (aOf (gTupE (lcons (dOf (gBin divD (gVar 0) (gVar 2))) (lcons (dOf (gBin divD (gVar 1) (gVar 2))) (ret []))))))
 (gNil)))
def m__law_cut : Fn := defF 3 2 false b__law_cut
theorem ok__law_cut (c : He.SaysD Hd.fa Hd.fn K) (cx : Hd.ex K = true) (KX : K.In base) (G : base.Ns mainGlobals mg) : DefAt P w K mg base "_law_cut" (defArgs (Hd.top 50)) 2 2 ["top", "bottom"] false m__law_cut := by
  have D__law_divisor := ok__law_divisor (P := P) (w := w) (mg := mg) (base := base) c cx KX G
  have f_abs : mg "abs" = none := He.free_ok KX G (c.fact 45)
  obtain ⟨fd, F⟩ := c.def_ 34
  refine def_at (N := ["top", "bottom", "common"]) (k := 1) false F (He.glo_ok KX G (c.fact 34)) ⟨rfl, rfl, rfl, by decide +kernel, rfl, by decide +kernel, by decide +kernel⟩ 2 3 rfl rfl (by decide) ?_
  intro cdv A outer s H hgd hr
  have hu := hr.u64
  have hu5 := hr.u65
  have hN : (["top", "bottom", "common"] : List Str).Nodup := by decide +kernel
  refine b_cons ?_ ?_
  · refine s_if ?_ ?_ b_nil
    · refine t_cmp o_lt ?_ d_int
      refine d_var 1
    · refine b_cons ?_ b_nil
      refine s_par2 rfl hN ?_
      refine as_cons ?_ ?_
      · refine .of ?_
        refine d_neg ?_
        refine d_var 0
      · refine as_cons ?_ as_nil
        refine .of ?_
        refine d_neg ?_
        refine d_var 1
  · refine b_cons ?_ ?_
    · refine s_set (i := 2) hN ?_
      refine c_fn D__law_divisor bn__law_divisor_2 (hr.mono (by decide)) hgd rfl ?_ k_nil
      refine l_cons ?_ ?_
      · refine .of ?_
        refine a_callB c_abs rfl f_abs (by decide +kernel) ?_
        refine l_cons ?_ l_nil
        refine d_var 0
      · refine l_cons ?_ l_nil
        refine d_var 1
    · refine b_cons ?_ b_nil
      refine s_ret ?_
      refine .of ?_
      refine d_tup ?_
      refine l_cons ?_ ?_
      · refine .of ?_
        refine a_bin o_div ?_ ?_
        · refine d_var 0
        · refine d_var 2
      · refine l_cons ?_ l_nil
        refine .of ?_
        refine a_bin o_div ?_ ?_
        · refine d_var 1
        · refine d_var 2
def b__law_plus : Sm :=
 gSeq (gRet (gFn m__law_cut 2 0 [0, 1] (lcons (dOf (gBin addD (dOf (gBin mulD (gIxV 0 (ret (.int 0))) (gIxV 1 (ret (.int 1))))) (dOf (gBin mulD (gIxV 1 (ret (.int 0))) (gIxV 0 (ret (.int 1))))))) (lcons (dOf (gBin mulD (gIxV 0 (ret (.int 1))) (gIxV 1 (ret (.int 1))))) (ret []))) (ret [])))
 (gNil)
def m__law_plus : Fn := defF 2 2 false b__law_plus
theorem ok__law_plus (c : He.SaysD Hd.fa Hd.fn K) (cx : Hd.ex K = true) (KX : K.In base) (G : base.Ns mainGlobals mg) : DefAt P w K mg base "_law_plus" (defArgs (Hd.top 51)) 3 2 ["one", "other"] false m__law_plus := by
  have D__law_cut := ok__law_cut (P := P) (w := w) (mg := mg) (base := base) c cx KX G
  obtain ⟨fd, F⟩ := c.def_ 35
  refine def_at (N := ["one", "other"]) (k := 2) false F (He.glo_ok KX G (c.fact 35)) ⟨rfl, rfl, rfl, by decide +kernel, rfl, by decide +kernel, by decide +kernel⟩ 2 2 rfl rfl (by decide) ?_
  intro cdv A outer s H hgd hr
  have hu := hr.u64
  have hu5 := hr.u65
  have hN : (["one", "other"] : List Str).Nodup := by decide +kernel
  refine b_cons ?_ b_nil
  refine s_ret ?_
  refine c_fn D__law_cut bn__law_cut_2 (hr.mono (by decide)) hgd rfl ?_ k_nil
  refine l_cons ?_ ?_
  · refine .of ?_
    refine a_bin o_add ?_ ?_
    · refine .of ?_
      refine a_bin o_mul ?_ ?_
      · refine d_ixV 0 d_int
      · refine d_ixV 1 d_int
    · refine .of ?_
      refine a_bin o_mul ?_ ?_
      · refine d_ixV 1 d_int
      · refine d_ixV 0 d_int
  · refine l_cons ?_ l_nil
    refine .of ?_
    refine a_bin o_mul ?_ ?_
    · refine d_ixV 0 d_int
    · refine d_ixV 1 d_int
def b__law_less : Sm :=
 gSeq (gRet (gFn m__law_cut 2 0 [0, 1] (lcons (dOf (gBin subD (dOf (gBin mulD (gIxV 0 (ret (.int 0))) (gIxV 1 (ret (.int 1))))) (dOf (gBin mulD (gIxV 1 (ret (.int 0))) (gIxV 0 (ret (.int 1))))))) (lcons (dOf (gBin mulD (gIxV 0 (ret (.int 1))) (gIxV 1 (ret (.int 1))))) (ret []))) (ret [])))
 (gNil)
def m__law_less : Fn := defF 2 2 false b__law_less
theorem ok__law_less (c : He.SaysD Hd.fa Hd.fn K) (cx : Hd.ex K = true) (KX : K.In base) (G : base.Ns mainGlobals mg) : DefAt P w K mg base "_law_less" (defArgs (Hd.top 52)) 3 2 ["one", "other"] false m__law_less := by
  have D__law_cut := ok__law_cut (P := P) (w := w) (mg := mg) (base := base) c cx KX G
  obtain ⟨fd, F⟩ := c.def_ 36
  refine def_at (N := ["one", "other"]) (k := 2) false F (He.glo_ok KX G (c.fact 36)) ⟨rfl, rfl, rfl, by decide +kernel, rfl, by decide +kernel, by decide +kernel⟩ 2 2 rfl rfl (by decide) ?_
  intro cdv A outer s H hgd hr
  have hu := hr.u64
  have hu5 := hr.u65
  have hN : (["one", "other"] : List Str).Nodup := by decide +kernel
  refine b_cons ?_ b_nil
  refine s_ret ?_
  refine c_fn D__law_cut bn__law_cut_2 (hr.mono (by decide)) hgd rfl ?_ k_nil
  refine l_cons ?_ ?_
  · refine .of ?_
    refine a_bin o_sub ?_ ?_
    · refine .of ?_
      refine a_bin o_mul ?_ ?_
      · refine d_ixV 0 d_int
      · refine d_ixV 1 d_int
    · refine .of ?_
      refine a_bin o_mul ?_ ?_
      · refine d_ixV 1 d_int
      · refine d_ixV 0 d_int
  · refine l_cons ?_ l_nil
    refine .of ?_
    refine a_bin o_mul ?_ ?_
    · refine d_ixV 0 d_int
    · refine d_ixV 1 d_int
def b__law_times : Sm :=
 gSeq (gRet (gFn m__law_cut 2 0 [0, 1] (lcons (dOf (gBin mulD (gIxV 0 (ret (.int 0))) (gIxV 1 (ret (.int 0))))) (lcons (dOf (gBin mulD (gIxV 0 (ret (.int 1))) (gIxV 1 (ret (.int 1))))) (ret []))) (ret [])))
 (gNil)
def m__law_times : Fn := defF 2 2 false b__law_times
theorem ok__law_times (c : He.SaysD Hd.fa Hd.fn K) (cx : Hd.ex K = true) (KX : K.In base) (G : base.Ns mainGlobals mg) : DefAt P w K mg base "_law_times" (defArgs (Hd.top 53)) 3 2 ["one", "other"] false m__law_times := by
  have D__law_cut := ok__law_cut (P := P) (w := w) (mg := mg) (base := base) c cx KX G
  obtain ⟨fd, F⟩ := c.def_ 37
  refine def_at (N := ["one", "other"]) (k := 2) false F (He.glo_ok KX G (c.fact 37)) ⟨rfl, rfl, rfl, by decide +kernel, rfl, by decide +kernel, by decide +kernel⟩ 2 2 rfl rfl (by decide) ?_
  intro cdv A outer s H hgd hr
  have hu := hr.u64
  have hu5 := hr.u65
  have hN : (["one", "other"] : List Str).Nodup := by decide +kernel
  refine b_cons ?_ b_nil
  refine s_ret ?_
  refine c_fn D__law_cut bn__law_cut_2 (hr.mono (by decide)) hgd rfl ?_ k_nil
  refine l_cons ?_ ?_
  · refine .of ?_
    refine a_bin o_mul ?_ ?_
    · refine d_ixV 0 d_int
    · refine d_ixV 1 d_int
  · refine l_cons ?_ l_nil
    refine .of ?_
    refine a_bin o_mul ?_ ?_
    · refine d_ixV 0 d_int
    · refine d_ixV 1 d_int
def b__law_below : Sm :=
 gSeq (gRet (aOf (gBl (gCmp ltI (dOf (gBin mulD (gIxV 0 (ret (.int 0))) (gIxV 1 (ret (.int 1))))) (dOf (gBin mulD (gIxV 1 (ret (.int 0))) (gIxV 0 (ret (.int 1)))))))))
 (gNil)
def m__law_below : Fn := defF 2 2 false b__law_below
theorem ok__law_below (c : He.SaysD Hd.fa Hd.fn K) (cx : Hd.ex K = true) (KX : K.In base) (G : base.Ns mainGlobals mg) : DefAt P w K mg base "_law_below" (defArgs (Hd.top 54)) 1 2 ["one", "other"] false m__law_below := by
  obtain ⟨fd, F⟩ := c.def_ 38
  refine def_at (N := ["one", "other"]) (k := 0) false F (He.glo_ok KX G (c.fact 38)) ⟨rfl, rfl, rfl, by decide +kernel, rfl, by decide +kernel, by decide +kernel⟩ 2 2 rfl rfl (by decide) ?_
  intro cdv A outer s H hgd hr
  have hu := hr.u64
  have hu5 := hr.u65
  have hN : (["one", "other"] : List Str).Nodup := by decide +kernel
  refine b_cons ?_ b_nil
  refine s_ret ?_
  refine .of ?_
  refine d_cmp o_lt ?_ ?_
  · refine .of ?_
    refine a_bin o_mul ?_ ?_
    · refine d_ixV 0 d_int
    · refine d_ixV 1 d_int
  · refine .of ?_
    refine a_bin o_mul ?_ ?_
    · refine d_ixV 1 d_int
    · refine d_ixV 0 d_int
def b__law_total : Sm :=
 gSeq (gSet 1 (aOf (gTupE (lcons (ret (.int 0)) (lcons (ret (.int 1)) (ret []))))))
 (gSeq (gFor (gSeqI (gVar 0)) (tgN 2) (gSeq (gSet 1 (gFn m__law_plus 2 0 [0, 1] (lcons (gVar 1) (lcons (gVar 2) (ret []))) (ret [])))
 (gNil)))
 (gSeq (gRet (mVar 1))
 (gNil)))
def m__law_total : Fn := defF 3 1 false b__law_total
theorem ok__law_total (c : He.SaysD Hd.fa Hd.fn K) (cx : Hd.ex K = true) (KX : K.In base) (G : base.Ns mainGlobals mg) : DefAt P w K mg base "_law_total" (defArgs (Hd.top 55)) 4 1 ["some"] false m__law_total := by
  have D__law_plus := ok__law_plus (P := P) (w := w) (mg := mg) (base := base) c cx KX G
  obtain ⟨fd, F⟩ := c.def_ 39
  refine def_at (N := ["some", "found", "one"]) (k := 3) false F (He.glo_ok KX G (c.fact 39)) ⟨rfl, rfl, rfl, by decide +kernel, rfl, by decide +kernel, by decide +kernel⟩ 1 3 rfl rfl (by decide) ?_
  intro cdv A outer s H hgd hr
  have hu := hr.u64
  have hu5 := hr.u65
  have hN : (["some", "found", "one"] : List Str).Nodup := by decide +kernel
  refine b_cons ?_ ?_
  · refine s_set (i := 1) hN ?_
    refine .of ?_
    refine d_tup ?_
    refine l_cons d_int ?_
    refine l_cons d_int l_nil
  · refine b_cons ?_ ?_
    · refine s_for PassesOwn.never rfl ?_ ?_ ?_
      · refine i_seq ?_
        refine d_var 0
      · refine g_name 2 hN
      · refine b_cons ?_ b_nil
        refine s_set (i := 1) hN ?_
        refine c_fn D__law_plus bn__law_plus_2 (hr.mono (by decide)) hgd rfl ?_ k_nil
        refine l_cons ?_ ?_
        · refine d_var 1
        · refine l_cons ?_ l_nil
          refine d_var 2
    · refine b_cons ?_ b_nil
      refine s_ret ?_
      refine a_mv 1
def b__law_table : Sm :=
 gSeq (gParL [3, 4] (acons (gLstE (ret [])) (acons (gFnP m__law_pick 0 1 (lcons (dOf (gLstE (lcons (ret (.int 2)) (lcons (ret (.int 9)) (lcons (ret (.int 99)) (ret [])))))) (ret []))) (ret []))))
 (gSeq (gFor (gRng1 (dOf (gBin addD (ret (.int 1)) (dOf (gFnP m__law_draw 0 1 (lcons (gVar 2) (ret []))))))) (tgN 5) (gSeq (gSet 6 (gCall tupleD (lcons (dOf (gFrz [4] (gLc [7] (gRng1 (gVar 1)) (tgN 7) (ret true) (gBin subD (dOf (gFnP m__law_draw 0 1 (lcons (dOf (gBin addD (dOf (gBin mulD (ret (.int 2)) (gVar 4))) (ret (.int 1)))) (ret [])))) (gVar 4))))) (ret []))))
 (gSeq (gApp 3 (aOf (gTupE (lcons (gVar 6) (lcons (dOf (gBin subD (dOf (gFnP m__law_draw 0 1 (lcons (dOf (gBin addD (dOf (gBin mulD (ret (.int 2)) (gVar 4))) (ret (.int 1)))) (ret [])))) (gVar 4))) (ret []))))))
 (gNil))))
 (gSeq (gRet (mVar 3))
 (gNil)))
def m__law_table : Fn := defF 8 3 true b__law_table
theorem ok__law_table (c : He.SaysD Hd.fa Hd.fn K) (cx : Hd.ex K = true) (KX : K.In base) (G : base.Ns mainGlobals mg) : DefAt P w K mg base "_law_table" (defArgs (Hd.top 56)) 3 3 ["pot", "columns", "most"] true m__law_table := by
  have D__law_draw := ok__law_draw (P := P) (w := w) (mg := mg) (base := base) c cx KX G
  have D__law_pick := ok__law_pick (P := P) (w := w) (mg := mg) (base := base) c cx KX G
  have f_range : mg "range" = none := He.free_ok KX G (c.fact 55)
  have f_tuple : mg "tuple" = none := He.free_ok KX G (c.fact 58)
  obtain ⟨fd, F⟩ := c.def_ 40
  refine def_at (N := ["pot", "columns", "most", "found", "wide", "turn", "inputs", "column"]) (k := 2) true F (He.glo_ok KX G (c.fact 40)) ⟨rfl, rfl, rfl, by decide +kernel, rfl, by decide +kernel, by decide +kernel⟩ 3 8 rfl rfl (by decide) ?_
  intro cdv A outer s H hgd hr
  have hu := hr.u64
  have hu5 := hr.u65
  have hN : (["pot", "columns", "most", "found", "wide", "turn", "inputs", "column"] : List Str).Nodup := by decide +kernel
  refine b_cons ?_ ?_
  · refine s_parG rfl hN ?_ ?_
    · refine as_cons ?_ ?_
      · refine a_lst l_nil
      · refine as_cons ?_ as_nil
        refine c_fnP 0 D__law_pick bn__law_pick_2 (hr.mono (by decide)) hgd rfl ?_
        refine l_cons ?_ l_nil
        refine .of ?_
        refine a_lst ?_
        refine l_cons d_int ?_
        refine l_cons d_int ?_
        refine l_cons d_int l_nil
    · refine nm 3 ?_
      refine nm 4 .nil
  · refine b_cons ?_ ?_
    · refine s_for PassesOwn.never rfl ?_ ?_ ?_
      · refine i_rng1 rfl f_range ?_
        refine .of ?_
        refine a_bin o_add d_int ?_
        refine .of ?_
        refine c_fnP 0 D__law_draw bn__law_draw_2 (hr.mono (by decide)) hgd rfl ?_
        refine l_cons ?_ l_nil
        refine d_var 2
      · refine g_name 5 hN
      · refine b_cons ?_ ?_
        · refine s_set (i := 6) hN ?_
          refine a_callTy c_tuple rfl f_tuple (by decide +kernel) ?_
          refine l_cons ?_ l_nil
          refine .of ?_
          refine a_frz [4] ?_
          refine a_lc (pairs := [("column", 7)]) rfl hN ?_ (blkOk_by (by kernel_rfl)) ?_ (fun _ _ _ _ _ => Ifs.no) ?_
          · refine i_rng1 rfl f_range ?_
            refine d_var 1
          · intro _ _ _ _ _
            refine cg_name 7 hN
          · intro _ _ _ _ _
            refine a_bin o_sub ?_ ?_
            · refine .of ?_
              refine c_fnP 0 D__law_draw bn__law_draw_2 (hr.mono (by decide)) hgd rfl ?_
              refine l_cons ?_ l_nil
              refine .of ?_
              refine a_bin o_add ?_ d_int
              refine .of ?_
              refine a_bin o_mul d_int ?_
              refine d_var 4
            · refine d_var 4
        · refine b_cons ?_ b_nil
          refine s_app 3 ?_
          refine .of ?_
          refine d_tup ?_
          refine l_cons ?_ ?_
          · refine d_var 6
          · refine l_cons ?_ l_nil
            refine .of ?_
            refine a_bin o_sub ?_ ?_
            · refine .of ?_
              refine c_fnP 0 D__law_draw bn__law_draw_2 (hr.mono (by decide)) hgd rfl ?_
              refine l_cons ?_ l_nil
              refine .of ?_
              refine a_bin o_add ?_ d_int
              refine .of ?_
              refine a_bin o_mul d_int ?_
              refine d_var 4
            · refine d_var 4
    · refine b_cons ?_ b_nil
      refine s_ret ?_
      refine a_mv 3
def b__law_rule : Sm :=
 gSeq (gRet (gLc [2] (gRng1 (gVar 1)) (tgN 2) (ret true) (gFn m__law_cut 2 0 [0, 1] (lcons (dOf (gBin subD (dOf (gFnP m__law_draw 0 1 (lcons (ret (.int 41)) (ret [])))) (ret (.int 20)))) (lcons (dOf (gBin addD (ret (.int 1)) (dOf (gFnP m__law_draw 0 1 (lcons (ret (.int 6)) (ret [])))))) (ret []))) (ret []))))
 (gNil)
def m__law_rule : Fn := defF 3 2 true b__law_rule
theorem ok__law_rule (c : He.SaysD Hd.fa Hd.fn K) (cx : Hd.ex K = true) (KX : K.In base) (G : base.Ns mainGlobals mg) : DefAt P w K mg base "_law_rule" (defArgs (Hd.top 57)) 3 2 ["pot", "columns"] true m__law_rule := by
  have D__law_cut := ok__law_cut (P := P) (w := w) (mg := mg) (base := base) c cx KX G
  have D__law_draw := ok__law_draw (P := P) (w := w) (mg := mg) (base := base) c cx KX G
  have f_range : mg "range" = none := He.free_ok KX G (c.fact 55)
  obtain ⟨fd, F⟩ := c.def_ 41
  refine def_at (N := ["pot", "columns", "column"]) (k := 2) true F (He.glo_ok KX G (c.fact 41)) ⟨rfl, rfl, rfl, by decide +kernel, rfl, by decide +kernel, by decide +kernel⟩ 2 3 rfl rfl (by decide) ?_
  intro cdv A outer s H hgd hr
  have hu := hr.u64
  have hu5 := hr.u65
  have hN : (["pot", "columns", "column"] : List Str).Nodup := by decide +kernel
  refine b_cons ?_ b_nil
  refine s_ret ?_
  refine a_lc (pairs := [("column", 2)]) rfl hN ?_ (blkOk_by (by kernel_rfl)) ?_ (fun _ _ _ _ _ => Ifs.no) ?_
  · refine i_rng1 rfl f_range ?_
    refine d_var 1
  · intro _ _ _ _ _
    refine cg_name 2 hN
  · intro _ _ _ _ _
    refine c_fn D__law_cut bn__law_cut_2 (hr.mono (by decide)) hgd rfl ?_ k_nil
    refine l_cons ?_ ?_
    · refine .of ?_
      refine a_bin o_sub ?_ d_int
      refine .of ?_
      refine c_fnP 0 D__law_draw bn__law_draw_2 (hr.mono (by decide)) hgd rfl ?_
      refine l_cons d_int l_nil
    · refine l_cons ?_ l_nil
      refine .of ?_
      refine a_bin o_add d_int ?_
      refine .of ?_
      refine c_fnP 0 D__law_draw bn__law_draw_2 (hr.mono (by decide)) hgd rfl ?_
      refine l_cons d_int l_nil
def b__law_right : Sm :=
 gSeq (gSet 1 (gBin addD (ret (.int 1)) (dOf (gFnP m__law_draw 0 1 (lcons (ret (.int 3)) (ret []))))))
 (gSeq (gParL [2, 3] (acons (gFnP m__law_table 0 2 (lcons (gVar 1) (lcons (ret (.int 8)) (ret [])))) (acons (gFnP m__law_rule 0 1 (lcons (gVar 1) (ret []))) (ret []))))
 (gSeq (gParL [4, 5] (acons (gCall reprD (lcons (gVar 2) (ret []))) (acons (aOf (gLenV 2)) (ret []))))
 (gSeq (gSet 6 (gLc [17, 18] (gSeqI (gVar 2)) (tgT 2 (tgsCons (tgN 17) (tgsCons (tgN 18) (tgsNil)))) (ret true) (aOf (gVar 18))))
 (gSeq (gSet 7 (gFn m__law_cut 2 0 [0, 1] (lcons (dOf (gCall sumD (lcons (gVar 6) (ret [])))) (lcons (gVar 5) (ret []))) (ret [])))
 (gSeq (gIfS (gCmp neX (dOf (gCall reprD (lcons (dOf (gLstE (lcons (dOf (gFn m_answer_mean 1 0 [0] (lcons (gVar 2) (ret [])) (ret []))) (lcons (dOf (gFn m_answer_mean 0 1 [0] (ret []) (lcons (dOf (gCall tupleD (lcons (gVar 2) (ret [])))) (ret [])))) (ret []))))) (ret [])))) (dOf (gCall reprD (lcons (dOf (gLstE (lcons (gVar 7) (lcons (gVar 7) (ret []))))) (ret []))))) (gSeq (gRet (aOf (ret (.bool false))))
 (gNil)) (gNil))
 (gSeq (gParL [8, 9, 10] (acons (gLstE (ret [])) (acons (ret (.odT [])) (acons (gLstE (ret [])) (ret [])))))
 (gSeq (gFor (gRng1 (gVar 1)) (tgN 11) (gSeq (gSet 12 (gLc [17, 18] (gSeqI (gVar 2)) (tgT 2 (tgsCons (tgN 17) (tgsCons (tgN 18) (tgsNil)))) (ret true) (aOf (gIxV 17 (gVar 11)))))
 (gSeq (gApp 8 (gFn m__law_cut 2 0 [0, 1] (lcons (dOf (gCall sumD (lcons (gVar 12) (ret [])))) (lcons (gVar 5) (ret []))) (ret [])))
 (gSeq (gApp 10 (gCall sumD (lcons (dOf (gLc [19, 13] (gZip (gVar 12) (gVar 6)) (tgT 2 (tgsCons (tgN 19) (tgsCons (tgN 13) (tgsNil)))) (ret true) (gBin mulD (gVar 19) (gVar 13)))) (ret []))))
 (gSeq (gIfS (gCmp neX (dOf (gCall reprD (lcons (dOf (gLstE (lcons (dOf (gFn m_column_mean 2 0 [0, 1] (lcons (gVar 2) (lcons (gVar 11) (ret []))) (ret []))) (lcons (dOf (gFn m_column_mean 0 2 [1, 0] (ret []) (lcons (gVar 11) (lcons (gVar 2) (ret []))))) (ret []))))) (ret [])))) (dOf (gCall reprD (lcons (dOf (gBin mulD (dOf (gLstE (lcons (gIxV 8 (gNeg (ret (.int 1)))) (ret [])))) (ret (.int 2)))) (ret []))))) (gSeq (gRet (aOf (ret (.bool false))))
 (gNil)) (gNil))
 (gSeq (gIfS (gCmp neX (dOf (gCall reprD (lcons (dOf (gLstE (lcons (dOf (gFn m_answer_sum 2 0 [0, 1] (lcons (gVar 2) (lcons (gVar 11) (ret []))) (ret []))) (lcons (dOf (gFn m_answer_sum 0 2 [1, 0] (ret []) (lcons (gVar 11) (lcons (gVar 2) (ret []))))) (ret []))))) (ret [])))) (dOf (gCall reprD (lcons (dOf (gBin mulD (dOf (gLstE (lcons (gIxV 10 (gNeg (ret (.int 1)))) (ret [])))) (ret (.int 2)))) (ret []))))) (gSeq (gRet (aOf (ret (.bool false))))
 (gNil)) (gNil))
 (gSeq (gFor (gRng1 (gVar 1)) (tgN 13) (gSeq (gPutDT 9 (lcons (gVar 11) (lcons (gVar 13) (ret []))) (dOf (gCall sumD (lcons (dOf (gFrz [13] (gLc [17, 18] (gSeqI (gVar 2)) (tgT 2 (tgsCons (tgN 17) (tgsCons (tgN 18) (tgsNil)))) (ret true) (gBin mulD (gIxV 17 (gVar 11)) (gIxV 17 (gVar 13)))))) (ret [])))))
 (gSeq (gSet 14 (aOf (gGetDT 9 (lcons (gVar 11) (lcons (gVar 13) (ret []))))))
 (gSeq (gIfS (gCmp neX (dOf (gCall reprD (lcons (dOf (gLstE (lcons (dOf (gFn m_product_sum 3 0 [0, 1, 2] (lcons (gVar 2) (lcons (gVar 11) (lcons (gVar 13) (ret [])))) (ret []))) (lcons (dOf (gFn m_product_sum 0 3 [2, 1, 0] (ret []) (lcons (gVar 13) (lcons (gVar 11) (lcons (gVar 2) (ret [])))))) (lcons (dOf (gFn m_product_sum 3 0 [0, 1, 2] (lcons (gVar 2) (lcons (gVar 13) (lcons (gVar 11) (ret [])))) (ret []))) (ret [])))))) (ret [])))) (dOf (gCall reprD (lcons (dOf (gBin mulD (dOf (gLstE (lcons (gVar 14) (ret [])))) (ret (.int 3)))) (ret []))))) (gSeq (gRet (aOf (ret (.bool false))))
 (gNil)) (gNil))
 (gNil)))))
 (gSeq (gIfS (tB (dOf (gFn m__law_below 2 0 [0, 1] (lcons (gTupE (lcons (gGetDT 9 (lcons (gVar 11) (lcons (gVar 11) (ret [])))) (lcons (gVar 5) (ret [])))) (lcons (dOf (gFn m__law_times 2 0 [0, 1] (lcons (gIxV 8 (gVar 11)) (lcons (gIxV 8 (gVar 11)) (ret []))) (ret []))) (ret []))) (ret [])))) (gSeq (gRet (aOf (ret (.bool false))))
 (gNil)) (gNil))
 (gNil)))))))))
 (gSeq (gSet 15 (aOf (gTupE (lcons (dOf (gCall sumD (lcons (dOf (gLc [19] (gSeqI (gVar 6)) (tgN 19) (ret true) (gBin mulD (gVar 19) (gVar 19)))) (ret [])))) (lcons (ret (.int 1)) (ret []))))))
 (gSeq (gFor (gRng1 (gVar 1)) (tgN 11) (gSeq (gSet 15 (gFn m__law_less 2 0 [0, 1] (lcons (gVar 15) (lcons (dOf (gFn m__law_times 2 0 [0, 1] (lcons (gTupE (lcons (dOf (gBin mulD (ret (.int 2)) (gIxV 10 (gVar 11)))) (lcons (ret (.int 1)) (ret [])))) (lcons (gIxV 3 (gVar 11)) (ret []))) (ret []))) (ret []))) (ret [])))
 (gSeq (gFor (gRng1 (gVar 1)) (tgN 13) (gSeq (gSet 15 (gFn m__law_plus 2 0 [0, 1] (lcons (gVar 15) (lcons (dOf (gFn m__law_times 2 0 [0, 1] (lcons (gTupE (lcons (gGetDT 9 (lcons (gVar 11) (lcons (gVar 13) (ret [])))) (lcons (ret (.int 1)) (ret [])))) (lcons (dOf (gFn m__law_times 2 0 [0, 1] (lcons (gIxV 3 (gVar 11)) (lcons (gIxV 3 (gVar 13)) (ret []))) (ret []))) (ret []))) (ret []))) (ret []))) (ret [])))
 (gNil)))
 (gNil))))
 (gSeq (gIfS (gCmp neX (dOf (gFn m_squares 2 0 [0, 1] (lcons (gVar 2) (lcons (gVar 3) (ret []))) (ret []))) (gVar 15)) (gSeq (gRet (aOf (ret (.bool false))))
 (gNil)) (gNil))
 (gSeq (gSet 16 (gFn m__law_total 1 0 [0] (lcons (dOf (gLc [20, 21] (gZip (gVar 8) (gVar 3)) (tgT 2 (tgsCons (tgN 20) (tgsCons (tgN 21) (tgsNil)))) (ret true) (gFn m__law_times 2 0 [0, 1] (lcons (gVar 20) (lcons (gVar 21) (ret []))) (ret [])))) (ret [])) (ret [])))
 (gSeq (gSet 13 (gFn m__law_times 2 0 [0, 1] (lcons (dOf (gFn m__law_total 1 0 [0] (lcons (dOf (gFn m_misses 2 0 [0, 1] (lcons (gVar 2) (lcons (gVar 3) (ret []))) (ret []))) (ret [])) (ret []))) (lcons (gTupE (lcons (ret (.int 1)) (lcons (gVar 5) (ret [])))) (ret []))) (ret [])))
 (gSeq (gRet (aOf (gAndV (gBl (gCmp eqX (gVar 13) (dOf (gFn m__law_less 2 0 [0, 1] (lcons (gVar 7) (lcons (gVar 16) (ret []))) (ret []))))) (gBor (gBl (gCmp eqX (dOf (gCall reprD (lcons (gVar 2) (ret [])))) (gVar 4)))))))
 (gNil))))))))))))))
def m__law_right : Fn := defF 22 1 true b__law_right
theorem ok__law_right (c : He.SaysD Hd.fa Hd.fn K) (cx : Hd.ex K = true) (KX : K.In base) (G : base.Ns mainGlobals mg) : DefAt P w K mg base "_law_right" (defArgs (Hd.top 58)) 8 1 ["pot"] true m__law_right := by
  have D__law_below := ok__law_below (P := P) (w := w) (mg := mg) (base := base) c cx KX G
  have D__law_cut := ok__law_cut (P := P) (w := w) (mg := mg) (base := base) c cx KX G
  have D__law_draw := ok__law_draw (P := P) (w := w) (mg := mg) (base := base) c cx KX G
  have D__law_less := ok__law_less (P := P) (w := w) (mg := mg) (base := base) c cx KX G
  have D__law_plus := ok__law_plus (P := P) (w := w) (mg := mg) (base := base) c cx KX G
  have D__law_rule := ok__law_rule (P := P) (w := w) (mg := mg) (base := base) c cx KX G
  have D__law_table := ok__law_table (P := P) (w := w) (mg := mg) (base := base) c cx KX G
  have D__law_times := ok__law_times (P := P) (w := w) (mg := mg) (base := base) c cx KX G
  have D__law_total := ok__law_total (P := P) (w := w) (mg := mg) (base := base) c cx KX G
  have D_answer_mean := ok_answer_mean (P := P) (w := w) (mg := mg) (base := base) c cx KX G
  have D_answer_sum := ok_answer_sum (P := P) (w := w) (mg := mg) (base := base) c cx KX G
  have D_column_mean := ok_column_mean (P := P) (w := w) (mg := mg) (base := base) c cx KX G
  have D_misses := ok_misses (P := P) (w := w) (mg := mg) (base := base) c cx KX G
  have D_product_sum := ok_product_sum (P := P) (w := w) (mg := mg) (base := base) c cx KX G
  have D_squares := ok_squares (P := P) (w := w) (mg := mg) (base := base) c cx KX G
  have f_len : mg "len" = none := He.free_ok KX G (c.fact 51)
  have f_range : mg "range" = none := He.free_ok KX G (c.fact 55)
  have f_repr : mg "repr" = none := He.free_ok KX G (c.fact 56)
  have f_sum : mg "sum" = none := He.free_ok KX G (c.fact 57)
  have f_tuple : mg "tuple" = none := He.free_ok KX G (c.fact 58)
  have f_zip : mg "zip" = none := He.free_ok KX G (c.fact 59)
  obtain ⟨fd, F⟩ := c.def_ 42
  refine def_at (N := ["pot", "columns", "table", "rule", "shown", "many", "answers", "due", "means", "products", "sums", "column", "own", "late", "whole", "found", "told", "inputs", "answer", "one", "mean", "number"]) (k := 7) true F (He.glo_ok KX G (c.fact 42)) ⟨rfl, rfl, rfl, by decide +kernel, rfl, by decide +kernel, by decide +kernel⟩ 1 22 rfl rfl (by decide) ?_
  intro cdv A outer s H hgd hr
  have hu := hr.u64
  have hu5 := hr.u65
  have hN : (["pot", "columns", "table", "rule", "shown", "many", "answers", "due", "means", "products", "sums", "column", "own", "late", "whole", "found", "told", "inputs", "answer", "one", "mean", "number"] : List Str).Nodup := by decide +kernel
  refine b_cons ?_ ?_
  · refine s_set (i := 1) hN ?_
    refine a_bin o_add d_int ?_
    refine .of ?_
    refine c_fnP 0 D__law_draw bn__law_draw_2 (hr.mono (by decide)) hgd rfl ?_
    refine l_cons d_int l_nil
  · refine b_cons ?_ ?_
    · refine s_par2 rfl hN ?_
      refine as_cons ?_ ?_
      · refine c_fnP 0 D__law_table bn__law_table_3 (hr.mono (by decide)) hgd rfl ?_
        refine l_cons ?_ ?_
        · refine d_var 1
        · refine l_cons d_int l_nil
      · refine as_cons ?_ as_nil
        refine c_fnP 0 D__law_rule bn__law_rule_2 (hr.mono (by decide)) hgd rfl ?_
        refine l_cons ?_ l_nil
        refine d_var 1
    · refine b_cons ?_ ?_
      · refine s_par2 rfl hN ?_
        refine as_cons ?_ ?_
        · refine a_callB (c_repr hgd hu) rfl f_repr (by decide +kernel) ?_
          refine l_cons ?_ l_nil
          refine d_var 2
        · refine as_cons ?_ as_nil
          refine .of ?_
          refine d_lenV 2 rfl f_len
      · refine b_cons ?_ ?_
        · refine s_setLc (pairs := [("inputs", 17), ("answer", 18)]) rfl hN ?_ (blkOk_by (by kernel_rfl)) ?_ (fun _ _ _ _ _ => Ifs.no) ?_ (sw_true rfl rfl rfl (by decide +kernel))
          · refine i_seq ?_
            refine d_var 2
          · intro _ _ _ _ _
            refine cg_tup rfl ?_
            refine cgs_cons ?_ ?_
            · refine cg_name 17 hN
            · refine cgs_cons ?_ cgs_nil
              refine cg_name 18 hN
          · intro _ _ _ _ _
            refine .of ?_
            refine d_var 18
        · refine b_cons ?_ ?_
          · refine s_set (i := 7) hN ?_
            refine c_fn D__law_cut bn__law_cut_2 (hr.mono (by decide)) hgd rfl ?_ k_nil
            refine l_cons ?_ ?_
            · refine .of ?_
              refine a_callB (c_sum rfl) rfl f_sum (by decide +kernel) ?_
              refine l_cons ?_ l_nil
              refine d_var 6
            · refine l_cons ?_ l_nil
              refine d_var 5
          · refine b_cons ?_ ?_
            · refine s_if ?_ ?_ b_nil
              · refine t_cmp (o_neX hu) ?_ ?_
                · refine .of ?_
                  refine a_callB (c_repr hgd hu) rfl f_repr (by decide +kernel) ?_
                  refine l_cons ?_ l_nil
                  refine .of ?_
                  refine a_lst ?_
                  refine l_cons ?_ ?_
                  · refine .of ?_
                    refine c_fn D_answer_mean bn_answer_mean_1 (hr.mono (by decide)) hgd rfl ?_ k_nil
                    refine l_cons ?_ l_nil
                    refine d_var 2
                  · refine l_cons ?_ l_nil
                    refine .of ?_
                    refine c_fn0 D_answer_mean bn_answer_mean_0_table (hr.mono (by decide)) hgd rfl ?_
                    refine k_cons ?_ k_nil
                    refine .of ?_
                    refine a_callTy c_tuple rfl f_tuple (by decide +kernel) ?_
                    refine l_cons ?_ l_nil
                    refine d_var 2
                · refine .of ?_
                  refine a_callB (c_repr hgd hu) rfl f_repr (by decide +kernel) ?_
                  refine l_cons ?_ l_nil
                  refine .of ?_
                  refine a_lst ?_
                  refine l_cons ?_ ?_
                  · refine d_var 7
                  · refine l_cons ?_ l_nil
                    refine d_var 7
              · refine b_cons ?_ b_nil
                refine s_ret ?_
                refine .of d_bl
            · refine b_cons ?_ ?_
              · refine s_par3 rfl hN ?_
                refine as_cons ?_ ?_
                · refine a_lst l_nil
                · refine as_cons ?_ ?_
                  · refine a_newT 
                  · refine as_cons ?_ as_nil
                    refine a_lst l_nil
              · refine b_cons ?_ ?_
                · refine s_for PassesOwn.never rfl ?_ ?_ ?_
                  · refine i_rng1 rfl f_range ?_
                    refine d_var 1
                  · refine g_name 11 hN
                  · refine b_cons ?_ ?_
                    · refine s_setLc (pairs := [("inputs", 17), ("answer", 18)]) rfl hN ?_ (blkOk_by (by kernel_rfl)) ?_ (fun _ _ _ _ _ => Ifs.no) ?_ (sw_true rfl rfl rfl (by decide +kernel))
                      · refine i_seq ?_
                        refine d_var 2
                      · intro _ _ _ _ _
                        refine cg_tup rfl ?_
                        refine cgs_cons ?_ ?_
                        · refine cg_name 17 hN
                        · refine cgs_cons ?_ cgs_nil
                          refine cg_name 18 hN
                      · intro _ _ _ _ _
                        refine .of ?_
                        refine d_ixV 17 ?_
                        refine d_var 11
                    · refine b_cons ?_ ?_
                      · refine s_app 8 ?_
                        refine c_fn D__law_cut bn__law_cut_2 (hr.mono (by decide)) hgd rfl ?_ k_nil
                        refine l_cons ?_ ?_
                        · refine .of ?_
                          refine a_callB (c_sum rfl) rfl f_sum (by decide +kernel) ?_
                          refine l_cons ?_ l_nil
                          refine d_var 12
                        · refine l_cons ?_ l_nil
                          refine d_var 5
                      · refine b_cons ?_ ?_
                        · refine s_app 10 ?_
                          refine a_callB (c_sum rfl) rfl f_sum (by decide +kernel) ?_
                          refine l_cons ?_ l_nil
                          refine .of ?_
                          refine a_lc (pairs := [("one", 19), ("late", 13)]) rfl hN ?_ (blkOk_by (by kernel_rfl)) ?_ (fun _ _ _ _ _ => Ifs.no) ?_
                          · refine i_zip rfl f_zip ?_ ?_
                            · refine d_var 12
                            · refine d_var 6
                          · intro _ _ _ _ _
                            refine cg_tup rfl ?_
                            refine cgs_cons ?_ ?_
                            · refine cg_name 19 hN
                            · refine cgs_cons ?_ cgs_nil
                              refine cg_name 13 hN
                          · intro _ _ _ _ _
                            refine a_bin o_mul ?_ ?_
                            · refine d_var 19
                            · refine d_var 13
                        · refine b_cons ?_ ?_
                          · refine s_if ?_ ?_ b_nil
                            · refine t_cmp (o_neX hu) ?_ ?_
                              · refine .of ?_
                                refine a_callB (c_repr hgd hu) rfl f_repr (by decide +kernel) ?_
                                refine l_cons ?_ l_nil
                                refine .of ?_
                                refine a_lst ?_
                                refine l_cons ?_ ?_
                                · refine .of ?_
                                  refine c_fn D_column_mean bn_column_mean_2 (hr.mono (by decide)) hgd rfl ?_ k_nil
                                  refine l_cons ?_ ?_
                                  · refine d_var 2
                                  · refine l_cons ?_ l_nil
                                    refine d_var 11
                                · refine l_cons ?_ l_nil
                                  refine .of ?_
                                  refine c_fn0 D_column_mean bn_column_mean_0_column_table (hr.mono (by decide)) hgd rfl ?_
                                  refine k_cons ?_ ?_
                                  · refine d_var 11
                                  · refine k_cons ?_ k_nil
                                    refine d_var 2
                              · refine .of ?_
                                refine a_callB (c_repr hgd hu) rfl f_repr (by decide +kernel) ?_
                                refine l_cons ?_ l_nil
                                refine .of ?_
                                refine a_bin o_mul ?_ d_int
                                refine .of ?_
                                refine a_lst ?_
                                refine l_cons ?_ l_nil
                                refine d_ixV 8 ?_
                                refine d_neg d_int
                            · refine b_cons ?_ b_nil
                              refine s_ret ?_
                              refine .of d_bl
                          · refine b_cons ?_ ?_
                            · refine s_if ?_ ?_ b_nil
                              · refine t_cmp (o_neX hu) ?_ ?_
                                · refine .of ?_
                                  refine a_callB (c_repr hgd hu) rfl f_repr (by decide +kernel) ?_
                                  refine l_cons ?_ l_nil
                                  refine .of ?_
                                  refine a_lst ?_
                                  refine l_cons ?_ ?_
                                  · refine .of ?_
                                    refine c_fn D_answer_sum bn_answer_sum_2 (hr.mono (by decide)) hgd rfl ?_ k_nil
                                    refine l_cons ?_ ?_
                                    · refine d_var 2
                                    · refine l_cons ?_ l_nil
                                      refine d_var 11
                                  · refine l_cons ?_ l_nil
                                    refine .of ?_
                                    refine c_fn0 D_answer_sum bn_answer_sum_0_column_table (hr.mono (by decide)) hgd rfl ?_
                                    refine k_cons ?_ ?_
                                    · refine d_var 11
                                    · refine k_cons ?_ k_nil
                                      refine d_var 2
                                · refine .of ?_
                                  refine a_callB (c_repr hgd hu) rfl f_repr (by decide +kernel) ?_
                                  refine l_cons ?_ l_nil
                                  refine .of ?_
                                  refine a_bin o_mul ?_ d_int
                                  refine .of ?_
                                  refine a_lst ?_
                                  refine l_cons ?_ l_nil
                                  refine d_ixV 10 ?_
                                  refine d_neg d_int
                              · refine b_cons ?_ b_nil
                                refine s_ret ?_
                                refine .of d_bl
                            · refine b_cons ?_ ?_
                              · refine s_for PassesOwn.never rfl ?_ ?_ ?_
                                · refine i_rng1 rfl f_range ?_
                                  refine d_var 1
                                · refine g_name 13 hN
                                · refine b_cons ?_ ?_
                                  · refine s_putDT 9 hu ?_ ?_
                                    · refine l_cons ?_ ?_
                                      · refine d_var 11
                                      · refine l_cons ?_ l_nil
                                        refine d_var 13
                                    · refine .of ?_
                                      refine a_callB (c_sum rfl) rfl f_sum (by decide +kernel) ?_
                                      refine l_cons ?_ l_nil
                                      refine .of ?_
                                      refine a_frz [13] ?_
                                      refine a_lc (pairs := [("inputs", 17), ("answer", 18)]) rfl hN ?_ (blkOk_by (by kernel_rfl)) ?_ (fun _ _ _ _ _ => Ifs.no) ?_
                                      · refine i_seq ?_
                                        refine d_var 2
                                      · intro _ _ _ _ _
                                        refine cg_tup rfl ?_
                                        refine cgs_cons ?_ ?_
                                        · refine cg_name 17 hN
                                        · refine cgs_cons ?_ cgs_nil
                                          refine cg_name 18 hN
                                      · intro _ _ _ _ _
                                        refine a_bin o_mul ?_ ?_
                                        · refine d_ixV 17 ?_
                                          refine d_var 11
                                        · refine d_ixV 17 ?_
                                          refine d_var 13
                                  · refine b_cons ?_ ?_
                                    · refine s_set (i := 14) hN ?_
                                      refine .of ?_
                                      refine d_getDT 9 hu ?_
                                      refine l_cons ?_ ?_
                                      · refine d_var 11
                                      · refine l_cons ?_ l_nil
                                        refine d_var 13
                                    · refine b_cons ?_ b_nil
                                      refine s_if ?_ ?_ b_nil
                                      · refine t_cmp (o_neX hu) ?_ ?_
                                        · refine .of ?_
                                          refine a_callB (c_repr hgd hu) rfl f_repr (by decide +kernel) ?_
                                          refine l_cons ?_ l_nil
                                          refine .of ?_
                                          refine a_lst ?_
                                          refine l_cons ?_ ?_
                                          · refine .of ?_
                                            refine c_fn D_product_sum bn_product_sum_3 (hr.mono (by decide)) hgd rfl ?_ k_nil
                                            refine l_cons ?_ ?_
                                            · refine d_var 2
                                            · refine l_cons ?_ ?_
                                              · refine d_var 11
                                              · refine l_cons ?_ l_nil
                                                refine d_var 13
                                          · refine l_cons ?_ ?_
                                            · refine .of ?_
                                              refine c_fn0 D_product_sum bn_product_sum_0_late_column_table (hr.mono (by decide)) hgd rfl ?_
                                              refine k_cons ?_ ?_
                                              · refine d_var 13
                                              · refine k_cons ?_ ?_
                                                · refine d_var 11
                                                · refine k_cons ?_ k_nil
                                                  refine d_var 2
                                            · refine l_cons ?_ l_nil
                                              refine .of ?_
                                              refine c_fn D_product_sum bn_product_sum_3 (hr.mono (by decide)) hgd rfl ?_ k_nil
                                              refine l_cons ?_ ?_
                                              · refine d_var 2
                                              · refine l_cons ?_ ?_
                                                · refine d_var 13
                                                · refine l_cons ?_ l_nil
                                                  refine d_var 11
                                        · refine .of ?_
                                          refine a_callB (c_repr hgd hu) rfl f_repr (by decide +kernel) ?_
                                          refine l_cons ?_ l_nil
                                          refine .of ?_
                                          refine a_bin o_mul ?_ d_int
                                          refine .of ?_
                                          refine a_lst ?_
                                          refine l_cons ?_ l_nil
                                          refine d_var 14
                                      · refine b_cons ?_ b_nil
                                        refine s_ret ?_
                                        refine .of d_bl
                              · refine b_cons ?_ b_nil
                                refine s_if ?_ ?_ b_nil
                                · refine t_val ?_
                                  refine .of ?_
                                  refine c_fn D__law_below bn__law_below_2 (hr.mono (by decide)) hgd rfl ?_ k_nil
                                  refine l_cons ?_ ?_
                                  · refine d_tup ?_
                                    refine l_cons ?_ ?_
                                    · refine d_getDT 9 hu ?_
                                      refine l_cons ?_ ?_
                                      · refine d_var 11
                                      · refine l_cons ?_ l_nil
                                        refine d_var 11
                                    · refine l_cons ?_ l_nil
                                      refine d_var 5
                                  · refine l_cons ?_ l_nil
                                    refine .of ?_
                                    refine c_fn D__law_times bn__law_times_2 (hr.mono (by decide)) hgd rfl ?_ k_nil
                                    refine l_cons ?_ ?_
                                    · refine d_ixV 8 ?_
                                      refine d_var 11
                                    · refine l_cons ?_ l_nil
                                      refine d_ixV 8 ?_
                                      refine d_var 11
                                · refine b_cons ?_ b_nil
                                  refine s_ret ?_
                                  refine .of d_bl
                · refine b_cons ?_ ?_
                  · refine s_set (i := 15) hN ?_
                    refine .of ?_
                    refine d_tup ?_
                    refine l_cons ?_ ?_
                    · refine .of ?_
                      refine a_callB (c_sum rfl) rfl f_sum (by decide +kernel) ?_
                      refine l_cons ?_ l_nil
                      refine .of ?_
                      refine a_lc (pairs := [("one", 19)]) rfl hN ?_ (blkOk_by (by kernel_rfl)) ?_ (fun _ _ _ _ _ => Ifs.no) ?_
                      · refine i_seq ?_
                        refine d_var 6
                      · intro _ _ _ _ _
                        refine cg_name 19 hN
                      · intro _ _ _ _ _
                        refine a_bin o_mul ?_ ?_
                        · refine d_var 19
                        · refine d_var 19
                    · refine l_cons d_int l_nil
                  · refine b_cons ?_ ?_
                    · refine s_for PassesOwn.never rfl ?_ ?_ ?_
                      · refine i_rng1 rfl f_range ?_
                        refine d_var 1
                      · refine g_name 11 hN
                      · refine b_cons ?_ ?_
                        · refine s_set (i := 15) hN ?_
                          refine c_fn D__law_less bn__law_less_2 (hr.mono (by decide)) hgd rfl ?_ k_nil
                          refine l_cons ?_ ?_
                          · refine d_var 15
                          · refine l_cons ?_ l_nil
                            refine .of ?_
                            refine c_fn D__law_times bn__law_times_2 (hr.mono (by decide)) hgd rfl ?_ k_nil
                            refine l_cons ?_ ?_
                            · refine d_tup ?_
                              refine l_cons ?_ ?_
                              · refine .of ?_
                                refine a_bin o_mul d_int ?_
                                refine d_ixV 10 ?_
                                refine d_var 11
                              · refine l_cons d_int l_nil
                            · refine l_cons ?_ l_nil
                              refine d_ixV 3 ?_
                              refine d_var 11
                        · refine b_cons ?_ b_nil
                          refine s_for PassesOwn.never rfl ?_ ?_ ?_
                          · refine i_rng1 rfl f_range ?_
                            refine d_var 1
                          · refine g_name 13 hN
                          · refine b_cons ?_ b_nil
                            refine s_set (i := 15) hN ?_
                            refine c_fn D__law_plus bn__law_plus_2 (hr.mono (by decide)) hgd rfl ?_ k_nil
                            refine l_cons ?_ ?_
                            · refine d_var 15
                            · refine l_cons ?_ l_nil
                              refine .of ?_
                              refine c_fn D__law_times bn__law_times_2 (hr.mono (by decide)) hgd rfl ?_ k_nil
                              refine l_cons ?_ ?_
                              · refine d_tup ?_
                                refine l_cons ?_ ?_
                                · refine d_getDT 9 hu ?_
                                  refine l_cons ?_ ?_
                                  · refine d_var 11
                                  · refine l_cons ?_ l_nil
                                    refine d_var 13
                                · refine l_cons d_int l_nil
                              · refine l_cons ?_ l_nil
                                refine .of ?_
                                refine c_fn D__law_times bn__law_times_2 (hr.mono (by decide)) hgd rfl ?_ k_nil
                                refine l_cons ?_ ?_
                                · refine d_ixV 3 ?_
                                  refine d_var 11
                                · refine l_cons ?_ l_nil
                                  refine d_ixV 3 ?_
                                  refine d_var 13
                    · refine b_cons ?_ ?_
                      · refine s_if ?_ ?_ b_nil
                        · refine t_cmp (o_neX hu) ?_ ?_
                          · refine .of ?_
                            refine c_fn D_squares bn_squares_2 (hr.mono (by decide)) hgd rfl ?_ k_nil
                            refine l_cons ?_ ?_
                            · refine d_var 2
                            · refine l_cons ?_ l_nil
                              refine d_var 3
                          · refine d_var 15
                        · refine b_cons ?_ b_nil
                          refine s_ret ?_
                          refine .of d_bl
                      · refine b_cons ?_ ?_
                        · refine s_set (i := 16) hN ?_
                          refine c_fn D__law_total bn__law_total_1 (hr.mono (by decide)) hgd rfl ?_ k_nil
                          refine l_cons ?_ l_nil
                          refine .of ?_
                          refine a_lc (pairs := [("mean", 20), ("number", 21)]) rfl hN ?_ (blkOk_by (by kernel_rfl)) ?_ (fun _ _ _ _ _ => Ifs.no) ?_
                          · refine i_zip rfl f_zip ?_ ?_
                            · refine d_var 8
                            · refine d_var 3
                          · intro _ _ _ _ _
                            refine cg_tup rfl ?_
                            refine cgs_cons ?_ ?_
                            · refine cg_name 20 hN
                            · refine cgs_cons ?_ cgs_nil
                              refine cg_name 21 hN
                          · intro _ _ _ _ _
                            refine c_fn D__law_times bn__law_times_2 (hr.mono (by decide)) hgd rfl ?_ k_nil
                            refine l_cons ?_ ?_
                            · refine d_var 20
                            · refine l_cons ?_ l_nil
                              refine d_var 21
                        · refine b_cons ?_ ?_
                          · refine s_set (i := 13) hN ?_
                            refine c_fn D__law_times bn__law_times_2 (hr.mono (by decide)) hgd rfl ?_ k_nil
                            refine l_cons ?_ ?_
                            · refine .of ?_
                              refine c_fn D__law_total bn__law_total_1 (hr.mono (by decide)) hgd rfl ?_ k_nil
                              refine l_cons ?_ l_nil
                              refine .of ?_
                              refine c_fn D_misses bn_misses_2 (hr.mono (by decide)) hgd rfl ?_ k_nil
                              refine l_cons ?_ ?_
                              · refine d_var 2
                              · refine l_cons ?_ l_nil
                                refine d_var 3
                            · refine l_cons ?_ l_nil
                              refine d_tup ?_
                              refine l_cons d_int ?_
                              refine l_cons ?_ l_nil
                              refine d_var 5
                          · refine b_cons ?_ b_nil
                            refine s_ret ?_
                            refine .of ?_
                            refine d_and ?_ ?_
                            · refine d_cmp (o_eqX hu) ?_ ?_
                              · refine d_var 13
                              · refine .of ?_
                                refine c_fn D__law_less bn__law_less_2 (hr.mono (by decide)) hgd rfl ?_ k_nil
                                refine l_cons ?_ ?_
                                · refine d_var 7
                                · refine l_cons ?_ l_nil
                                  refine d_var 16
                            · refine d_one ?_
                              refine d_bor ?_
                              refine d_cmp (o_eqX hu) ?_ ?_
                              · refine .of ?_
                                refine a_callB (c_repr hgd hu) rfl f_repr (by decide +kernel) ?_
                                refine l_cons ?_ l_nil
                                refine d_var 2
                              · refine d_var 4
def b_law : Sm :=
 gSeq (gRet (gCall allD (lcons (dOf (gLc [1] (gRng1 (dOf (gCall max2D (lcons (ret (.int 1)) (lcons (dOf (gCall min2D (lcons (ret (.int 2)) (lcons (gLenV 0) (ret []))))) (ret [])))))) (tgN 1) (ret true) (gFnT m__law_right 0 (gFnS m__law_pot 0 1 (lcons (gVar 1) (ret []))) (ret [])))) (ret []))))
 (gNil)
def m_law : Fn := defF 2 1 false b_law
theorem ok_law (c : He.SaysD Hd.fa Hd.fn K) (cx : Hd.ex K = true) (KX : K.In base) (G : base.Ns mainGlobals mg) : DefAt P w K mg base "law" (defArgs (Hd.top 59)) 9 1 ["script"] false m_law := by
  have D__law_pot := ok__law_pot (P := P) (w := w) (mg := mg) (base := base) c cx KX G
  have D__law_right := ok__law_right (P := P) (w := w) (mg := mg) (base := base) c cx KX G
  have f_all : mg "all" = none := He.free_ok KX G (c.fact 46)
  have f_len : mg "len" = none := He.free_ok KX G (c.fact 51)
  have f_max : mg "max" = none := He.free_ok KX G (c.fact 53)
  have f_min : mg "min" = none := He.free_ok KX G (c.fact 54)
  have f_range : mg "range" = none := He.free_ok KX G (c.fact 55)
  obtain ⟨fd, F⟩ := c.def_ 43
  refine def_at (N := ["script", "k"]) (k := 8) false F (He.glo_ok KX G (c.fact 43)) ⟨rfl, rfl, rfl, by decide +kernel, rfl, by decide +kernel, by decide +kernel⟩ 1 2 rfl rfl (by decide) ?_
  intro cdv A outer s H hgd hr
  have hu := hr.u64
  have hu5 := hr.u65
  have hN : (["script", "k"] : List Str).Nodup := by decide +kernel
  refine b_cons ?_ b_nil
  refine s_ret ?_
  refine a_callB (c_all rfl) rfl f_all (by decide +kernel) ?_
  refine l_cons ?_ l_nil
  refine .of ?_
  refine a_lc (pairs := [("k", 1)]) rfl hN ?_ (blkOk_by (by kernel_rfl)) ?_ (fun _ _ _ _ _ => Ifs.no) ?_
  · refine i_rng1 rfl f_range ?_
    refine .of ?_
    refine a_callB (c_max2 rfl) rfl f_max (by decide +kernel) ?_
    refine l_cons d_int ?_
    refine l_cons ?_ l_nil
    refine .of ?_
    refine a_callB (c_min2 rfl) rfl f_min (by decide +kernel) ?_
    refine l_cons d_int ?_
    refine l_cons ?_ l_nil
    refine d_lenV 0 rfl f_len
  · intro _ _ _ _ _
    refine cg_name 1 hN
  · intro _ _ _ _ _
    refine c_fnT D__law_right bn__law_right_1 (hr.mono (by decide)) hgd rfl ?_ l_nil
    refine c_fnS 0 D__law_pot bn__law_pot_2 (hr.mono (by decide)) hgd rfl ?_
    refine l_cons ?_ l_nil
    refine d_var 1
end
end Lw

namespace Lw
open PySem PySem.Spec L2 Pv
open PyProof.Rows hiding St
local macro_rules | `(tactic| walk_at "pvq") => `(tactic| first
  | with_reducible exact q_add | with_reducible exact q_sub | with_reducible exact q_int | with_reducible exact q_abs | with_reducible exact q_lt | with_reducible exact q_le | with_reducible exact q_gt | with_reducible exact q_ge
  | with_reducible exact q_eq | with_reducible exact q_ne | with_reducible exact q_eqs | with_reducible exact q_nes | exact q_pow18 | exact q_pow20 | exact q_pow25
  | ((with_reducible refine q_mod ?_); first | assumption | omega) | ((with_reducible refine q_div ?_ ?_) <;> omega) | ((with_reducible refine q_mul ?_ ?_) <;> omega) | ((with_reducible refine q_dm ?_ ?_) <;> omega) | rfl)
local macro_rules | `(tactic| walk_at "pv") => `(tactic| first
  | with_reducible refine e_ret ?_ | with_reducible refine e_dOf ?_ | with_reducible refine e_aOf ?_ | ((with_reducible apply e_var); rfl) | ((with_reducible apply e_mv); rfl)
  | with_reducible refine e_lcons ?_ | with_reducible refine e_acons ?_ | with_reducible refine e_bin ?_ | with_reducible refine e_cmp ?_ | with_reducible refine e_call ?_
  | (with_reducible refine kk avd_fz ?_) | (with_reducible refine kk avd_ow ?_) | (with_reducible refine kk avd_ow0 ?_) | ((with_reducible apply e_ix); rfl) | ((with_reducible apply e_len); rfl; rfl)
  | with_reducible refine e_tB ?_ | with_reducible refine e_and ?_ | with_reducible refine e_or ?_ | with_reducible refine e_not ?_ | with_reducible refine e_if ?_ | with_reducible refine e_andV ?_ | with_reducible refine e_orV ?_ | with_reducible refine e_notV ?_
  | with_reducible refine e_bl ?_ | with_reducible refine e_chn ?_ | with_reducible refine e_neg ?_ | with_reducible refine e_isi ?_ | with_reducible refine e_isi2 ?_ | with_reducible refine e_tup ?_ | with_reducible refine e_lst ?_
  | with_reducible refine e_seqI ?_ | with_reducible refine e_rng1 ?_ | with_reducible refine e_rng2 ?_ | with_reducible refine e_part ?_ | with_reducible refine e_sl ?_ | with_reducible refine e_rev ?_ | with_reducible refine e_zip ?_
  | with_reducible refine e_fn ?_ | ((with_reducible apply e_fnP); rfl) | with_reducible refine e_fnT ?_ | ((with_reducible apply e_fnS); rfl) | with_reducible refine e_appT ?_
  | with_reducible refine t_nx ?_ | with_reducible refine t_rt ?_ | with_reducible refine t_bk ?_ | with_reducible refine t_ct ?_ | with_reducible refine u_nil ?_ | with_reducible refine u_seq ?_ | with_reducible refine u_ret ?_ | with_reducible refine u_retN ?_
  | with_reducible refine u_brk ?_ | with_reducible refine u_cnt ?_ | with_reducible refine u_drop ?_ | with_reducible refine u_if ?_ | with_reducible refine u_set ?_ | with_reducible refine u_par ?_ | ((with_reducible apply u_app); rfl)
  | with_reducible refine u_unp ?_ | with_reducible refine u_putIx ?_ | with_reducible refine u_unpIx ?_ | ((with_reducible apply n_rt); rfl) | ((with_reducible apply n_nx); rfl) | ((with_reducible refine c_def ?_ ?_); rfl)
  | ((with_reducible refine br_t ?_ ?_); first | rfl | (simp only [Bool.not_eq_true', Bool.not_eq_false', decide_eq_true_eq, decide_eq_false_iff_not]; first | assumption | omega)) | ((with_reducible refine br_f ?_ ?_); first | rfl | (simp only [Bool.not_eq_true', Bool.not_eq_false', decide_eq_true_eq, decide_eq_false_iff_not]; first | assumption | omega))
  | ((with_reducible apply kk); walk_at "pvq") | ((with_reducible refine And.intro (And.intro ?_ ?_) ?_); rfl; rfl) | ((with_reducible refine And.intro ?_ ?_); first | rfl | (simp only [List.length_cons, List.length_nil]; decide)) | with_reducible rfl)

theorem dv1 : Divs m_divisor := fun a b ha hb => div_ok ha hb

theorem dv2 : Divs m__law_divisor := fun a b ha hb => div_ok ha hb

theorem t_int (v : PyData) : m_is_integer [.fz v] = some (.fz (.bool (isI v)), []) := by cases v <;> rfl

theorem t_list (v : PyData) : m_is_list [.fz v] = some (.fz (.bool (isLs v)), []) := rfl

theorem t_withinB (v : PyData) (lo hi : Int) : m_is_within [.fz v, .fz (.int lo), .fz (.int hi)] = some (.fz (.bool (isInB v lo hi)), []) := by
  refine cp_eq ?_
  unfold m_is_within b_is_within
  repeat walk_at "pv"
  refine c_of (t_int v) ?_
  cases v with
  | int i =>
    by_cases h : lo ≤ i
    · repeat walk_at "pv"
      simp [isInB, h]
    · repeat walk_at "pv"
      simp [isInB, h]
  | _ => repeat walk_at "pv"

theorem t_frac (v : PyData) : m_is_fraction_of [.fz v] = some (.fz (.bool (isFr v)), []) := by
  refine cp_eq ?_
  unfold m_is_fraction_of b_is_fraction_of
  refine c_def rfl ?_
  cases v with
  | tuple ds =>
    by_cases h : (ds.length : Int) = 2
    · obtain ⟨x, y, rfl⟩ := two_of h
      cases hx : isI x with
      | false =>
        have w := t_int x
        rw [hx] at w
        repeat walk_at "pv"
        refine c_of w ?_
        repeat walk_at "pv"
        refine ⟨?_, rfl⟩
        cases x <;> first | rfl | cases hx
      | true =>
        obtain ⟨a, rfl⟩ : ∃ a, x = .int a := by cases x with | int a => exact ⟨a, rfl⟩ | _ => cases hx
        cases hy : isI y with
        | false =>
          have w := t_int y
          rw [hy] at w
          repeat walk_at "pv"
          refine c_of (t_int _) ?_
          repeat walk_at "pv"
          refine c_of w ?_
          repeat walk_at "pv"
          refine ⟨?_, rfl⟩
          cases y <;> first | rfl | cases hy
        | true =>
          obtain ⟨b, rfl⟩ : ∃ a, y = .int a := by cases y with | int a => exact ⟨a, rfl⟩ | _ => cases hy
          repeat walk_at "pv"
          refine c_of (t_int _) ?_
          repeat walk_at "pv"
          refine c_of (t_int _) ?_
          repeat walk_at "pv"
          by_cases hb : 1 ≤ b
          · have w := dv1 (absI a) b (absI_nn a) (by omega)
            rw [gcd_abs] at w
            repeat walk_at "pv"
            refine c_of w ?_
            repeat walk_at "pv"
            refine ⟨?_, rfl⟩
            simp [isFr, hb]
          · repeat walk_at "pv"
            refine ⟨?_, rfl⟩
            simp [isFr, hb]
    · repeat walk_at "pv"
      refine ⟨?_, rfl⟩
      rw [fr_two h]
  | _ => repeat walk_at "pv"

def f__law_pick (pot : Int × Int) (some_ : List Int) : Option (Int × (Int × Int)) := (drawO m__law_draw pot (some_.length : Int)).bind fun v1 => (atI some_ v1.1).bind fun v2 => some (v2, v1.2)
theorem s__law_pick {pot : Int × Int} {some_ : List Int} {r : Int × (Int × Int)} (h : f__law_pick pot some_ = some r) : m__law_pick [potA pot, .fz ((eL eI) some_)] = some (.fz (eI r.1), [potA r.2]) := by
  unfold f__law_pick at h
  refine cp_eq ?_
  unfold m__law_pick b__law_pick
  refine c_def rfl ?_
  refine sp_normN [_, _] rfl ?_
  obtain ⟨v1, hv1, h⟩ := bnd' h
  obtain ⟨v2, hv2, h⟩ := bnd' h
  refine u_seq ?_
  refine u_ret ?_
  refine e_aOf ?_
  refine e_ix rfl ?_
  refine e_dOf ?_
  refine e_fnP rfl ?_
  refine e_lcons ?_
  refine e_len rfl (lenV_L (e := eI) (xs := some_)) ?_
  refine e_ret ?_
  refine ⟨_, rfl, rfl, c_of (drawO_ok hv1) ⟨_, rfl, ?_⟩⟩
  refine kk avd_fz ?_
  refine ⟨_, rfl, _, ixV_L (e := eI) (xs := some_) hv2, ?_⟩
  repeat (with_reducible refine t_rt ?_)
  cases h
  refine n_rt rfl ?_
  exact ⟨rfl, rfl⟩
def f__law_table (pot : Int × Int) (columns : Int) (most : Int) : Option ((List (List Int × Int)) × (Int × Int)) := (f__law_pick pot ([(2 : Int), (9 : Int), (99 : Int)] : List Int)).bind fun v1 => (drawO m__law_draw v1.2 most).bind fun v2 => (rng1O ((1 : Int) + v2.1)).bind fun v3 => (forO (fun (s4, s5) x8 => (rng1O columns).bind fun v9 => (mpsO (fun p11 x10 => (mulI (2 : Int) v1.1).bind fun v12 => (drawO m__law_draw p11 (v12 + (1 : Int))).bind fun v13 => some ((v13.1 - v1.1), v13.2)) v9 s4).bind fun v14 => (mulI (2 : Int) v1.1).bind fun v15 => (drawO m__law_draw v14.2 (v15 + (1 : Int))).bind fun v16 => (appO s5 (v14.1, (v16.1 - v1.1))).bind fun v17 => some (v16.2, v17)) v3 (v2.2, ([] : List (List Int × Int)))).bind fun (v18, v19) => some (v19, v18)
theorem s__law_table {pot : Int × Int} {columns : Int} {most : Int} {r : (List (List Int × Int)) × (Int × Int)} (h : f__law_table pot columns most = some r) : m__law_table [potA pot, .fz (eI columns), .fz (eI most)] = some (.ow (fzs ((r.1).map (eT2 (eV eI) eI))), [potA r.2]) := by
  unfold f__law_table at h
  refine cp_eq ?_
  unfold m__law_table b__law_table
  refine c_def rfl ?_
  refine sp_normN [_, _, _, _, _, _, _, _] rfl ?_
  obtain ⟨v1, hv1, h⟩ := bnd' h
  refine u_seq ?_
  refine u_par ?_
  refine e_acons ?_
  refine e_lstT (e := (eT2 (eV eI) eI)) (xs := []) rfl ?_
  refine e_ret ?_
  refine ⟨rfl, ?_⟩
  refine e_acons ?_
  refine e_fnP rfl ?_
  refine e_lcons ?_
  refine e_dOf ?_
  refine e_lstT (e := eI) (xs := [(2 : Int), (9 : Int), (99 : Int)]) rfl ?_
  refine e_lcons ?_
  refine e_ret ?_
  refine e_lcons ?_
  refine e_ret ?_
  refine e_lcons ?_
  refine e_ret ?_
  refine e_ret ?_
  refine ⟨rfl, ?_⟩
  refine kk avd_ow ?_
  refine e_ret ?_
  refine ⟨_, rfl, rfl, c_of (s__law_pick hv1) ⟨_, rfl, ?_⟩⟩
  refine e_ret ?_
  refine ⟨rfl, ?_⟩
  refine t_nxN [_, _, _, _, _, _, _, _] rfl ?_
  obtain ⟨v2, hv2, h⟩ := bnd' h
  obtain ⟨v3, hv3, h⟩ := bnd' h
  obtain ⟨⟨v18, v19⟩, hl20, h⟩ := bnd' h
  refine u_seq ?_
  refine sp_forO (e := eI) hl20 (fun (s4, s5) δ => ∃ (j6 : Option PyData) (j7 : Option PyData), δ = [some (potA s4), some (.fz (eI columns)), some (.fz (eI most)), some (.ow (fzs ((s5).map (eT2 (eV eI) eI)))), some (.fz (eI v1.1)), (j6.map AV.fz), (j7.map AV.fz), none]) ?_ ?_ ?_
  · refine e_rng1 ?_
    refine e_dOf ?_
    refine e_bin ?_
    refine e_ret ?_
    refine e_dOf ?_
    refine e_fnP rfl ?_
    refine e_lcons ?_
    refine e_var rfl ?_
    refine e_ret ?_
    refine ⟨_, rfl, rfl, c_of (drawO_ok hv2) ⟨_, rfl, ?_⟩⟩
    refine kk avd_fz ?_
    refine kk rfl ?_
    refine kk avd_fz ?_
    refine kk (rng1E hv3) ?_
    refine ⟨rfl, ?_⟩
    exact ⟨none, none, rfl⟩
  · rintro ⟨s4, s5⟩ x8 _ h δ ⟨j6, j7, rfl⟩
    try dsimp only at h
    refine ⟨[_, _, _, _, _, _, _, _], rfl, ?_⟩
    obtain ⟨v9, hv9, h⟩ := bnd' h
    obtain ⟨v14, hv14, h⟩ := bnd' h
    refine u_seq ?_
    refine u_set ?_
    refine e_call ?_
    refine e_lcons ?_
    refine e_dOf ?_
    refine e_frz [some (potA s4), some (.fz (eI columns)), some (.fz (eI most)), some (.ow (fzs ((s5).map (eT2 (eV eI) eI)))), some (.fz (eI v1.1)), some (.fz (eI x8)), (j7.map AV.fz), none] (frz_cons rfl avd_fz frz_nil) ?_
    refine e_mpsO (e := eI) (e' := eI) hv14 (fun p => [some (potA p), some (.fz (eI columns)), some (.fz (eI most)), some (.ow (fzs ((s5).map (eT2 (eV eI) eI)))), some (.fz (eI v1.1)), some (.fz (eI x8)), (j7.map AV.fz), none]) (fun p => [some (potA p), some (.fz (eI columns)), some (.fz (eI most)), some (.ow (fzs ((s5).map (eT2 (eV eI) eI)))), some (.fz (eI v1.1)), some (.fz (eI x8)), (j7.map AV.fz), none]) ?_
    refine e_rng1 ?_
    refine e_var rfl ?_
    refine kk (rng1E hv9) ?_
    refine ⟨rfl, rfl, rfl, rfl, fun p11 x10 y _ h => ?_, ?_⟩
    · refine ⟨[_, _, _, _, _, _, _, _], rfl, ?_⟩
      obtain ⟨v12, hv12, h⟩ := bnd' h
      obtain ⟨v13, hv13, h⟩ := bnd' h
      refine e_bin ?_
      refine e_dOf ?_
      refine e_fnP rfl ?_
      refine e_lcons ?_
      refine e_dOf ?_
      refine e_bin ?_
      refine e_dOf ?_
      refine e_bin ?_
      refine e_ret ?_
      refine e_var rfl ?_
      refine kk (mulO_ok hv12) ?_
      refine kk avd_fz ?_
      refine e_ret ?_
      refine kk rfl ?_
      refine kk avd_fz ?_
      refine e_ret ?_
      refine ⟨_, rfl, rfl, c_of (drawO_ok hv13) ⟨_, rfl, ?_⟩⟩
      refine kk avd_fz ?_
      refine e_var rfl ?_
      refine kk rfl ?_
      cases h
      exact ⟨rfl, rfl⟩
    try dsimp only
    refine kk avd_ow ?_
    refine e_ret ?_
    refine kk rfl ?_
    refine t_nxN [_, _, _, _, _, _, _, _] rfl ?_
    obtain ⟨v15, hv15, h⟩ := bnd' h
    obtain ⟨v16, hv16, h⟩ := bnd' h
    obtain ⟨v17, hv17, h⟩ := bnd' h
    refine u_seq ?_
    refine u_appT (e := (eT2 (eV eI) eI)) hv17 rfl ?_
    refine e_aOf ?_
    refine e_tup ?_
    refine e_lcons ?_
    refine e_var rfl ?_
    refine e_lcons ?_
    refine e_dOf ?_
    refine e_bin ?_
    refine e_dOf ?_
    refine e_fnP rfl ?_
    refine e_lcons ?_
    refine e_dOf ?_
    refine e_bin ?_
    refine e_dOf ?_
    refine e_bin ?_
    refine e_ret ?_
    refine e_var rfl ?_
    refine kk (mulO_ok hv15) ?_
    refine kk avd_fz ?_
    refine e_ret ?_
    refine kk rfl ?_
    refine kk avd_fz ?_
    refine e_ret ?_
    refine ⟨_, rfl, rfl, c_of (drawO_ok hv16) ⟨_, rfl, ?_⟩⟩
    refine kk avd_fz ?_
    refine e_var rfl ?_
    refine kk rfl ?_
    refine kk avd_fz ?_
    refine e_ret ?_
    refine ⟨ll rfl, ?_⟩
    refine ⟨rfl, rfl, ?_⟩
    refine t_nxN [_, _, _, _, _, _, _, _] rfl ?_
    refine u_nil ?_
    cases h
    exact lp_go ⟨(some (eI x8)), (some ((eV eI) v14.1)), rfl⟩
  · rintro δ ⟨j6, j7, rfl⟩
    try dsimp only at h
    refine t_nxN [_, _, _, _, _, _, _, _] rfl ?_
    refine u_seq ?_
    refine u_ret ?_
    refine e_mv rfl ?_
    repeat (with_reducible refine t_rt ?_)
    cases h
    refine n_rt rfl ?_
    exact ⟨rfl, rfl⟩
def f__law_cut (top : Int) (bottom : Int) : Option (Int × Int) := (if (decide (bottom < (0 : Int))) = true then (gcdO (absI (-top)) (-bottom)).bind fun v1 => (divI (-top) v1).bind fun v2 => (divI (-bottom) v1).bind fun v3 => some (v2, v3) else (gcdO (absI top) bottom).bind fun v4 => (divI top v4).bind fun v5 => (divI bottom v4).bind fun v6 => some (v5, v6))
theorem s__law_cut {top : Int} {bottom : Int} {r : Int × Int} (h : f__law_cut top bottom = some r) : m__law_cut [.fz (eI top), .fz (eI bottom)] = some (.fz ((eT2 eI eI) r), []) := by
  unfold f__law_cut at h
  refine cp_eq ?_
  unfold m__law_cut b__law_cut
  refine c_def rfl ?_
  refine sp_normN [_, _, _] rfl ?_
  refine u_seq ?_
  refine u_if ?_
  refine e_cmp ?_
  refine e_var rfl ?_
  refine e_ret ?_
  refine kk rfl ?_
  refine ⟨fun hc => ?_, fun hc => ?_⟩
  · have h := ite_t h hc
    refine u_seq ?_
    refine u_par ?_
    refine e_acons ?_
    refine e_aOf ?_
    refine e_neg ?_
    refine e_var rfl ?_
    refine kk rfl ?_
    refine e_acons ?_
    refine e_aOf ?_
    refine e_neg ?_
    refine e_var rfl ?_
    refine kk rfl ?_
    refine e_ret ?_
    refine ⟨rfl, ?_⟩
    refine t_nxN [_, _, _] rfl ?_
    refine u_nil ?_
    refine t_nxN [_, _, _] rfl ?_
    obtain ⟨v1, hv1, h⟩ := bnd' h
    refine u_seq ?_
    refine u_set ?_
    refine e_fn ?_
    refine e_lcons ?_
    refine e_dOf ?_
    refine e_call ?_
    refine e_lcons ?_
    refine e_var rfl ?_
    refine e_ret ?_
    refine kk rfl ?_
    refine kk avd_fz ?_
    refine e_lcons ?_
    refine e_var rfl ?_
    refine e_ret ?_
    refine e_ret ?_
    refine ⟨⟨rfl, rfl⟩, c_of (gcdO_ok dv2 hv1) ⟨rfl, ?_⟩⟩
    refine t_nxN [_, _, _] rfl ?_
    obtain ⟨v2, hv2, h⟩ := bnd' h
    obtain ⟨v3, hv3, h⟩ := bnd' h
    refine u_seq ?_
    refine u_ret ?_
    refine e_aOf ?_
    refine e_tup ?_
    refine e_lcons ?_
    refine e_dOf ?_
    refine e_bin ?_
    refine e_var rfl ?_
    refine e_var rfl ?_
    refine kk (divO_ok hv2) ?_
    refine kk avd_fz ?_
    refine e_lcons ?_
    refine e_dOf ?_
    refine e_bin ?_
    refine e_var rfl ?_
    refine e_var rfl ?_
    refine kk (divO_ok hv3) ?_
    refine kk avd_fz ?_
    refine e_ret ?_
    refine ⟨ll rfl, ?_⟩
    repeat (with_reducible refine t_rt ?_)
    cases h
    refine n_rt rfl ?_
    exact ⟨rfl, rfl⟩
  · have h := ite_f h hc
    refine u_nil ?_
    refine t_nxN [_, _, _] rfl ?_
    obtain ⟨v4, hv4, h⟩ := bnd' h
    refine u_seq ?_
    refine u_set ?_
    refine e_fn ?_
    refine e_lcons ?_
    refine e_dOf ?_
    refine e_call ?_
    refine e_lcons ?_
    refine e_var rfl ?_
    refine e_ret ?_
    refine kk rfl ?_
    refine kk avd_fz ?_
    refine e_lcons ?_
    refine e_var rfl ?_
    refine e_ret ?_
    refine e_ret ?_
    refine ⟨⟨rfl, rfl⟩, c_of (gcdO_ok dv2 hv4) ⟨rfl, ?_⟩⟩
    refine t_nxN [_, _, _] rfl ?_
    obtain ⟨v5, hv5, h⟩ := bnd' h
    obtain ⟨v6, hv6, h⟩ := bnd' h
    refine u_seq ?_
    refine u_ret ?_
    refine e_aOf ?_
    refine e_tup ?_
    refine e_lcons ?_
    refine e_dOf ?_
    refine e_bin ?_
    refine e_var rfl ?_
    refine e_var rfl ?_
    refine kk (divO_ok hv5) ?_
    refine kk avd_fz ?_
    refine e_lcons ?_
    refine e_dOf ?_
    refine e_bin ?_
    refine e_var rfl ?_
    refine e_var rfl ?_
    refine kk (divO_ok hv6) ?_
    refine kk avd_fz ?_
    refine e_ret ?_
    refine ⟨ll rfl, ?_⟩
    repeat (with_reducible refine t_rt ?_)
    cases h
    refine n_rt rfl ?_
    exact ⟨rfl, rfl⟩
def f__law_rule (pot : Int × Int) (columns : Int) : Option ((List (Int × Int)) × (Int × Int)) := (rng1O columns).bind fun v1 => (mpsO (fun p3 x2 => (drawO m__law_draw p3 (41 : Int)).bind fun v4 => (drawO m__law_draw v4.2 (6 : Int)).bind fun v5 => (f__law_cut (v4.1 - (20 : Int)) ((1 : Int) + v5.1)).bind fun v6 => some (v6, v5.2)) v1 pot).bind fun v7 => some (v7.1, v7.2)
theorem s__law_rule {pot : Int × Int} {columns : Int} {r : (List (Int × Int)) × (Int × Int)} (h : f__law_rule pot columns = some r) : m__law_rule [potA pot, .fz (eI columns)] = some (.ow (fzs ((r.1).map (eT2 eI eI))), [potA r.2]) := by
  unfold f__law_rule at h
  refine cp_eq ?_
  unfold m__law_rule b__law_rule
  refine c_def rfl ?_
  refine sp_normN [_, _, _] rfl ?_
  obtain ⟨v1, hv1, h⟩ := bnd' h
  obtain ⟨v7, hv7, h⟩ := bnd' h
  refine u_seq ?_
  refine u_ret ?_
  refine e_mpsO (e := eI) (e' := (eT2 eI eI)) hv7 (fun p => [some (potA p), some (.fz (eI columns)), none]) (fun p => [some (potA p), some (.fz (eI columns)), none]) ?_
  refine e_rng1 ?_
  refine e_var rfl ?_
  refine kk (rng1E hv1) ?_
  refine ⟨rfl, rfl, rfl, rfl, fun p3 x2 y _ h => ?_, ?_⟩
  · refine ⟨[_, _, _], rfl, ?_⟩
    obtain ⟨v4, hv4, h⟩ := bnd' h
    obtain ⟨v5, hv5, h⟩ := bnd' h
    obtain ⟨v6, hv6, h⟩ := bnd' h
    refine e_fn ?_
    refine e_lcons ?_
    refine e_dOf ?_
    refine e_bin ?_
    refine e_dOf ?_
    refine e_fnP rfl ?_
    refine e_lcons ?_
    refine e_ret ?_
    refine e_ret ?_
    refine ⟨_, rfl, rfl, c_of (drawO_ok hv4) ⟨_, rfl, ?_⟩⟩
    refine kk avd_fz ?_
    refine e_ret ?_
    refine kk rfl ?_
    refine kk avd_fz ?_
    refine e_lcons ?_
    refine e_dOf ?_
    refine e_bin ?_
    refine e_ret ?_
    refine e_dOf ?_
    refine e_fnP rfl ?_
    refine e_lcons ?_
    refine e_ret ?_
    refine e_ret ?_
    refine ⟨_, rfl, rfl, c_of (drawO_ok hv5) ⟨_, rfl, ?_⟩⟩
    refine kk avd_fz ?_
    refine kk rfl ?_
    refine kk avd_fz ?_
    refine e_ret ?_
    refine e_ret ?_
    refine ⟨⟨rfl, rfl⟩, c_of (s__law_cut hv6) ⟨rfl, ?_⟩⟩
    cases h
    exact ⟨rfl, rfl⟩
  try dsimp only
  repeat (with_reducible refine t_rt ?_)
  cases h
  refine n_rt rfl ?_
  exact ⟨rfl, rfl⟩
def f_is_row_of (value : List Int × Int) : Option (Bool) := (if ((!true) || ((!decide ((2 : Int) = (2 : Int))) || (!(isInB (eI value.2) ((0 : Int) - (999 : Int)) (999 : Int))))) = true then some false else (if ((!true) || (!((decide ((1 : Int) ≤ (value.1.length : Int))) && (decide ((value.1.length : Int) ≤ (3 : Int)))))) = true then some false else (mpO (fun x1 => some (isInB (eI x1) ((0 : Int) - (99 : Int)) (99 : Int))) value.1).bind fun v2 => some (v2.all id)))
theorem s_is_row_of {value : List Int × Int} {r : Bool} (h : f_is_row_of value = some r) : m_is_row_of [.fz ((eT2 (eV eI) eI) value)] = some (.fz (eB r), []) := by
  unfold f_is_row_of at h
  refine cp_eq ?_
  unfold m_is_row_of b_is_row_of
  refine c_def rfl ?_
  refine sp_normN [_, _] rfl ?_
  refine u_seq ?_
  refine u_if ?_
  refine ep_eqS ((!true) || ((!decide ((2 : Int) = (2 : Int))) || (!(isInB (eI value.2) ((0 : Int) - (999 : Int)) (999 : Int))))) ?_ ?_
  · refine e_or ?_
    refine e_not ?_
    refine e_tB ?_
    refine e_isi ?_
    refine e_var rfl ?_
    refine ⟨_, rfl, ?_⟩
    refine ⟨fun hc => ?_, fun hc => ?_⟩
    · exact ⟨(orT hc), rfl⟩
    · refine ep_eqS ((!decide ((2 : Int) = (2 : Int))) || (!(isInB (eI value.2) ((0 : Int) - (999 : Int)) (999 : Int)))) ?_ ?_
      · refine e_or ?_
        refine e_cmp ?_
        refine e_len rfl rfl ?_
        refine e_ret ?_
        refine kk (neX_ok eqI_ok (2 : Int) (2 : Int)) ?_
        refine ⟨fun hc => ?_, fun hc => ?_⟩
        · exact ⟨(orT hc), rfl⟩
        · refine e_not ?_
          refine e_tB ?_
          refine e_dOf ?_
          refine e_fn ?_
          refine e_lcons ?_
          refine e_ix rfl ?_
          refine e_ret ?_
          refine ⟨_, rfl, _, rfl, ?_⟩
          refine e_lcons ?_
          refine e_dOf ?_
          refine e_bin ?_
          refine e_ret ?_
          refine e_ret ?_
          refine kk rfl ?_
          refine kk avd_fz ?_
          refine e_lcons ?_
          refine e_ret ?_
          refine e_ret ?_
          refine e_ret ?_
          refine ⟨⟨rfl, rfl⟩, c_of (t_withinB _ _ _) ⟨rfl, ?_⟩⟩
          refine kk avd_fz ?_
          refine ⟨_, rfl, ?_⟩
          exact ⟨(orF hc), rfl⟩
      exact ⟨(orF hc), rfl⟩
  refine ⟨fun hc => ?_, fun hc => ?_⟩
  · have h := ite_t h hc
    refine u_seq ?_
    refine u_ret ?_
    refine e_aOf ?_
    refine e_ret ?_
    repeat (with_reducible refine t_rt ?_)
    cases h
    refine n_rt rfl ?_
    exact ⟨rfl, rfl⟩
  · have h := ite_f h hc
    refine u_nil ?_
    refine t_nxN [_, _] rfl ?_
    refine u_seq ?_
    refine u_if ?_
    refine ep_eqS ((!true) || (!((decide ((1 : Int) ≤ (value.1.length : Int))) && (decide ((value.1.length : Int) ≤ (3 : Int)))))) ?_ ?_
    · refine e_or ?_
      refine e_not ?_
      refine e_tB ?_
      refine e_isi ?_
      refine e_ix rfl ?_
      refine e_ret ?_
      refine ⟨_, rfl, _, rfl, ?_⟩
      refine ⟨_, rfl, ?_⟩
      refine ⟨fun hc => ?_, fun hc => ?_⟩
      · exact ⟨(orT hc), rfl⟩
      · refine e_not ?_
        refine ep_eqS ((decide ((1 : Int) ≤ (value.1.length : Int))) && (decide ((value.1.length : Int) ≤ (3 : Int)))) ?_ ?_
        · refine e_chn ?_
          refine e_ret ?_
          refine e_dOf ?_
          refine e_call ?_
          refine e_lcons ?_
          refine e_ix rfl ?_
          refine e_ret ?_
          refine ⟨_, rfl, _, rfl, ?_⟩
          refine e_ret ?_
          refine kk (lenD_V (e := eI) (xs := value.1)) ?_
          refine kk avd_fz ?_
          refine kk rfl ⟨fun hc => ?_, fun hc => ?_⟩
          · refine e_ret ?_
            refine kk rfl ?_
            exact ⟨(andT hc), rfl⟩
          · exact ⟨(andF hc), rfl⟩
        exact ⟨(orF hc), rfl⟩
    refine ⟨fun hc => ?_, fun hc => ?_⟩
    · have h := ite_t h hc
      refine u_seq ?_
      refine u_ret ?_
      refine e_aOf ?_
      refine e_ret ?_
      repeat (with_reducible refine t_rt ?_)
      cases h
      refine n_rt rfl ?_
      exact ⟨rfl, rfl⟩
    · have h := ite_f h hc
      refine u_nil ?_
      refine t_nxN [_, _] rfl ?_
      obtain ⟨v2, hv2, h⟩ := bnd' h
      refine u_seq ?_
      refine u_ret ?_
      refine e_call ?_
      refine e_lcons ?_
      refine e_dOf ?_
      refine e_mpO (e := eI) (e' := eB) hv2 ?_
      refine e_seqT (value.1.map eI) ?_
      refine e_ix rfl ?_
      refine e_ret ?_
      refine ⟨_, rfl, _, rfl, ?_⟩
      refine ⟨rfl, ?_⟩
      refine ⟨rfl, rfl, [_, _], rfl, [_, _], rfl, fun x1 y _ h => ?_, ?_⟩
      · refine ⟨[_, _], rfl, ?_⟩
        refine e_fn ?_
        refine e_lcons ?_
        refine e_var rfl ?_
        refine e_lcons ?_
        refine e_dOf ?_
        refine e_bin ?_
        refine e_ret ?_
        refine e_ret ?_
        refine kk rfl ?_
        refine kk avd_fz ?_
        refine e_lcons ?_
        refine e_ret ?_
        refine e_ret ?_
        refine e_ret ?_
        refine ⟨⟨rfl, rfl⟩, c_of (t_withinB _ _ _) ⟨rfl, ?_⟩⟩
        cases h
        exact ⟨rfl, rfl⟩
      refine kk avd_ow ?_
      refine e_ret ?_
      refine kk (allE (xs := v2)) ?_
      repeat (with_reducible refine t_rt ?_)
      cases h
      refine n_rt rfl ?_
      exact ⟨rfl, rfl⟩
def f_is_table_of (k_value : Bool) (value : List (List Int × Int)) : Option (Bool) := (if (!(isLs ((eQ k_value (eT2 (eV eI) eI)) value))) = true then some true else (if (!((decide ((1 : Int) ≤ (value.length : Int))) && (decide ((value.length : Int) ≤ (8 : Int))))) = true then some true else (mpO (fun x1 => (f_is_row_of x1).bind fun v2 => some v2) value).bind fun v3 => some (!(v3.all id))).bind fun v4 => some v4).bind fun v5 => (if v5 = true then some false else (mpO (fun x6 => (atI value (0 : Int)).bind fun v7 => some (decide ((x6.1.length : Int) = (v7.1.length : Int)))) value).bind fun v8 => some (v8.all id))
theorem s_is_table_of {k_value : Bool} {value : List (List Int × Int)} {r : Bool} (h : f_is_table_of k_value value = some r) : m_is_table_of [.fz ((eQ k_value (eT2 (eV eI) eI)) value)] = some (.fz (eB r), []) := by
  unfold f_is_table_of at h
  refine cp_eq ?_
  unfold m_is_table_of b_is_table_of
  refine c_def rfl ?_
  refine sp_normN [_, _] rfl ?_
  obtain ⟨v5, hv5, h⟩ := bnd' h
  refine u_seq ?_
  refine u_if ?_
  refine ep_eqS v5 ?_ ?_
  · refine e_or ?_
    refine e_not ?_
    refine e_tB ?_
    refine e_dOf ?_
    refine e_fn ?_
    refine e_lcons ?_
    refine e_var rfl ?_
    refine e_ret ?_
    refine e_ret ?_
    refine ⟨⟨rfl, rfl⟩, c_of (t_list _) ⟨rfl, ?_⟩⟩
    refine kk avd_fz ?_
    refine ⟨_, rfl, ?_⟩
    refine ⟨fun hc => ?_, fun hc => ?_⟩
    · have h := ite_t hv5 hc
      cases h
      exact ⟨rfl, rfl⟩
    · have h := ite_f hv5 hc
      obtain ⟨v4, hv4, h⟩ := bnd' h
      refine ep_eqS v4 ?_ ?_
      · refine e_or ?_
        refine e_not ?_
        refine ep_eqS ((decide ((1 : Int) ≤ (value.length : Int))) && (decide ((value.length : Int) ≤ (8 : Int)))) ?_ ?_
        · refine e_chn ?_
          refine e_ret ?_
          refine e_len rfl (lenV_Q (e := (eT2 (eV eI) eI)) (xs := value)) ?_
          refine kk rfl ⟨fun hc => ?_, fun hc => ?_⟩
          · refine e_ret ?_
            refine kk rfl ?_
            exact ⟨(andT hc), rfl⟩
          · exact ⟨(andF hc), rfl⟩
        refine ⟨fun hc => ?_, fun hc => ?_⟩
        · have h := ite_t hv4 hc
          cases h
          exact ⟨rfl, rfl⟩
        · have h := ite_f hv4 hc
          obtain ⟨v3, hv3, h⟩ := bnd' h
          refine e_not ?_
          refine e_tB ?_
          refine e_dOf ?_
          refine e_call ?_
          refine e_lcons ?_
          refine e_dOf ?_
          refine e_mpO (e := (eT2 (eV eI) eI)) (e' := eB) hv3 ?_
          refine e_seqT (value.map (eT2 (eV eI) eI)) ?_
          refine e_var rfl ?_
          refine ⟨seq_Q, ?_⟩
          refine ⟨rfl, rfl, [_, _], rfl, [_, _], rfl, fun x1 y _ h => ?_, ?_⟩
          · refine ⟨[_, _], rfl, ?_⟩
            obtain ⟨v2, hv2, h⟩ := bnd' h
            refine e_fn ?_
            refine e_lcons ?_
            refine e_var rfl ?_
            refine e_ret ?_
            refine e_ret ?_
            refine ⟨⟨rfl, rfl⟩, c_of (s_is_row_of hv2) ⟨rfl, ?_⟩⟩
            cases h
            exact ⟨rfl, rfl⟩
          refine kk avd_ow ?_
          refine e_ret ?_
          refine kk (allE (xs := v3)) ?_
          refine kk avd_fz ?_
          refine ⟨_, rfl, ?_⟩
          cases h
          exact ⟨rfl, rfl⟩
      cases h
      exact ⟨rfl, rfl⟩
  refine ⟨fun hc => ?_, fun hc => ?_⟩
  · have h := ite_t h hc
    refine u_seq ?_
    refine u_ret ?_
    refine e_aOf ?_
    refine e_ret ?_
    repeat (with_reducible refine t_rt ?_)
    cases h
    refine n_rt rfl ?_
    exact ⟨rfl, rfl⟩
  · have h := ite_f h hc
    refine u_nil ?_
    refine t_nxN [_, _] rfl ?_
    obtain ⟨v8, hv8, h⟩ := bnd' h
    refine u_seq ?_
    refine u_ret ?_
    refine e_call ?_
    refine e_lcons ?_
    refine e_dOf ?_
    refine e_mpO (e := (eT2 (eV eI) eI)) (e' := eB) hv8 ?_
    refine e_seqT (value.map (eT2 (eV eI) eI)) ?_
    refine e_var rfl ?_
    refine ⟨seq_Q, ?_⟩
    refine ⟨rfl, rfl, [_, _], rfl, [_, _], rfl, fun x6 y _ h => ?_, ?_⟩
    · refine ⟨[_, _], rfl, ?_⟩
      obtain ⟨v7, hv7, h⟩ := bnd' h
      refine e_aOf ?_
      refine e_bl ?_
      refine e_cmp ?_
      refine e_dOf ?_
      refine e_call ?_
      refine e_lcons ?_
      refine e_ix rfl ?_
      refine e_ret ?_
      refine ⟨_, rfl, _, rfl, ?_⟩
      refine e_ret ?_
      refine kk (lenD_V (e := eI) (xs := x6.1)) ?_
      refine kk avd_fz ?_
      refine e_dOf ?_
      refine e_call ?_
      refine e_lcons ?_
      refine e_dOf ?_
      refine e_bin ?_
      refine e_ix rfl ?_
      refine e_ret ?_
      refine ⟨_, rfl, _, ixV_Q (e := (eT2 (eV eI) eI)) (xs := value) hv7, ?_⟩
      refine e_ret ?_
      refine kk rfl ?_
      refine kk avd_fz ?_
      refine e_ret ?_
      refine kk (lenD_V (e := eI) (xs := v7.1)) ?_
      refine kk avd_fz ?_
      refine kk (eqX_ok eqI_ok (x6.1.length : Int) (v7.1.length : Int)) ?_
      cases h
      exact ⟨rfl, rfl⟩
    refine kk avd_ow ?_
    refine e_ret ?_
    refine kk (allE (xs := v8)) ?_
    repeat (with_reducible refine t_rt ?_)
    cases h
    refine n_rt rfl ?_
    exact ⟨rfl, rfl⟩
def f_check_table (k_value : Bool) (value : List (List Int × Int)) : Option (Unit) := (f_is_table_of k_value value).bind fun v1 => (if (!v1) = true then none else some ())
theorem s_check_table {k_value : Bool} {value : List (List Int × Int)} {r : Unit} (h : f_check_table k_value value = some r) : m_check_table [.fz ((eQ k_value (eT2 (eV eI) eI)) value)] = some (.fz (eN r), []) := by
  unfold f_check_table at h
  refine cp_eq ?_
  unfold m_check_table b_check_table
  refine c_def rfl ?_
  refine sp_normN [_] rfl ?_
  obtain ⟨v1, hv1, h⟩ := bnd' h
  refine u_seq ?_
  refine u_if ?_
  refine e_not ?_
  refine e_tB ?_
  refine e_dOf ?_
  refine e_fn ?_
  refine e_lcons ?_
  refine e_var rfl ?_
  refine e_ret ?_
  refine e_ret ?_
  refine ⟨⟨rfl, rfl⟩, c_of (s_is_table_of hv1) ⟨rfl, ?_⟩⟩
  refine kk avd_fz ?_
  refine ⟨_, rfl, ?_⟩
  refine ⟨fun hc => ?_, fun hc => ?_⟩
  · have h := ite_t h hc
    cases h
  · have h := ite_f h hc
    refine u_nil ?_
    refine t_nxN [_] rfl ?_
    refine u_nil ?_
    cases h
    refine n_nx rfl ?_
    exact ⟨rfl, rfl⟩
def f_answers_of (k_table : Bool) (table : List (List Int × Int)) : Option (List Int) := (mpO (fun x1 => some x1.2) table).bind fun v2 => some v2
theorem s_answers_of {k_table : Bool} {table : List (List Int × Int)} {r : List Int} (h : f_answers_of k_table table = some r) : m_answers_of [.fz ((eQ k_table (eT2 (eV eI) eI)) table)] = some (.ow (fzs ((r).map eI)), []) := by
  unfold f_answers_of at h
  refine cp_eq ?_
  unfold m_answers_of b_answers_of
  refine c_def rfl ?_
  refine sp_normN [_, _] rfl ?_
  obtain ⟨v2, hv2, h⟩ := bnd' h
  refine u_seq ?_
  refine u_ret ?_
  refine e_mpO (e := (eT2 (eV eI) eI)) (e' := eI) hv2 ?_
  refine e_seqT (table.map (eT2 (eV eI) eI)) ?_
  refine e_var rfl ?_
  refine ⟨seq_Q, ?_⟩
  refine ⟨rfl, rfl, [_, _], rfl, [_, _], rfl, fun x1 y _ h => ?_, ?_⟩
  · refine ⟨[_, _], rfl, ?_⟩
    refine e_aOf ?_
    refine e_ix rfl ?_
    refine e_ret ?_
    refine ⟨_, rfl, _, rfl, ?_⟩
    cases h
    exact ⟨rfl, rfl⟩
  repeat (with_reducible refine t_rt ?_)
  cases h
  refine n_rt rfl ?_
  exact ⟨rfl, rfl⟩
def f_reduced (top : Int) (bottom : Int) : Option (Int × Int) := (if (decide (bottom < (0 : Int))) = true then (gcdO (absI ((0 : Int) - top)) ((0 : Int) - bottom)).bind fun v1 => (divI ((0 : Int) - top) v1).bind fun v2 => (divI ((0 : Int) - bottom) v1).bind fun v3 => some (v2, v3) else (gcdO (absI top) bottom).bind fun v4 => (divI top v4).bind fun v5 => (divI bottom v4).bind fun v6 => some (v5, v6))
theorem s_reduced {top : Int} {bottom : Int} {r : Int × Int} (h : f_reduced top bottom = some r) : m_reduced [.fz (eI top), .fz (eI bottom)] = some (.fz ((eT2 eI eI) r), []) := by
  unfold f_reduced at h
  refine cp_eq ?_
  unfold m_reduced b_reduced
  refine c_def rfl ?_
  refine sp_normN [_, _, _] rfl ?_
  refine u_seq ?_
  refine u_if ?_
  refine e_cmp ?_
  refine e_var rfl ?_
  refine e_ret ?_
  refine kk rfl ?_
  refine ⟨fun hc => ?_, fun hc => ?_⟩
  · have h := ite_t h hc
    refine u_seq ?_
    refine u_par ?_
    refine e_acons ?_
    refine e_bin ?_
    refine e_ret ?_
    refine e_var rfl ?_
    refine kk rfl ?_
    refine e_acons ?_
    refine e_bin ?_
    refine e_ret ?_
    refine e_var rfl ?_
    refine kk rfl ?_
    refine e_ret ?_
    refine ⟨rfl, ?_⟩
    refine t_nxN [_, _, _] rfl ?_
    refine u_nil ?_
    refine t_nxN [_, _, _] rfl ?_
    obtain ⟨v1, hv1, h⟩ := bnd' h
    refine u_seq ?_
    refine u_set ?_
    refine e_fn ?_
    refine e_lcons ?_
    refine e_dOf ?_
    refine e_call ?_
    refine e_lcons ?_
    refine e_var rfl ?_
    refine e_ret ?_
    refine kk rfl ?_
    refine kk avd_fz ?_
    refine e_lcons ?_
    refine e_var rfl ?_
    refine e_ret ?_
    refine e_ret ?_
    refine ⟨⟨rfl, rfl⟩, c_of (gcdO_ok dv1 hv1) ⟨rfl, ?_⟩⟩
    refine t_nxN [_, _, _] rfl ?_
    obtain ⟨v2, hv2, h⟩ := bnd' h
    obtain ⟨v3, hv3, h⟩ := bnd' h
    refine u_seq ?_
    refine u_ret ?_
    refine e_aOf ?_
    refine e_tup ?_
    refine e_lcons ?_
    refine e_dOf ?_
    refine e_bin ?_
    refine e_var rfl ?_
    refine e_var rfl ?_
    refine kk (divO_ok hv2) ?_
    refine kk avd_fz ?_
    refine e_lcons ?_
    refine e_dOf ?_
    refine e_bin ?_
    refine e_var rfl ?_
    refine e_var rfl ?_
    refine kk (divO_ok hv3) ?_
    refine kk avd_fz ?_
    refine e_ret ?_
    refine ⟨ll rfl, ?_⟩
    repeat (with_reducible refine t_rt ?_)
    cases h
    refine n_rt rfl ?_
    exact ⟨rfl, rfl⟩
  · have h := ite_f h hc
    refine u_nil ?_
    refine t_nxN [_, _, _] rfl ?_
    obtain ⟨v4, hv4, h⟩ := bnd' h
    refine u_seq ?_
    refine u_set ?_
    refine e_fn ?_
    refine e_lcons ?_
    refine e_dOf ?_
    refine e_call ?_
    refine e_lcons ?_
    refine e_var rfl ?_
    refine e_ret ?_
    refine kk rfl ?_
    refine kk avd_fz ?_
    refine e_lcons ?_
    refine e_var rfl ?_
    refine e_ret ?_
    refine e_ret ?_
    refine ⟨⟨rfl, rfl⟩, c_of (gcdO_ok dv1 hv4) ⟨rfl, ?_⟩⟩
    refine t_nxN [_, _, _] rfl ?_
    obtain ⟨v5, hv5, h⟩ := bnd' h
    obtain ⟨v6, hv6, h⟩ := bnd' h
    refine u_seq ?_
    refine u_ret ?_
    refine e_aOf ?_
    refine e_tup ?_
    refine e_lcons ?_
    refine e_dOf ?_
    refine e_bin ?_
    refine e_var rfl ?_
    refine e_var rfl ?_
    refine kk (divO_ok hv5) ?_
    refine kk avd_fz ?_
    refine e_lcons ?_
    refine e_dOf ?_
    refine e_bin ?_
    refine e_var rfl ?_
    refine e_var rfl ?_
    refine kk (divO_ok hv6) ?_
    refine kk avd_fz ?_
    refine e_ret ?_
    refine ⟨ll rfl, ?_⟩
    repeat (with_reducible refine t_rt ?_)
    cases h
    refine n_rt rfl ?_
    exact ⟨rfl, rfl⟩
def f_answer_mean (k_table : Bool) (table : List (List Int × Int)) : Option (Int × Int) := (f_check_table k_table table).bind fun v1 => (f_answers_of k_table table).bind fun v2 => (f_reduced v2.sum (table.length : Int)).bind fun v3 => some v3
theorem s_answer_mean {k_table : Bool} {table : List (List Int × Int)} {r : Int × Int} (h : f_answer_mean k_table table = some r) : m_answer_mean [.fz ((eQ k_table (eT2 (eV eI) eI)) table)] = some (.fz ((eT2 eI eI) r), []) := by
  unfold f_answer_mean at h
  refine cp_eq ?_
  unfold m_answer_mean b_answer_mean
  refine c_def rfl ?_
  refine sp_normN [_] rfl ?_
  obtain ⟨v1, hv1, h⟩ := bnd' h
  refine u_seq ?_
  refine u_drop ?_
  refine e_fn ?_
  refine e_lcons ?_
  refine e_var rfl ?_
  refine e_ret ?_
  refine e_ret ?_
  refine ⟨⟨rfl, rfl⟩, c_of (s_check_table hv1) ⟨rfl, ?_⟩⟩
  refine t_nxN [_] rfl ?_
  obtain ⟨v2, hv2, h⟩ := bnd' h
  obtain ⟨v3, hv3, h⟩ := bnd' h
  refine u_seq ?_
  refine u_ret ?_
  refine e_fn ?_
  refine e_lcons ?_
  refine e_dOf ?_
  refine e_call ?_
  refine e_lcons ?_
  refine e_dOf ?_
  refine e_fn ?_
  refine e_lcons ?_
  refine e_var rfl ?_
  refine e_ret ?_
  refine e_ret ?_
  refine ⟨⟨rfl, rfl⟩, c_of (s_answers_of hv2) ⟨rfl, ?_⟩⟩
  refine kk avd_ow ?_
  refine e_ret ?_
  refine kk (sumE (xs := v2)) ?_
  refine kk avd_fz ?_
  refine e_lcons ?_
  refine e_len rfl (lenV_Q (e := (eT2 (eV eI) eI)) (xs := table)) ?_
  refine e_ret ?_
  refine e_ret ?_
  refine ⟨⟨rfl, rfl⟩, c_of (s_reduced hv3) ⟨rfl, ?_⟩⟩
  repeat (with_reducible refine t_rt ?_)
  cases h
  refine n_rt rfl ?_
  exact ⟨rfl, rfl⟩
def f_columns_of (k_table : Bool) (table : List (List Int × Int)) : Option (Int) := (atI table (0 : Int)).bind fun v1 => some (v1.1.length : Int)
theorem s_columns_of {k_table : Bool} {table : List (List Int × Int)} {r : Int} (h : f_columns_of k_table table = some r) : m_columns_of [.fz ((eQ k_table (eT2 (eV eI) eI)) table)] = some (.fz (eI r), []) := by
  unfold f_columns_of at h
  refine cp_eq ?_
  unfold m_columns_of b_columns_of
  refine c_def rfl ?_
  refine sp_normN [_] rfl ?_
  obtain ⟨v1, hv1, h⟩ := bnd' h
  refine u_seq ?_
  refine u_ret ?_
  refine e_call ?_
  refine e_lcons ?_
  refine e_dOf ?_
  refine e_bin ?_
  refine e_ix rfl ?_
  refine e_ret ?_
  refine ⟨_, rfl, _, ixV_Q (e := (eT2 (eV eI) eI)) (xs := table) hv1, ?_⟩
  refine e_ret ?_
  refine kk rfl ?_
  refine kk avd_fz ?_
  refine e_ret ?_
  refine kk (lenD_V (e := eI) (xs := v1.1)) ?_
  repeat (with_reducible refine t_rt ?_)
  cases h
  refine n_rt rfl ?_
  exact ⟨rfl, rfl⟩
def f_check_column (k_table : Bool) (table : List (List Int × Int)) (value : Int) : Option (Unit) := (f_columns_of k_table table).bind fun v1 => (if (!(isInB (eI value) (0 : Int) (v1 - (1 : Int)))) = true then none else some ())
theorem s_check_column {k_table : Bool} {table : List (List Int × Int)} {value : Int} {r : Unit} (h : f_check_column k_table table value = some r) : m_check_column [.fz ((eQ k_table (eT2 (eV eI) eI)) table), .fz (eI value)] = some (.fz (eN r), []) := by
  unfold f_check_column at h
  refine cp_eq ?_
  unfold m_check_column b_check_column
  refine c_def rfl ?_
  refine sp_normN [_, _] rfl ?_
  obtain ⟨v1, hv1, h⟩ := bnd' h
  refine u_seq ?_
  refine u_if ?_
  refine e_not ?_
  refine e_tB ?_
  refine e_dOf ?_
  refine e_fn ?_
  refine e_lcons ?_
  refine e_var rfl ?_
  refine e_lcons ?_
  refine e_ret ?_
  refine e_lcons ?_
  refine e_dOf ?_
  refine e_bin ?_
  refine e_dOf ?_
  refine e_fn ?_
  refine e_lcons ?_
  refine e_var rfl ?_
  refine e_ret ?_
  refine e_ret ?_
  refine ⟨⟨rfl, rfl⟩, c_of (s_columns_of hv1) ⟨rfl, ?_⟩⟩
  refine kk avd_fz ?_
  refine e_ret ?_
  refine kk rfl ?_
  refine kk avd_fz ?_
  refine e_ret ?_
  refine e_ret ?_
  refine ⟨⟨rfl, rfl⟩, c_of (t_withinB _ _ _) ⟨rfl, ?_⟩⟩
  refine kk avd_fz ?_
  refine ⟨_, rfl, ?_⟩
  refine ⟨fun hc => ?_, fun hc => ?_⟩
  · have h := ite_t h hc
    cases h
  · have h := ite_f h hc
    refine u_nil ?_
    refine t_nxN [_, _] rfl ?_
    refine u_nil ?_
    cases h
    refine n_nx rfl ?_
    exact ⟨rfl, rfl⟩
def f_inputs_of (k_table : Bool) (table : List (List Int × Int)) (column : Int) : Option (List Int) := (mpO (fun x1 => (atI x1.1 column).bind fun v2 => some v2) table).bind fun v3 => some v3
theorem s_inputs_of {k_table : Bool} {table : List (List Int × Int)} {column : Int} {r : List Int} (h : f_inputs_of k_table table column = some r) : m_inputs_of [.fz ((eQ k_table (eT2 (eV eI) eI)) table), .fz (eI column)] = some (.ow (fzs ((r).map eI)), []) := by
  unfold f_inputs_of at h
  refine cp_eq ?_
  unfold m_inputs_of b_inputs_of
  refine c_def rfl ?_
  refine sp_normN [_, _, _] rfl ?_
  obtain ⟨v3, hv3, h⟩ := bnd' h
  refine u_seq ?_
  refine u_ret ?_
  refine e_mpO (e := (eT2 (eV eI) eI)) (e' := eI) hv3 ?_
  refine e_seqT (table.map (eT2 (eV eI) eI)) ?_
  refine e_var rfl ?_
  refine ⟨seq_Q, ?_⟩
  refine ⟨rfl, rfl, [_, _, _], rfl, [_, _, _], rfl, fun x1 y _ h => ?_, ?_⟩
  · refine ⟨[_, _, _], rfl, ?_⟩
    obtain ⟨v2, hv2, h⟩ := bnd' h
    refine e_bin ?_
    refine e_ix rfl ?_
    refine e_ret ?_
    refine ⟨_, rfl, _, rfl, ?_⟩
    refine e_var rfl ?_
    refine kk (ixD_V (e := eI) (xs := x1.1) hv2) ?_
    cases h
    exact ⟨rfl, rfl⟩
  repeat (with_reducible refine t_rt ?_)
  cases h
  refine n_rt rfl ?_
  exact ⟨rfl, rfl⟩
def f_column_mean (k_table : Bool) (table : List (List Int × Int)) (column : Int) : Option (Int × Int) := (f_check_table k_table table).bind fun v1 => (f_check_column k_table table column).bind fun v2 => (f_inputs_of k_table table column).bind fun v3 => (f_reduced v3.sum (table.length : Int)).bind fun v4 => some v4
theorem s_column_mean {k_table : Bool} {table : List (List Int × Int)} {column : Int} {r : Int × Int} (h : f_column_mean k_table table column = some r) : m_column_mean [.fz ((eQ k_table (eT2 (eV eI) eI)) table), .fz (eI column)] = some (.fz ((eT2 eI eI) r), []) := by
  unfold f_column_mean at h
  refine cp_eq ?_
  unfold m_column_mean b_column_mean
  refine c_def rfl ?_
  refine sp_normN [_, _] rfl ?_
  obtain ⟨v1, hv1, h⟩ := bnd' h
  refine u_seq ?_
  refine u_drop ?_
  refine e_fn ?_
  refine e_lcons ?_
  refine e_var rfl ?_
  refine e_ret ?_
  refine e_ret ?_
  refine ⟨⟨rfl, rfl⟩, c_of (s_check_table hv1) ⟨rfl, ?_⟩⟩
  refine t_nxN [_, _] rfl ?_
  obtain ⟨v2, hv2, h⟩ := bnd' h
  refine u_seq ?_
  refine u_drop ?_
  refine e_fn ?_
  refine e_lcons ?_
  refine e_var rfl ?_
  refine e_lcons ?_
  refine e_var rfl ?_
  refine e_ret ?_
  refine e_ret ?_
  refine ⟨⟨rfl, rfl⟩, c_of (s_check_column hv2) ⟨rfl, ?_⟩⟩
  refine t_nxN [_, _] rfl ?_
  obtain ⟨v3, hv3, h⟩ := bnd' h
  obtain ⟨v4, hv4, h⟩ := bnd' h
  refine u_seq ?_
  refine u_ret ?_
  refine e_fn ?_
  refine e_lcons ?_
  refine e_dOf ?_
  refine e_call ?_
  refine e_lcons ?_
  refine e_dOf ?_
  refine e_fn ?_
  refine e_lcons ?_
  refine e_var rfl ?_
  refine e_lcons ?_
  refine e_var rfl ?_
  refine e_ret ?_
  refine e_ret ?_
  refine ⟨⟨rfl, rfl⟩, c_of (s_inputs_of hv3) ⟨rfl, ?_⟩⟩
  refine kk avd_ow ?_
  refine e_ret ?_
  refine kk (sumE (xs := v3)) ?_
  refine kk avd_fz ?_
  refine e_lcons ?_
  refine e_len rfl (lenV_Q (e := (eT2 (eV eI) eI)) (xs := table)) ?_
  refine e_ret ?_
  refine e_ret ?_
  refine ⟨⟨rfl, rfl⟩, c_of (s_reduced hv4) ⟨rfl, ?_⟩⟩
  repeat (with_reducible refine t_rt ?_)
  cases h
  refine n_rt rfl ?_
  exact ⟨rfl, rfl⟩
def f_answer_sum (k_table : Bool) (table : List (List Int × Int)) (column : Int) : Option (Int) := (f_check_table k_table table).bind fun v1 => (f_check_column k_table table column).bind fun v2 => (f_inputs_of k_table table column).bind fun v3 => (f_answers_of k_table table).bind fun v4 => (mpO (fun (x5, x6) => (mulI x5 x6).bind fun v7 => some v7) (v3.zip v4)).bind fun v8 => some v8.sum
theorem s_answer_sum {k_table : Bool} {table : List (List Int × Int)} {column : Int} {r : Int} (h : f_answer_sum k_table table column = some r) : m_answer_sum [.fz ((eQ k_table (eT2 (eV eI) eI)) table), .fz (eI column)] = some (.fz (eI r), []) := by
  unfold f_answer_sum at h
  refine cp_eq ?_
  unfold m_answer_sum b_answer_sum
  refine c_def rfl ?_
  refine sp_normN [_, _, _, _] rfl ?_
  obtain ⟨v1, hv1, h⟩ := bnd' h
  refine u_seq ?_
  refine u_drop ?_
  refine e_fn ?_
  refine e_lcons ?_
  refine e_var rfl ?_
  refine e_ret ?_
  refine e_ret ?_
  refine ⟨⟨rfl, rfl⟩, c_of (s_check_table hv1) ⟨rfl, ?_⟩⟩
  refine t_nxN [_, _, _, _] rfl ?_
  obtain ⟨v2, hv2, h⟩ := bnd' h
  refine u_seq ?_
  refine u_drop ?_
  refine e_fn ?_
  refine e_lcons ?_
  refine e_var rfl ?_
  refine e_lcons ?_
  refine e_var rfl ?_
  refine e_ret ?_
  refine e_ret ?_
  refine ⟨⟨rfl, rfl⟩, c_of (s_check_column hv2) ⟨rfl, ?_⟩⟩
  refine t_nxN [_, _, _, _] rfl ?_
  obtain ⟨v3, hv3, h⟩ := bnd' h
  obtain ⟨v4, hv4, h⟩ := bnd' h
  obtain ⟨v8, hv8, h⟩ := bnd' h
  refine u_seq ?_
  refine u_ret ?_
  refine e_call ?_
  refine e_lcons ?_
  refine e_dOf ?_
  refine e_mpO (e := (eT2 eI eI)) (e' := eI) hv8 ?_
  refine e_zipT (e := eI) (e' := eI) v3 v4 ?_
  refine e_dOf ?_
  refine e_fn ?_
  refine e_lcons ?_
  refine e_var rfl ?_
  refine e_lcons ?_
  refine e_var rfl ?_
  refine e_ret ?_
  refine e_ret ?_
  refine ⟨⟨rfl, rfl⟩, c_of (s_inputs_of hv3) ⟨rfl, ?_⟩⟩
  refine kk avd_ow ?_
  refine ⟨rfl, ?_⟩
  refine e_dOf ?_
  refine e_fn ?_
  refine e_lcons ?_
  refine e_var rfl ?_
  refine e_ret ?_
  refine e_ret ?_
  refine ⟨⟨rfl, rfl⟩, c_of (s_answers_of hv4) ⟨rfl, ?_⟩⟩
  refine kk avd_ow ?_
  refine ⟨rfl, ?_⟩
  refine ⟨rfl, rfl, [_, _, _, _], rfl, [_, _, _, _], rfl, fun xx y _ h => ?_, ?_⟩
  · obtain ⟨x5, x6⟩ := xx
    refine ⟨[_, _, _, _], rfl, ?_⟩
    obtain ⟨v7, hv7, h⟩ := bnd' h
    refine e_bin ?_
    refine e_var rfl ?_
    refine e_var rfl ?_
    refine kk (mulO_ok hv7) ?_
    cases h
    exact ⟨rfl, rfl⟩
  refine kk avd_ow ?_
  refine e_ret ?_
  refine kk (sumE (xs := v8)) ?_
  repeat (with_reducible refine t_rt ?_)
  cases h
  refine n_rt rfl ?_
  exact ⟨rfl, rfl⟩
def f_product_sum (k_table : Bool) (table : List (List Int × Int)) (column : Int) (late : Int) : Option (Int) := (f_check_table k_table table).bind fun v1 => (f_check_column k_table table column).bind fun v2 => (f_check_column k_table table late).bind fun v3 => (f_inputs_of k_table table column).bind fun v4 => (f_inputs_of k_table table late).bind fun v5 => (mpO (fun (x6, x7) => (mulI x6 x7).bind fun v8 => some v8) (v4.zip v5)).bind fun v9 => some v9.sum
theorem s_product_sum {k_table : Bool} {table : List (List Int × Int)} {column : Int} {late : Int} {r : Int} (h : f_product_sum k_table table column late = some r) : m_product_sum [.fz ((eQ k_table (eT2 (eV eI) eI)) table), .fz (eI column), .fz (eI late)] = some (.fz (eI r), []) := by
  unfold f_product_sum at h
  refine cp_eq ?_
  unfold m_product_sum b_product_sum
  refine c_def rfl ?_
  refine sp_normN [_, _, _, _, _] rfl ?_
  obtain ⟨v1, hv1, h⟩ := bnd' h
  refine u_seq ?_
  refine u_drop ?_
  refine e_fn ?_
  refine e_lcons ?_
  refine e_var rfl ?_
  refine e_ret ?_
  refine e_ret ?_
  refine ⟨⟨rfl, rfl⟩, c_of (s_check_table hv1) ⟨rfl, ?_⟩⟩
  refine t_nxN [_, _, _, _, _] rfl ?_
  obtain ⟨v2, hv2, h⟩ := bnd' h
  refine u_seq ?_
  refine u_drop ?_
  refine e_fn ?_
  refine e_lcons ?_
  refine e_var rfl ?_
  refine e_lcons ?_
  refine e_var rfl ?_
  refine e_ret ?_
  refine e_ret ?_
  refine ⟨⟨rfl, rfl⟩, c_of (s_check_column hv2) ⟨rfl, ?_⟩⟩
  refine t_nxN [_, _, _, _, _] rfl ?_
  obtain ⟨v3, hv3, h⟩ := bnd' h
  refine u_seq ?_
  refine u_drop ?_
  refine e_fn ?_
  refine e_lcons ?_
  refine e_var rfl ?_
  refine e_lcons ?_
  refine e_var rfl ?_
  refine e_ret ?_
  refine e_ret ?_
  refine ⟨⟨rfl, rfl⟩, c_of (s_check_column hv3) ⟨rfl, ?_⟩⟩
  refine t_nxN [_, _, _, _, _] rfl ?_
  obtain ⟨v4, hv4, h⟩ := bnd' h
  obtain ⟨v5, hv5, h⟩ := bnd' h
  obtain ⟨v9, hv9, h⟩ := bnd' h
  refine u_seq ?_
  refine u_ret ?_
  refine e_call ?_
  refine e_lcons ?_
  refine e_dOf ?_
  refine e_mpO (e := (eT2 eI eI)) (e' := eI) hv9 ?_
  refine e_zipT (e := eI) (e' := eI) v4 v5 ?_
  refine e_dOf ?_
  refine e_fn ?_
  refine e_lcons ?_
  refine e_var rfl ?_
  refine e_lcons ?_
  refine e_var rfl ?_
  refine e_ret ?_
  refine e_ret ?_
  refine ⟨⟨rfl, rfl⟩, c_of (s_inputs_of hv4) ⟨rfl, ?_⟩⟩
  refine kk avd_ow ?_
  refine ⟨rfl, ?_⟩
  refine e_dOf ?_
  refine e_fn ?_
  refine e_lcons ?_
  refine e_var rfl ?_
  refine e_lcons ?_
  refine e_var rfl ?_
  refine e_ret ?_
  refine e_ret ?_
  refine ⟨⟨rfl, rfl⟩, c_of (s_inputs_of hv5) ⟨rfl, ?_⟩⟩
  refine kk avd_ow ?_
  refine ⟨rfl, ?_⟩
  refine ⟨rfl, rfl, [_, _, _, _, _], rfl, [_, _, _, _, _], rfl, fun xx y _ h => ?_, ?_⟩
  · obtain ⟨x6, x7⟩ := xx
    refine ⟨[_, _, _, _, _], rfl, ?_⟩
    obtain ⟨v8, hv8, h⟩ := bnd' h
    refine e_bin ?_
    refine e_var rfl ?_
    refine e_var rfl ?_
    refine kk (mulO_ok hv8) ?_
    cases h
    exact ⟨rfl, rfl⟩
  refine kk avd_ow ?_
  refine e_ret ?_
  refine kk (sumE (xs := v9)) ?_
  repeat (with_reducible refine t_rt ?_)
  cases h
  refine n_rt rfl ?_
  exact ⟨rfl, rfl⟩
def f__law_times (one : Int × Int) (other : Int × Int) : Option (Int × Int) := (mulI one.1 other.1).bind fun v1 => (mulI one.2 other.2).bind fun v2 => (f__law_cut v1 v2).bind fun v3 => some v3
theorem s__law_times {one : Int × Int} {other : Int × Int} {r : Int × Int} (h : f__law_times one other = some r) : m__law_times [.fz ((eT2 eI eI) one), .fz ((eT2 eI eI) other)] = some (.fz ((eT2 eI eI) r), []) := by
  unfold f__law_times at h
  refine cp_eq ?_
  unfold m__law_times b__law_times
  refine c_def rfl ?_
  refine sp_normN [_, _] rfl ?_
  obtain ⟨v1, hv1, h⟩ := bnd' h
  obtain ⟨v2, hv2, h⟩ := bnd' h
  obtain ⟨v3, hv3, h⟩ := bnd' h
  refine u_seq ?_
  refine u_ret ?_
  refine e_fn ?_
  refine e_lcons ?_
  refine e_dOf ?_
  refine e_bin ?_
  refine e_ix rfl ?_
  refine e_ret ?_
  refine ⟨_, rfl, _, rfl, ?_⟩
  refine e_ix rfl ?_
  refine e_ret ?_
  refine ⟨_, rfl, _, rfl, ?_⟩
  refine kk (mulO_ok hv1) ?_
  refine kk avd_fz ?_
  refine e_lcons ?_
  refine e_dOf ?_
  refine e_bin ?_
  refine e_ix rfl ?_
  refine e_ret ?_
  refine ⟨_, rfl, _, rfl, ?_⟩
  refine e_ix rfl ?_
  refine e_ret ?_
  refine ⟨_, rfl, _, rfl, ?_⟩
  refine kk (mulO_ok hv2) ?_
  refine kk avd_fz ?_
  refine e_ret ?_
  refine e_ret ?_
  refine ⟨⟨rfl, rfl⟩, c_of (s__law_cut hv3) ⟨rfl, ?_⟩⟩
  repeat (with_reducible refine t_rt ?_)
  cases h
  refine n_rt rfl ?_
  exact ⟨rfl, rfl⟩
def f__law_below (one : Int × Int) (other : Int × Int) : Option (Bool) := (mulI one.1 other.2).bind fun v1 => (mulI other.1 one.2).bind fun v2 => some (decide (v1 < v2))
theorem s__law_below {one : Int × Int} {other : Int × Int} {r : Bool} (h : f__law_below one other = some r) : m__law_below [.fz ((eT2 eI eI) one), .fz ((eT2 eI eI) other)] = some (.fz (eB r), []) := by
  unfold f__law_below at h
  refine cp_eq ?_
  unfold m__law_below b__law_below
  refine c_def rfl ?_
  refine sp_normN [_, _] rfl ?_
  obtain ⟨v1, hv1, h⟩ := bnd' h
  obtain ⟨v2, hv2, h⟩ := bnd' h
  refine u_seq ?_
  refine u_ret ?_
  refine e_aOf ?_
  refine e_bl ?_
  refine e_cmp ?_
  refine e_dOf ?_
  refine e_bin ?_
  refine e_ix rfl ?_
  refine e_ret ?_
  refine ⟨_, rfl, _, rfl, ?_⟩
  refine e_ix rfl ?_
  refine e_ret ?_
  refine ⟨_, rfl, _, rfl, ?_⟩
  refine kk (mulO_ok hv1) ?_
  refine kk avd_fz ?_
  refine e_dOf ?_
  refine e_bin ?_
  refine e_ix rfl ?_
  refine e_ret ?_
  refine ⟨_, rfl, _, rfl, ?_⟩
  refine e_ix rfl ?_
  refine e_ret ?_
  refine ⟨_, rfl, _, rfl, ?_⟩
  refine kk (mulO_ok hv2) ?_
  refine kk avd_fz ?_
  refine kk rfl ?_
  repeat (with_reducible refine t_rt ?_)
  cases h
  refine n_rt rfl ?_
  exact ⟨rfl, rfl⟩
def f__law_less (one : Int × Int) (other : Int × Int) : Option (Int × Int) := (mulI one.1 other.2).bind fun v1 => (mulI other.1 one.2).bind fun v2 => (mulI one.2 other.2).bind fun v3 => (f__law_cut (v1 - v2) v3).bind fun v4 => some v4
theorem s__law_less {one : Int × Int} {other : Int × Int} {r : Int × Int} (h : f__law_less one other = some r) : m__law_less [.fz ((eT2 eI eI) one), .fz ((eT2 eI eI) other)] = some (.fz ((eT2 eI eI) r), []) := by
  unfold f__law_less at h
  refine cp_eq ?_
  unfold m__law_less b__law_less
  refine c_def rfl ?_
  refine sp_normN [_, _] rfl ?_
  obtain ⟨v1, hv1, h⟩ := bnd' h
  obtain ⟨v2, hv2, h⟩ := bnd' h
  obtain ⟨v3, hv3, h⟩ := bnd' h
  obtain ⟨v4, hv4, h⟩ := bnd' h
  refine u_seq ?_
  refine u_ret ?_
  refine e_fn ?_
  refine e_lcons ?_
  refine e_dOf ?_
  refine e_bin ?_
  refine e_dOf ?_
  refine e_bin ?_
  refine e_ix rfl ?_
  refine e_ret ?_
  refine ⟨_, rfl, _, rfl, ?_⟩
  refine e_ix rfl ?_
  refine e_ret ?_
  refine ⟨_, rfl, _, rfl, ?_⟩
  refine kk (mulO_ok hv1) ?_
  refine kk avd_fz ?_
  refine e_dOf ?_
  refine e_bin ?_
  refine e_ix rfl ?_
  refine e_ret ?_
  refine ⟨_, rfl, _, rfl, ?_⟩
  refine e_ix rfl ?_
  refine e_ret ?_
  refine ⟨_, rfl, _, rfl, ?_⟩
  refine kk (mulO_ok hv2) ?_
  refine kk avd_fz ?_
  refine kk rfl ?_
  refine kk avd_fz ?_
  refine e_lcons ?_
  refine e_dOf ?_
  refine e_bin ?_
  refine e_ix rfl ?_
  refine e_ret ?_
  refine ⟨_, rfl, _, rfl, ?_⟩
  refine e_ix rfl ?_
  refine e_ret ?_
  refine ⟨_, rfl, _, rfl, ?_⟩
  refine kk (mulO_ok hv3) ?_
  refine kk avd_fz ?_
  refine e_ret ?_
  refine e_ret ?_
  refine ⟨⟨rfl, rfl⟩, c_of (s__law_cut hv4) ⟨rfl, ?_⟩⟩
  repeat (with_reducible refine t_rt ?_)
  cases h
  refine n_rt rfl ?_
  exact ⟨rfl, rfl⟩
def f__law_plus (one : Int × Int) (other : Int × Int) : Option (Int × Int) := (mulI one.1 other.2).bind fun v1 => (mulI other.1 one.2).bind fun v2 => (mulI one.2 other.2).bind fun v3 => (f__law_cut (v1 + v2) v3).bind fun v4 => some v4
theorem s__law_plus {one : Int × Int} {other : Int × Int} {r : Int × Int} (h : f__law_plus one other = some r) : m__law_plus [.fz ((eT2 eI eI) one), .fz ((eT2 eI eI) other)] = some (.fz ((eT2 eI eI) r), []) := by
  unfold f__law_plus at h
  refine cp_eq ?_
  unfold m__law_plus b__law_plus
  refine c_def rfl ?_
  refine sp_normN [_, _] rfl ?_
  obtain ⟨v1, hv1, h⟩ := bnd' h
  obtain ⟨v2, hv2, h⟩ := bnd' h
  obtain ⟨v3, hv3, h⟩ := bnd' h
  obtain ⟨v4, hv4, h⟩ := bnd' h
  refine u_seq ?_
  refine u_ret ?_
  refine e_fn ?_
  refine e_lcons ?_
  refine e_dOf ?_
  refine e_bin ?_
  refine e_dOf ?_
  refine e_bin ?_
  refine e_ix rfl ?_
  refine e_ret ?_
  refine ⟨_, rfl, _, rfl, ?_⟩
  refine e_ix rfl ?_
  refine e_ret ?_
  refine ⟨_, rfl, _, rfl, ?_⟩
  refine kk (mulO_ok hv1) ?_
  refine kk avd_fz ?_
  refine e_dOf ?_
  refine e_bin ?_
  refine e_ix rfl ?_
  refine e_ret ?_
  refine ⟨_, rfl, _, rfl, ?_⟩
  refine e_ix rfl ?_
  refine e_ret ?_
  refine ⟨_, rfl, _, rfl, ?_⟩
  refine kk (mulO_ok hv2) ?_
  refine kk avd_fz ?_
  refine kk rfl ?_
  refine kk avd_fz ?_
  refine e_lcons ?_
  refine e_dOf ?_
  refine e_bin ?_
  refine e_ix rfl ?_
  refine e_ret ?_
  refine ⟨_, rfl, _, rfl, ?_⟩
  refine e_ix rfl ?_
  refine e_ret ?_
  refine ⟨_, rfl, _, rfl, ?_⟩
  refine kk (mulO_ok hv3) ?_
  refine kk avd_fz ?_
  refine e_ret ?_
  refine e_ret ?_
  refine ⟨⟨rfl, rfl⟩, c_of (s__law_cut hv4) ⟨rfl, ?_⟩⟩
  repeat (with_reducible refine t_rt ?_)
  cases h
  refine n_rt rfl ?_
  exact ⟨rfl, rfl⟩
def f_is_rule_of (k_table : Bool) (k_value : Bool) (table : List (List Int × Int)) (value : List (Int × Int)) : Option (Bool) := (if (isLs ((eQ k_value (eT2 eI eI)) value)) = true then (f_columns_of k_table table).bind fun v1 => (if (decide ((value.length : Int) = v1)) = true then (mpO (fun x2 => some (isFr ((eT2 eI eI) x2))) value).bind fun v3 => some (v3.all id) else some false).bind fun v4 => some v4 else some false).bind fun v5 => some v5
theorem s_is_rule_of {k_table : Bool} {k_value : Bool} {table : List (List Int × Int)} {value : List (Int × Int)} {r : Bool} (h : f_is_rule_of k_table k_value table value = some r) : m_is_rule_of [.fz ((eQ k_table (eT2 (eV eI) eI)) table), .fz ((eQ k_value (eT2 eI eI)) value)] = some (.fz (eB r), []) := by
  unfold f_is_rule_of at h
  refine cp_eq ?_
  unfold m_is_rule_of b_is_rule_of
  refine c_def rfl ?_
  refine sp_normN [_, _, _] rfl ?_
  obtain ⟨v5, hv5, h⟩ := bnd' h
  refine u_seq ?_
  refine u_ret ?_
  refine e_aOf ?_
  refine ep_eqS (PyData.bool v5) ?_ ?_
  · refine e_andV ?_
    refine e_dOf ?_
    refine e_fn ?_
    refine e_lcons ?_
    refine e_var rfl ?_
    refine e_ret ?_
    refine e_ret ?_
    refine ⟨⟨rfl, rfl⟩, c_of (t_list _) ⟨rfl, ?_⟩⟩
    refine kk avd_fz ?_
    refine ⟨_, rfl, fun hc => ?_, fun hc => ?_⟩
    · have h := ite_t hv5 hc
      obtain ⟨v1, hv1, h⟩ := bnd' h
      obtain ⟨v4, hv4, h⟩ := bnd' h
      refine ep_eqS (PyData.bool v4) ?_ ?_
      · refine e_andV ?_
        refine e_bl ?_
        refine e_cmp ?_
        refine e_len rfl (lenV_Q (e := (eT2 eI eI)) (xs := value)) ?_
        refine e_dOf ?_
        refine e_fn ?_
        refine e_lcons ?_
        refine e_var rfl ?_
        refine e_ret ?_
        refine e_ret ?_
        refine ⟨⟨rfl, rfl⟩, c_of (s_columns_of hv1) ⟨rfl, ?_⟩⟩
        refine kk avd_fz ?_
        refine kk (eqX_ok eqI_ok (value.length : Int) v1) ?_
        refine ⟨_, rfl, fun hc => ?_, fun hc => ?_⟩
        · have h := ite_t hv4 hc
          obtain ⟨v3, hv3, h⟩ := bnd' h
          refine e_dOf ?_
          refine e_call ?_
          refine e_lcons ?_
          refine e_dOf ?_
          refine e_mpO (e := (eT2 eI eI)) (e' := eB) hv3 ?_
          refine e_seqT (value.map (eT2 eI eI)) ?_
          refine e_var rfl ?_
          refine ⟨seq_Q, ?_⟩
          refine ⟨rfl, rfl, [_, _, _], rfl, [_, _, _], rfl, fun x2 y _ h => ?_, ?_⟩
          · refine ⟨[_, _, _], rfl, ?_⟩
            refine e_fn ?_
            refine e_lcons ?_
            refine e_var rfl ?_
            refine e_ret ?_
            refine e_ret ?_
            refine ⟨⟨rfl, rfl⟩, c_of (t_frac _) ⟨rfl, ?_⟩⟩
            cases h
            exact ⟨rfl, rfl⟩
          refine kk avd_ow ?_
          refine e_ret ?_
          refine kk (allE (xs := v3)) ?_
          refine kk avd_fz ?_
          cases h
          exact ⟨rfl, rfl⟩
        · have h := ite_f hv4 hc
          cases h
          exact ⟨rfl, rfl⟩
      cases h
      exact ⟨rfl, rfl⟩
    · have h := ite_f hv5 hc
      cases h
      exact ⟨rfl, rfl⟩
  repeat (with_reducible refine t_rt ?_)
  cases h
  refine n_rt rfl ?_
  exact ⟨rfl, rfl⟩
def f_is_short (value : Int × Int) : Option (Bool) := some ((isFr ((eT2 eI eI) value)) && ((decide ((absI value.1) < (1000000000000 : Int))) && (decide (value.2 < (1000000000000 : Int)))))
theorem s_is_short {value : Int × Int} {r : Bool} (h : f_is_short value = some r) : m_is_short [.fz ((eT2 eI eI) value)] = some (.fz (eB r), []) := by
  unfold f_is_short at h
  refine cp_eq ?_
  unfold m_is_short b_is_short
  refine c_def rfl ?_
  refine sp_normN [_] rfl ?_
  refine u_seq ?_
  refine u_ret ?_
  refine e_aOf ?_
  refine ep_eqS (PyData.bool ((isFr ((eT2 eI eI) value)) && ((decide ((absI value.1) < (1000000000000 : Int))) && (decide (value.2 < (1000000000000 : Int)))))) ?_ ?_
  · refine e_andV ?_
    refine e_dOf ?_
    refine e_fn ?_
    refine e_lcons ?_
    refine e_var rfl ?_
    refine e_ret ?_
    refine e_ret ?_
    refine ⟨⟨rfl, rfl⟩, c_of (t_frac _) ⟨rfl, ?_⟩⟩
    refine kk avd_fz ?_
    refine ⟨_, rfl, fun hc => ?_, fun hc => ?_⟩
    · refine ep_eqS (PyData.bool ((decide ((absI value.1) < (1000000000000 : Int))) && (decide (value.2 < (1000000000000 : Int))))) ?_ ?_
      · refine e_andV ?_
        refine e_bl ?_
        refine e_cmp ?_
        refine e_dOf ?_
        refine e_call ?_
        refine e_lcons ?_
        refine e_ix rfl ?_
        refine e_ret ?_
        refine ⟨_, rfl, _, rfl, ?_⟩
        refine e_ret ?_
        refine kk rfl ?_
        refine kk avd_fz ?_
        refine e_ret ?_
        refine kk rfl ?_
        refine ⟨_, rfl, fun hc => ?_, fun hc => ?_⟩
        · refine e_bl ?_
          refine e_cmp ?_
          refine e_ix rfl ?_
          refine e_ret ?_
          refine ⟨_, rfl, _, rfl, ?_⟩
          refine e_ret ?_
          refine kk rfl ?_
          exact ⟨congrArg PyData.bool (andT hc), rfl⟩
        · exact ⟨congrArg PyData.bool (andF hc), rfl⟩
      exact ⟨congrArg PyData.bool (andT hc), rfl⟩
    · exact ⟨congrArg PyData.bool (andF hc), rfl⟩
  repeat (with_reducible refine t_rt ?_)
  cases h
  refine n_rt rfl ?_
  exact ⟨rfl, rfl⟩
def f_check_rule (k_table : Bool) (k_value : Bool) (table : List (List Int × Int)) (value : List (Int × Int)) : Option (Unit) := (f_is_rule_of k_table k_value table value).bind fun v1 => (if (!v1) = true then some true else (mpO (fun x2 => (f_is_short x2).bind fun v3 => some v3) value).bind fun v4 => some (!(v4.all id))).bind fun v5 => (if v5 = true then none else some ())
theorem s_check_rule {k_table : Bool} {k_value : Bool} {table : List (List Int × Int)} {value : List (Int × Int)} {r : Unit} (h : f_check_rule k_table k_value table value = some r) : m_check_rule [.fz ((eQ k_table (eT2 (eV eI) eI)) table), .fz ((eQ k_value (eT2 eI eI)) value)] = some (.fz (eN r), []) := by
  unfold f_check_rule at h
  refine cp_eq ?_
  unfold m_check_rule b_check_rule
  refine c_def rfl ?_
  refine sp_normN [_, _, _] rfl ?_
  obtain ⟨v1, hv1, h⟩ := bnd' h
  obtain ⟨v5, hv5, h⟩ := bnd' h
  refine u_seq ?_
  refine u_if ?_
  refine ep_eqS v5 ?_ ?_
  · refine e_or ?_
    refine e_not ?_
    refine e_tB ?_
    refine e_dOf ?_
    refine e_fn ?_
    refine e_lcons ?_
    refine e_var rfl ?_
    refine e_lcons ?_
    refine e_var rfl ?_
    refine e_ret ?_
    refine e_ret ?_
    refine ⟨⟨rfl, rfl⟩, c_of (s_is_rule_of hv1) ⟨rfl, ?_⟩⟩
    refine kk avd_fz ?_
    refine ⟨_, rfl, ?_⟩
    refine ⟨fun hc => ?_, fun hc => ?_⟩
    · have h := ite_t hv5 hc
      cases h
      exact ⟨rfl, rfl⟩
    · have h := ite_f hv5 hc
      obtain ⟨v4, hv4, h⟩ := bnd' h
      refine e_not ?_
      refine e_tB ?_
      refine e_dOf ?_
      refine e_call ?_
      refine e_lcons ?_
      refine e_dOf ?_
      refine e_mpO (e := (eT2 eI eI)) (e' := eB) hv4 ?_
      refine e_seqT (value.map (eT2 eI eI)) ?_
      refine e_var rfl ?_
      refine ⟨seq_Q, ?_⟩
      refine ⟨rfl, rfl, [_, _, _], rfl, [_, _, _], rfl, fun x2 y _ h => ?_, ?_⟩
      · refine ⟨[_, _, _], rfl, ?_⟩
        obtain ⟨v3, hv3, h⟩ := bnd' h
        refine e_fn ?_
        refine e_lcons ?_
        refine e_var rfl ?_
        refine e_ret ?_
        refine e_ret ?_
        refine ⟨⟨rfl, rfl⟩, c_of (s_is_short hv3) ⟨rfl, ?_⟩⟩
        cases h
        exact ⟨rfl, rfl⟩
      refine kk avd_ow ?_
      refine e_ret ?_
      refine kk (allE (xs := v4)) ?_
      refine kk avd_fz ?_
      refine ⟨_, rfl, ?_⟩
      cases h
      exact ⟨rfl, rfl⟩
  refine ⟨fun hc => ?_, fun hc => ?_⟩
  · have h := ite_t h hc
    cases h
  · have h := ite_f h hc
    refine u_nil ?_
    refine t_nxN [_, _, _] rfl ?_
    refine u_nil ?_
    cases h
    refine n_nx rfl ?_
    exact ⟨rfl, rfl⟩
def f_check_told (k_table : Bool) (k_rule_ : Bool) (table : List (List Int × Int)) (rule_ : List (Int × Int)) : Option (Unit) := (f_check_table k_table table).bind fun v1 => (f_check_rule k_table k_rule_ table rule_).bind fun v2 => some ()
theorem s_check_told {k_table : Bool} {k_rule_ : Bool} {table : List (List Int × Int)} {rule_ : List (Int × Int)} {r : Unit} (h : f_check_told k_table k_rule_ table rule_ = some r) : m_check_told [.fz ((eQ k_table (eT2 (eV eI) eI)) table), .fz ((eQ k_rule_ (eT2 eI eI)) rule_)] = some (.fz (eN r), []) := by
  unfold f_check_told at h
  refine cp_eq ?_
  unfold m_check_told b_check_told
  refine c_def rfl ?_
  refine sp_normN [_, _] rfl ?_
  obtain ⟨v1, hv1, h⟩ := bnd' h
  refine u_seq ?_
  refine u_drop ?_
  refine e_fn ?_
  refine e_lcons ?_
  refine e_var rfl ?_
  refine e_ret ?_
  refine e_ret ?_
  refine ⟨⟨rfl, rfl⟩, c_of (s_check_table hv1) ⟨rfl, ?_⟩⟩
  refine t_nxN [_, _] rfl ?_
  obtain ⟨v2, hv2, h⟩ := bnd' h
  refine u_seq ?_
  refine u_drop ?_
  refine e_fn ?_
  refine e_lcons ?_
  refine e_var rfl ?_
  refine e_lcons ?_
  refine e_var rfl ?_
  refine e_ret ?_
  refine e_ret ?_
  refine ⟨⟨rfl, rfl⟩, c_of (s_check_rule hv2) ⟨rfl, ?_⟩⟩
  refine t_nxN [_, _] rfl ?_
  refine u_nil ?_
  cases h
  refine n_nx rfl ?_
  exact ⟨rfl, rfl⟩
def f_multiply (one : Int × Int) (late : Int × Int) : Option (Int × Int) := (mulI one.1 late.1).bind fun v1 => (mulI one.2 late.2).bind fun v2 => (f_reduced v1 v2).bind fun v3 => some v3
theorem s_multiply {one : Int × Int} {late : Int × Int} {r : Int × Int} (h : f_multiply one late = some r) : m_multiply [.fz ((eT2 eI eI) one), .fz ((eT2 eI eI) late)] = some (.fz ((eT2 eI eI) r), []) := by
  unfold f_multiply at h
  refine cp_eq ?_
  unfold m_multiply b_multiply
  refine c_def rfl ?_
  refine sp_normN [_, _] rfl ?_
  obtain ⟨v1, hv1, h⟩ := bnd' h
  obtain ⟨v2, hv2, h⟩ := bnd' h
  obtain ⟨v3, hv3, h⟩ := bnd' h
  refine u_seq ?_
  refine u_ret ?_
  refine e_fn ?_
  refine e_lcons ?_
  refine e_dOf ?_
  refine e_bin ?_
  refine e_ix rfl ?_
  refine e_ret ?_
  refine ⟨_, rfl, _, rfl, ?_⟩
  refine e_ix rfl ?_
  refine e_ret ?_
  refine ⟨_, rfl, _, rfl, ?_⟩
  refine kk (mulO_ok hv1) ?_
  refine kk avd_fz ?_
  refine e_lcons ?_
  refine e_dOf ?_
  refine e_bin ?_
  refine e_ix rfl ?_
  refine e_ret ?_
  refine ⟨_, rfl, _, rfl, ?_⟩
  refine e_ix rfl ?_
  refine e_ret ?_
  refine ⟨_, rfl, _, rfl, ?_⟩
  refine kk (mulO_ok hv2) ?_
  refine kk avd_fz ?_
  refine e_ret ?_
  refine e_ret ?_
  refine ⟨⟨rfl, rfl⟩, c_of (s_reduced hv3) ⟨rfl, ?_⟩⟩
  repeat (with_reducible refine t_rt ?_)
  cases h
  refine n_rt rfl ?_
  exact ⟨rfl, rfl⟩
def f_add (one : Int × Int) (late : Int × Int) : Option (Int × Int) := (mulI one.1 late.2).bind fun v1 => (mulI late.1 one.2).bind fun v2 => (mulI one.2 late.2).bind fun v3 => (f_reduced (v1 + v2) v3).bind fun v4 => some v4
theorem s_add {one : Int × Int} {late : Int × Int} {r : Int × Int} (h : f_add one late = some r) : m_add [.fz ((eT2 eI eI) one), .fz ((eT2 eI eI) late)] = some (.fz ((eT2 eI eI) r), []) := by
  unfold f_add at h
  refine cp_eq ?_
  unfold m_add b_add
  refine c_def rfl ?_
  refine sp_normN [_, _] rfl ?_
  obtain ⟨v1, hv1, h⟩ := bnd' h
  obtain ⟨v2, hv2, h⟩ := bnd' h
  obtain ⟨v3, hv3, h⟩ := bnd' h
  obtain ⟨v4, hv4, h⟩ := bnd' h
  refine u_seq ?_
  refine u_ret ?_
  refine e_fn ?_
  refine e_lcons ?_
  refine e_dOf ?_
  refine e_bin ?_
  refine e_dOf ?_
  refine e_bin ?_
  refine e_ix rfl ?_
  refine e_ret ?_
  refine ⟨_, rfl, _, rfl, ?_⟩
  refine e_ix rfl ?_
  refine e_ret ?_
  refine ⟨_, rfl, _, rfl, ?_⟩
  refine kk (mulO_ok hv1) ?_
  refine kk avd_fz ?_
  refine e_dOf ?_
  refine e_bin ?_
  refine e_ix rfl ?_
  refine e_ret ?_
  refine ⟨_, rfl, _, rfl, ?_⟩
  refine e_ix rfl ?_
  refine e_ret ?_
  refine ⟨_, rfl, _, rfl, ?_⟩
  refine kk (mulO_ok hv2) ?_
  refine kk avd_fz ?_
  refine kk rfl ?_
  refine kk avd_fz ?_
  refine e_lcons ?_
  refine e_dOf ?_
  refine e_bin ?_
  refine e_ix rfl ?_
  refine e_ret ?_
  refine ⟨_, rfl, _, rfl, ?_⟩
  refine e_ix rfl ?_
  refine e_ret ?_
  refine ⟨_, rfl, _, rfl, ?_⟩
  refine kk (mulO_ok hv3) ?_
  refine kk avd_fz ?_
  refine e_ret ?_
  refine e_ret ?_
  refine ⟨⟨rfl, rfl⟩, c_of (s_reduced hv4) ⟨rfl, ?_⟩⟩
  repeat (with_reducible refine t_rt ?_)
  cases h
  refine n_rt rfl ?_
  exact ⟨rfl, rfl⟩
def f_told_by (k_inputs : Bool) (k_rule_ : Bool) (inputs : List Int) (rule_ : List (Int × Int)) : Option (Int × Int) := (forO (fun s1 (x4, x5) => (f_multiply (x4, (1 : Int)) x5).bind fun v6 => (f_add s1 v6).bind fun v7 => some v7) (inputs.zip rule_) ((0 : Int), (1 : Int))).bind fun v8 => some v8
theorem s_told_by {k_inputs : Bool} {k_rule_ : Bool} {inputs : List Int} {rule_ : List (Int × Int)} {r : Int × Int} (h : f_told_by k_inputs k_rule_ inputs rule_ = some r) : m_told_by [.fz ((eQ k_inputs eI) inputs), .fz ((eQ k_rule_ (eT2 eI eI)) rule_)] = some (.fz ((eT2 eI eI) r), []) := by
  unfold f_told_by at h
  refine cp_eq ?_
  unfold m_told_by b_told_by
  refine c_def rfl ?_
  refine sp_normN [_, _, _, _, _] rfl ?_
  refine u_seq ?_
  refine u_set ?_
  refine e_aOf ?_
  refine e_ret ?_
  refine t_nxN [_, _, _, _, _] rfl ?_
  obtain ⟨v8, hl9, h⟩ := bnd' h
  refine u_seq ?_
  refine sp_forO (e := (eT2 eI (eT2 eI eI))) hl9 (fun s1 δ => ∃ (j2 : Option PyData) (j3 : Option PyData), δ = [some (.fz ((eQ k_inputs eI) inputs)), some (.fz ((eQ k_rule_ (eT2 eI eI)) rule_)), some (.fz ((eT2 eI eI) s1)), (j2.map AV.fz), (j3.map AV.fz)]) ?_ ?_ ?_
  · refine e_zipT (e := eI) (e' := (eT2 eI eI)) inputs rule_ ?_
    refine e_var rfl ?_
    refine ⟨seq_Q, ?_⟩
    refine e_var rfl ?_
    refine ⟨seq_Q, ?_⟩
    refine ⟨rfl, ?_⟩
    exact ⟨none, none, rfl⟩
  · rintro s1 ⟨x4, x5⟩ _ h δ ⟨j2, j3, rfl⟩
    try dsimp only at h
    refine ⟨[_, _, _, _, _], rfl, ?_⟩
    obtain ⟨v6, hv6, h⟩ := bnd' h
    obtain ⟨v7, hv7, h⟩ := bnd' h
    refine u_seq ?_
    refine u_set ?_
    refine e_fn ?_
    refine e_lcons ?_
    refine e_var rfl ?_
    refine e_lcons ?_
    refine e_dOf ?_
    refine e_fn ?_
    refine e_lcons ?_
    refine e_tup ?_
    refine e_lcons ?_
    refine e_var rfl ?_
    refine e_lcons ?_
    refine e_ret ?_
    refine e_ret ?_
    refine ⟨ll rfl, ?_⟩
    refine e_lcons ?_
    refine e_var rfl ?_
    refine e_ret ?_
    refine e_ret ?_
    refine ⟨⟨rfl, rfl⟩, c_of (s_multiply hv6) ⟨rfl, ?_⟩⟩
    refine kk avd_fz ?_
    refine e_ret ?_
    refine e_ret ?_
    refine ⟨⟨rfl, rfl⟩, c_of (s_add hv7) ⟨rfl, ?_⟩⟩
    refine t_nxN [_, _, _, _, _] rfl ?_
    refine u_nil ?_
    cases h
    exact lp_go ⟨(some (eI x4)), (some ((eT2 eI eI) x5)), rfl⟩
  · rintro δ ⟨j2, j3, rfl⟩
    try dsimp only at h
    refine t_nxN [_, _, _, _, _] rfl ?_
    refine u_seq ?_
    refine u_ret ?_
    refine e_mv rfl ?_
    repeat (with_reducible refine t_rt ?_)
    cases h
    refine n_rt rfl ?_
    exact ⟨rfl, rfl⟩
def f_take (one : Int × Int) (late : Int × Int) : Option (Int × Int) := (mulI one.1 late.2).bind fun v1 => (mulI late.1 one.2).bind fun v2 => (mulI one.2 late.2).bind fun v3 => (f_reduced (v1 - v2) v3).bind fun v4 => some v4
theorem s_take {one : Int × Int} {late : Int × Int} {r : Int × Int} (h : f_take one late = some r) : m_take [.fz ((eT2 eI eI) one), .fz ((eT2 eI eI) late)] = some (.fz ((eT2 eI eI) r), []) := by
  unfold f_take at h
  refine cp_eq ?_
  unfold m_take b_take
  refine c_def rfl ?_
  refine sp_normN [_, _] rfl ?_
  obtain ⟨v1, hv1, h⟩ := bnd' h
  obtain ⟨v2, hv2, h⟩ := bnd' h
  obtain ⟨v3, hv3, h⟩ := bnd' h
  obtain ⟨v4, hv4, h⟩ := bnd' h
  refine u_seq ?_
  refine u_ret ?_
  refine e_fn ?_
  refine e_lcons ?_
  refine e_dOf ?_
  refine e_bin ?_
  refine e_dOf ?_
  refine e_bin ?_
  refine e_ix rfl ?_
  refine e_ret ?_
  refine ⟨_, rfl, _, rfl, ?_⟩
  refine e_ix rfl ?_
  refine e_ret ?_
  refine ⟨_, rfl, _, rfl, ?_⟩
  refine kk (mulO_ok hv1) ?_
  refine kk avd_fz ?_
  refine e_dOf ?_
  refine e_bin ?_
  refine e_ix rfl ?_
  refine e_ret ?_
  refine ⟨_, rfl, _, rfl, ?_⟩
  refine e_ix rfl ?_
  refine e_ret ?_
  refine ⟨_, rfl, _, rfl, ?_⟩
  refine kk (mulO_ok hv2) ?_
  refine kk avd_fz ?_
  refine kk rfl ?_
  refine kk avd_fz ?_
  refine e_lcons ?_
  refine e_dOf ?_
  refine e_bin ?_
  refine e_ix rfl ?_
  refine e_ret ?_
  refine ⟨_, rfl, _, rfl, ?_⟩
  refine e_ix rfl ?_
  refine e_ret ?_
  refine ⟨_, rfl, _, rfl, ?_⟩
  refine kk (mulO_ok hv3) ?_
  refine kk avd_fz ?_
  refine e_ret ?_
  refine e_ret ?_
  refine ⟨⟨rfl, rfl⟩, c_of (s_reduced hv4) ⟨rfl, ?_⟩⟩
  repeat (with_reducible refine t_rt ?_)
  cases h
  refine n_rt rfl ?_
  exact ⟨rfl, rfl⟩
def f_misses_of (k_table : Bool) (k_rule_ : Bool) (table : List (List Int × Int)) (rule_ : List (Int × Int)) : Option (List (Int × Int)) := (mpO (fun (x1, x2) => (f_told_by true k_rule_ x1 rule_).bind fun v3 => (f_take (x2, (1 : Int)) v3).bind fun v4 => some v4) table).bind fun v5 => some v5
theorem s_misses_of {k_table : Bool} {k_rule_ : Bool} {table : List (List Int × Int)} {rule_ : List (Int × Int)} {r : List (Int × Int)} (h : f_misses_of k_table k_rule_ table rule_ = some r) : m_misses_of [.fz ((eQ k_table (eT2 (eV eI) eI)) table), .fz ((eQ k_rule_ (eT2 eI eI)) rule_)] = some (.ow (fzs ((r).map (eT2 eI eI))), []) := by
  unfold f_misses_of at h
  refine cp_eq ?_
  unfold m_misses_of b_misses_of
  refine c_def rfl ?_
  refine sp_normN [_, _, _, _] rfl ?_
  obtain ⟨v5, hv5, h⟩ := bnd' h
  refine u_seq ?_
  refine u_ret ?_
  refine e_mpO (e := (eT2 (eV eI) eI)) (e' := (eT2 eI eI)) hv5 ?_
  refine e_seqT (table.map (eT2 (eV eI) eI)) ?_
  refine e_var rfl ?_
  refine ⟨seq_Q, ?_⟩
  refine ⟨rfl, rfl, [_, _, _, _], rfl, [_, _, _, _], rfl, fun xx y _ h => ?_, ?_⟩
  · obtain ⟨x1, x2⟩ := xx
    refine ⟨[_, _, _, _], rfl, ?_⟩
    obtain ⟨v3, hv3, h⟩ := bnd' h
    obtain ⟨v4, hv4, h⟩ := bnd' h
    refine e_fn ?_
    refine e_lcons ?_
    refine e_tup ?_
    refine e_lcons ?_
    refine e_var rfl ?_
    refine e_lcons ?_
    refine e_ret ?_
    refine e_ret ?_
    refine ⟨ll rfl, ?_⟩
    refine e_lcons ?_
    refine e_dOf ?_
    refine e_fn ?_
    refine e_lcons ?_
    refine e_var rfl ?_
    refine e_lcons ?_
    refine e_var rfl ?_
    refine e_ret ?_
    refine e_ret ?_
    refine ⟨⟨rfl, rfl⟩, c_of (s_told_by hv3) ⟨rfl, ?_⟩⟩
    refine kk avd_fz ?_
    refine e_ret ?_
    refine e_ret ?_
    refine ⟨⟨rfl, rfl⟩, c_of (s_take hv4) ⟨rfl, ?_⟩⟩
    cases h
    exact ⟨rfl, rfl⟩
  repeat (with_reducible refine t_rt ?_)
  cases h
  refine n_rt rfl ?_
  exact ⟨rfl, rfl⟩
def f_total (k_some_ : Bool) (some_ : List (Int × Int)) : Option (Int × Int) := (forO (fun s1 x3 => (f_add s1 x3).bind fun v4 => some v4) some_ ((0 : Int), (1 : Int))).bind fun v5 => some v5
theorem s_total {k_some_ : Bool} {some_ : List (Int × Int)} {r : Int × Int} (h : f_total k_some_ some_ = some r) : m_total [.fz ((eQ k_some_ (eT2 eI eI)) some_)] = some (.fz ((eT2 eI eI) r), []) := by
  unfold f_total at h
  refine cp_eq ?_
  unfold m_total b_total
  refine c_def rfl ?_
  refine sp_normN [_, _, _] rfl ?_
  refine u_seq ?_
  refine u_set ?_
  refine e_aOf ?_
  refine e_ret ?_
  refine t_nxN [_, _, _] rfl ?_
  obtain ⟨v5, hl6, h⟩ := bnd' h
  refine u_seq ?_
  refine sp_forO (e := (eT2 eI eI)) hl6 (fun s1 δ => ∃ (j2 : Option PyData), δ = [some (.fz ((eQ k_some_ (eT2 eI eI)) some_)), some (.fz ((eT2 eI eI) s1)), (j2.map AV.fz)]) ?_ ?_ ?_
  · refine e_seqT (some_.map (eT2 eI eI)) ?_
    refine e_var rfl ?_
    refine ⟨seq_Q, ?_⟩
    refine ⟨rfl, ?_⟩
    exact ⟨none, rfl⟩
  · rintro s1 x3 _ h δ ⟨j2, rfl⟩
    try dsimp only at h
    refine ⟨[_, _, _], rfl, ?_⟩
    obtain ⟨v4, hv4, h⟩ := bnd' h
    refine u_seq ?_
    refine u_set ?_
    refine e_fn ?_
    refine e_lcons ?_
    refine e_var rfl ?_
    refine e_lcons ?_
    refine e_var rfl ?_
    refine e_ret ?_
    refine e_ret ?_
    refine ⟨⟨rfl, rfl⟩, c_of (s_add hv4) ⟨rfl, ?_⟩⟩
    refine t_nxN [_, _, _] rfl ?_
    refine u_nil ?_
    cases h
    exact lp_go ⟨(some ((eT2 eI eI) x3)), rfl⟩
  · rintro δ ⟨j2, rfl⟩
    try dsimp only at h
    refine t_nxN [_, _, _] rfl ?_
    refine u_seq ?_
    refine u_ret ?_
    refine e_mv rfl ?_
    repeat (with_reducible refine t_rt ?_)
    cases h
    refine n_rt rfl ?_
    exact ⟨rfl, rfl⟩
def f_squares_by (k_table : Bool) (k_rule_ : Bool) (table : List (List Int × Int)) (rule_ : List (Int × Int)) : Option (Int × Int) := (f_misses_of k_table k_rule_ table rule_).bind fun v1 => (mpO (fun x2 => (f_multiply x2 x2).bind fun v3 => some v3) v1).bind fun v4 => (f_total false v4).bind fun v5 => some v5
theorem s_squares_by {k_table : Bool} {k_rule_ : Bool} {table : List (List Int × Int)} {rule_ : List (Int × Int)} {r : Int × Int} (h : f_squares_by k_table k_rule_ table rule_ = some r) : m_squares_by [.fz ((eQ k_table (eT2 (eV eI) eI)) table), .fz ((eQ k_rule_ (eT2 eI eI)) rule_)] = some (.fz ((eT2 eI eI) r), []) := by
  unfold f_squares_by at h
  refine cp_eq ?_
  unfold m_squares_by b_squares_by
  refine c_def rfl ?_
  refine sp_normN [_, _, _] rfl ?_
  obtain ⟨v1, hv1, h⟩ := bnd' h
  obtain ⟨v4, hv4, h⟩ := bnd' h
  obtain ⟨v5, hv5, h⟩ := bnd' h
  refine u_seq ?_
  refine u_ret ?_
  refine e_fn ?_
  refine e_lcons ?_
  refine e_dOf ?_
  refine e_mpO (e := (eT2 eI eI)) (e' := (eT2 eI eI)) hv4 ?_
  refine e_seqT (v1.map (eT2 eI eI)) ?_
  refine e_dOf ?_
  refine e_fn ?_
  refine e_lcons ?_
  refine e_var rfl ?_
  refine e_lcons ?_
  refine e_var rfl ?_
  refine e_ret ?_
  refine e_ret ?_
  refine ⟨⟨rfl, rfl⟩, c_of (s_misses_of hv1) ⟨rfl, ?_⟩⟩
  refine kk avd_ow ?_
  refine ⟨rfl, ?_⟩
  refine ⟨rfl, rfl, [_, _, _], rfl, [_, _, _], rfl, fun x2 y _ h => ?_, ?_⟩
  · refine ⟨[_, _, _], rfl, ?_⟩
    obtain ⟨v3, hv3, h⟩ := bnd' h
    refine e_fn ?_
    refine e_lcons ?_
    refine e_var rfl ?_
    refine e_lcons ?_
    refine e_var rfl ?_
    refine e_ret ?_
    refine e_ret ?_
    refine ⟨⟨rfl, rfl⟩, c_of (s_multiply hv3) ⟨rfl, ?_⟩⟩
    cases h
    exact ⟨rfl, rfl⟩
  refine kk avd_ow ?_
  refine e_ret ?_
  refine e_ret ?_
  refine ⟨⟨rfl, rfl⟩, c_of (s_total hv5) ⟨rfl, ?_⟩⟩
  repeat (with_reducible refine t_rt ?_)
  cases h
  refine n_rt rfl ?_
  exact ⟨rfl, rfl⟩
def f_squares (k_table : Bool) (k_rule_ : Bool) (table : List (List Int × Int)) (rule_ : List (Int × Int)) : Option (Int × Int) := (f_check_told k_table k_rule_ table rule_).bind fun v1 => (f_squares_by k_table k_rule_ table rule_).bind fun v2 => some v2
theorem s_squares {k_table : Bool} {k_rule_ : Bool} {table : List (List Int × Int)} {rule_ : List (Int × Int)} {r : Int × Int} (h : f_squares k_table k_rule_ table rule_ = some r) : m_squares [.fz ((eQ k_table (eT2 (eV eI) eI)) table), .fz ((eQ k_rule_ (eT2 eI eI)) rule_)] = some (.fz ((eT2 eI eI) r), []) := by
  unfold f_squares at h
  refine cp_eq ?_
  unfold m_squares b_squares
  refine c_def rfl ?_
  refine sp_normN [_, _] rfl ?_
  obtain ⟨v1, hv1, h⟩ := bnd' h
  refine u_seq ?_
  refine u_drop ?_
  refine e_fn ?_
  refine e_lcons ?_
  refine e_var rfl ?_
  refine e_lcons ?_
  refine e_var rfl ?_
  refine e_ret ?_
  refine e_ret ?_
  refine ⟨⟨rfl, rfl⟩, c_of (s_check_told hv1) ⟨rfl, ?_⟩⟩
  refine t_nxN [_, _] rfl ?_
  obtain ⟨v2, hv2, h⟩ := bnd' h
  refine u_seq ?_
  refine u_ret ?_
  refine e_fn ?_
  refine e_lcons ?_
  refine e_var rfl ?_
  refine e_lcons ?_
  refine e_var rfl ?_
  refine e_ret ?_
  refine e_ret ?_
  refine ⟨⟨rfl, rfl⟩, c_of (s_squares_by hv2) ⟨rfl, ?_⟩⟩
  repeat (with_reducible refine t_rt ?_)
  cases h
  refine n_rt rfl ?_
  exact ⟨rfl, rfl⟩
def f__law_total (some_ : List (Int × Int)) : Option (Int × Int) := (forO (fun s1 x3 => (f__law_plus s1 x3).bind fun v4 => some v4) some_ ((0 : Int), (1 : Int))).bind fun v5 => some v5
theorem s__law_total {some_ : List (Int × Int)} {r : Int × Int} (h : f__law_total some_ = some r) : m__law_total [.fz ((eL (eT2 eI eI)) some_)] = some (.fz ((eT2 eI eI) r), []) := by
  unfold f__law_total at h
  refine cp_eq ?_
  unfold m__law_total b__law_total
  refine c_def rfl ?_
  refine sp_normN [_, _, _] rfl ?_
  refine u_seq ?_
  refine u_set ?_
  refine e_aOf ?_
  refine e_tup ?_
  refine e_lcons ?_
  refine e_ret ?_
  refine e_lcons ?_
  refine e_ret ?_
  refine e_ret ?_
  refine ⟨ll rfl, ?_⟩
  refine t_nxN [_, _, _] rfl ?_
  obtain ⟨v5, hl6, h⟩ := bnd' h
  refine u_seq ?_
  refine sp_forO (e := (eT2 eI eI)) hl6 (fun s1 δ => ∃ (j2 : Option PyData), δ = [some (.fz ((eL (eT2 eI eI)) some_)), some (.fz ((eT2 eI eI) s1)), (j2.map AV.fz)]) ?_ ?_ ?_
  · refine e_seqT (some_.map (eT2 eI eI)) ?_
    refine e_var rfl ?_
    refine ⟨rfl, ?_⟩
    refine ⟨rfl, ?_⟩
    exact ⟨none, rfl⟩
  · rintro s1 x3 _ h δ ⟨j2, rfl⟩
    try dsimp only at h
    refine ⟨[_, _, _], rfl, ?_⟩
    obtain ⟨v4, hv4, h⟩ := bnd' h
    refine u_seq ?_
    refine u_set ?_
    refine e_fn ?_
    refine e_lcons ?_
    refine e_var rfl ?_
    refine e_lcons ?_
    refine e_var rfl ?_
    refine e_ret ?_
    refine e_ret ?_
    refine ⟨⟨rfl, rfl⟩, c_of (s__law_plus hv4) ⟨rfl, ?_⟩⟩
    refine t_nxN [_, _, _] rfl ?_
    refine u_nil ?_
    cases h
    exact lp_go ⟨(some ((eT2 eI eI) x3)), rfl⟩
  · rintro δ ⟨j2, rfl⟩
    try dsimp only at h
    refine t_nxN [_, _, _] rfl ?_
    refine u_seq ?_
    refine u_ret ?_
    refine e_mv rfl ?_
    repeat (with_reducible refine t_rt ?_)
    cases h
    refine n_rt rfl ?_
    exact ⟨rfl, rfl⟩
def f_misses (k_table : Bool) (k_rule_ : Bool) (table : List (List Int × Int)) (rule_ : List (Int × Int)) : Option (List (Int × Int)) := (f_check_told k_table k_rule_ table rule_).bind fun v1 => (f_misses_of k_table k_rule_ table rule_).bind fun v2 => some v2
theorem s_misses {k_table : Bool} {k_rule_ : Bool} {table : List (List Int × Int)} {rule_ : List (Int × Int)} {r : List (Int × Int)} (h : f_misses k_table k_rule_ table rule_ = some r) : m_misses [.fz ((eQ k_table (eT2 (eV eI) eI)) table), .fz ((eQ k_rule_ (eT2 eI eI)) rule_)] = some (.ow (fzs ((r).map (eT2 eI eI))), []) := by
  unfold f_misses at h
  refine cp_eq ?_
  unfold m_misses b_misses
  refine c_def rfl ?_
  refine sp_normN [_, _] rfl ?_
  obtain ⟨v1, hv1, h⟩ := bnd' h
  refine u_seq ?_
  refine u_drop ?_
  refine e_fn ?_
  refine e_lcons ?_
  refine e_var rfl ?_
  refine e_lcons ?_
  refine e_var rfl ?_
  refine e_ret ?_
  refine e_ret ?_
  refine ⟨⟨rfl, rfl⟩, c_of (s_check_told hv1) ⟨rfl, ?_⟩⟩
  refine t_nxN [_, _] rfl ?_
  obtain ⟨v2, hv2, h⟩ := bnd' h
  refine u_seq ?_
  refine u_ret ?_
  refine e_fn ?_
  refine e_lcons ?_
  refine e_var rfl ?_
  refine e_lcons ?_
  refine e_var rfl ?_
  refine e_ret ?_
  refine e_ret ?_
  refine ⟨⟨rfl, rfl⟩, c_of (s_misses_of hv2) ⟨rfl, ?_⟩⟩
  repeat (with_reducible refine t_rt ?_)
  cases h
  refine n_rt rfl ?_
  exact ⟨rfl, rfl⟩
def f__law_right (pot : Int × Int) : Option (Bool × (Int × Int)) := (drawO m__law_draw pot (3 : Int)).bind fun v1 => (f__law_table v1.2 ((1 : Int) + v1.1) (8 : Int)).bind fun v2 => (f__law_rule v2.2 ((1 : Int) + v1.1)).bind fun v3 => (reprO ((eL (eT2 (eV eI) eI)) v2.1)).bind fun v4 => (mpO (fun (x5, x6) => some x6) v2.1).bind fun v7 => (f__law_cut v7.sum (v2.1.length : Int)).bind fun v8 => (f_answer_mean false v2.1).bind fun v9 => (f_answer_mean true v2.1).bind fun v10 => (reprO ((eL (eT2 eI eI)) ([v9, v10] : List (Int × Int)))).bind fun v11 => (reprO ((eL (eT2 eI eI)) ([v8, v8] : List (Int × Int)))).bind fun v12 => (if (!decide (v11 = v12)) = true then some (false, v3.2) else (rng1O ((1 : Int) + v1.1)).bind fun v13 => (forR (σ := List (Int × Int) × List ((Int × Int) × Int) × List Int) (ρ := Bool × (Int × Int)) (fun (s14, s15, s16) x21 => (mpO (fun (x22, x23) => (atI x22 x21).bind fun v24 => some v24) v2.1).bind fun v25 => (f__law_cut v25.sum (v2.1.length : Int)).bind fun v26 => (appO s14 v26).bind fun v27 => (mpO (fun (x28, x29) => (mulI x28 x29).bind fun v30 => some v30) (v25.zip v7)).bind fun v31 => (appO s16 v31.sum).bind fun v32 => (f_column_mean false v2.1 x21).bind fun v33 => (f_column_mean false v2.1 x21).bind fun v34 => (reprO ((eL (eT2 eI eI)) ([v33, v34] : List (Int × Int)))).bind fun v35 => (atI v27 (-(1 : Int))).bind fun v36 => (repO ([v36] : List (Int × Int)) (2 : Int)).bind fun v37 => (reprO ((eL (eT2 eI eI)) v37)).bind fun v38 => (if (!decide (v35 = v38)) = true then some (.ret (false, v3.2)) else (f_answer_sum false v2.1 x21).bind fun v39 => (f_answer_sum false v2.1 x21).bind fun v40 => (reprO ((eL eI) ([v39, v40] : List Int))).bind fun v41 => (atI v32 (-(1 : Int))).bind fun v42 => (repO ([v42] : List Int) (2 : Int)).bind fun v43 => (reprO ((eL eI) v43)).bind fun v44 => (if (!decide (v41 = v44)) = true then some (.ret (false, v3.2)) else (rng1O ((1 : Int) + v1.1)).bind fun v45 => (forR (σ := List ((Int × Int) × Int) × Int) (ρ := Bool × (Int × Int)) (fun (s46, s47) x50 => (mpO (fun (x51, x52) => (atI x51 s47).bind fun v53 => (atI x51 x50).bind fun v54 => (mulI v53 v54).bind fun v55 => some v55) v2.1).bind fun v56 => (putDO s46 (s47, x50) v56.sum).bind fun v57 => (getO v57 (s47, x50)).bind fun v58 => (f_product_sum false v2.1 s47 x50).bind fun v59 => (f_product_sum false v2.1 s47 x50).bind fun v60 => (f_product_sum false v2.1 x50 s47).bind fun v61 => (reprO ((eL eI) ([v59, v60, v61] : List Int))).bind fun v62 => (repO ([v58] : List Int) (3 : Int)).bind fun v63 => (reprO ((eL eI) v63)).bind fun v64 => (if (!decide (v62 = v64)) = true then some (.ret (false, v3.2)) else some (.go (v57, s47)))) v45 (s15, x21)).bind fun | .go (v65, v66) => (getO v65 (v66, v66)).bind fun v68 => (atI v27 v66).bind fun v69 => (atI v27 v66).bind fun v70 => (f__law_times v69 v70).bind fun v71 => (f__law_below (v68, (v2.1.length : Int)) v71).bind fun v72 => (if v72 = true then some (.ret (false, v3.2)) else some (.go (v27, v65, v32))) | .brk _ => none | .ret r => some (.ret r)))) v13 (([] : List (Int × Int)), ([] : List ((Int × Int) × Int)), ([] : List Int))).bind fun | .go (v74, v75, v76) => (mpO (fun x78 => (mulI x78 x78).bind fun v79 => some v79) v7).bind fun v80 => (rng1O ((1 : Int) + v1.1)).bind fun v81 => (forO (fun s82 x85 => (atI v76 x85).bind fun v86 => (mulI (2 : Int) v86).bind fun v87 => (atI v3.1 x85).bind fun v88 => (f__law_times (v87, (1 : Int)) v88).bind fun v89 => (f__law_less s82 v89).bind fun v90 => (rng1O ((1 : Int) + v1.1)).bind fun v91 => (forO (fun s92 x94 => (getO v75 (x85, x94)).bind fun v95 => (atI v3.1 x85).bind fun v96 => (atI v3.1 x94).bind fun v97 => (f__law_times v96 v97).bind fun v98 => (f__law_times (v95, (1 : Int)) v98).bind fun v99 => (f__law_plus s92 v99).bind fun v100 => some v100) v91 v90).bind fun v101 => some v101) v81 (v80.sum, (1 : Int))).bind fun v103 => (f_squares false false v2.1 v3.1).bind fun v105 => (if (!decide (v105 = v103)) = true then some (false, v3.2) else (mpO (fun (x106, x107) => (f__law_times x106 x107).bind fun v108 => some v108) (v74.zip v3.1)).bind fun v109 => (f__law_total v109).bind fun v110 => (f_misses false false v2.1 v3.1).bind fun v111 => (f__law_total v111).bind fun v112 => (f__law_times v112 ((1 : Int), (v2.1.length : Int))).bind fun v113 => (f__law_less v8 v110).bind fun v114 => (if (decide (v113 = v114)) = true then (reprO ((eL (eT2 (eV eI) eI)) v2.1)).bind fun v115 => some (decide (v115 = v4)) else some false).bind fun v116 => some (v116, v3.2)) | .brk _ => none | .ret r => some r)
theorem s__law_right {pot : Int × Int} {r : Bool × (Int × Int)} (h : f__law_right pot = some r) : m__law_right [potA pot] = some (.fz (eB r.1), [potA r.2]) := by
  unfold f__law_right at h
  refine cp_eq ?_
  unfold m__law_right b__law_right
  refine c_def rfl ?_
  refine sp_normN [_, _, _, _, _, _, _, _, _, _, _, _, _, _, _, _, _, _, _, _, _, _] rfl ?_
  obtain ⟨v1, hv1, h⟩ := bnd' h
  refine u_seq ?_
  refine u_set ?_
  refine e_bin ?_
  refine e_ret ?_
  refine e_dOf ?_
  refine e_fnP rfl ?_
  refine e_lcons ?_
  refine e_ret ?_
  refine e_ret ?_
  refine ⟨_, rfl, rfl, c_of (drawO_ok hv1) ⟨_, rfl, ?_⟩⟩
  refine kk avd_fz ?_
  refine kk rfl ?_
  refine t_nxN [_, _, _, _, _, _, _, _, _, _, _, _, _, _, _, _, _, _, _, _, _, _] rfl ?_
  obtain ⟨v2, hv2, h⟩ := bnd' h
  obtain ⟨v3, hv3, h⟩ := bnd' h
  refine u_seq ?_
  refine u_par ?_
  refine e_acons ?_
  refine e_fnP rfl ?_
  refine e_lcons ?_
  refine e_var rfl ?_
  refine e_lcons ?_
  refine e_ret ?_
  refine e_ret ?_
  refine ⟨_, rfl, rfl, c_of (s__law_table hv2) ⟨_, rfl, ?_⟩⟩
  refine e_acons ?_
  refine e_fnP rfl ?_
  refine e_lcons ?_
  refine e_var rfl ?_
  refine e_ret ?_
  refine ⟨_, rfl, rfl, c_of (s__law_rule hv3) ⟨_, rfl, ?_⟩⟩
  refine e_ret ?_
  refine ⟨rfl, ?_⟩
  refine t_nxN [_, _, _, _, _, _, _, _, _, _, _, _, _, _, _, _, _, _, _, _, _, _] rfl ?_
  obtain ⟨v4, hv4, h⟩ := bnd' h
  refine u_seq ?_
  refine u_par ?_
  refine e_acons ?_
  refine e_call ?_
  refine e_lcons ?_
  refine e_varN [_, _, _, _, _, _, _, _, _, _, _, _, _, _, _, _, _, _, _, _, _, _] rfl avd_ow rfl ?_
  refine e_ret ?_
  refine kk (reprE hv4) ?_
  refine e_acons ?_
  refine e_aOf ?_
  refine e_len rfl (lenV_L (e := (eT2 (eV eI) eI)) (xs := v2.1)) ?_
  refine e_ret ?_
  refine ⟨rfl, ?_⟩
  refine t_nxN [_, _, _, _, _, _, _, _, _, _, _, _, _, _, _, _, _, _, _, _, _, _] rfl ?_
  obtain ⟨v7, hv7, h⟩ := bnd' h
  refine u_seq ?_
  refine u_set ?_
  refine e_mpO (e := (eT2 (eV eI) eI)) (e' := eI) hv7 ?_
  refine e_seqT (v2.1.map (eT2 (eV eI) eI)) ?_
  refine e_var rfl ?_
  refine ⟨rfl, ?_⟩
  refine ⟨rfl, rfl, [_, _, _, _, _, _, _, _, _, _, _, _, _, _, _, _, _, _, _, _, _, _], rfl, [_, _, _, _, _, _, _, _, _, _, _, _, _, _, _, _, _, _, _, _, _, _], rfl, fun xx y _ h => ?_, ?_⟩
  · obtain ⟨x5, x6⟩ := xx
    refine ⟨[_, _, _, _, _, _, _, _, _, _, _, _, _, _, _, _, _, _, _, _, _, _], rfl, ?_⟩
    refine e_aOf ?_
    refine e_var rfl ?_
    cases h
    exact ⟨rfl, rfl⟩
  refine t_nxN [_, _, _, _, _, _, _, _, _, _, _, _, _, _, _, _, _, _, _, _, _, _] rfl ?_
  obtain ⟨v8, hv8, h⟩ := bnd' h
  refine u_seq ?_
  refine u_set ?_
  refine e_fn ?_
  refine e_lcons ?_
  refine e_dOf ?_
  refine e_call ?_
  refine e_lcons ?_
  refine e_varN [_, _, _, _, _, _, _, _, _, _, _, _, _, _, _, _, _, _, _, _, _, _] rfl avd_ow rfl ?_
  refine e_ret ?_
  refine kk (sumE (xs := v7)) ?_
  refine kk avd_fz ?_
  refine e_lcons ?_
  refine e_var rfl ?_
  refine e_ret ?_
  refine e_ret ?_
  refine ⟨⟨rfl, rfl⟩, c_of (s__law_cut hv8) ⟨rfl, ?_⟩⟩
  refine t_nxN [_, _, _, _, _, _, _, _, _, _, _, _, _, _, _, _, _, _, _, _, _, _] rfl ?_
  obtain ⟨v9, hv9, h⟩ := bnd' h
  obtain ⟨v10, hv10, h⟩ := bnd' h
  obtain ⟨v11, hv11, h⟩ := bnd' h
  obtain ⟨v12, hv12, h⟩ := bnd' h
  refine u_seq ?_
  refine u_if ?_
  refine e_cmp ?_
  refine e_dOf ?_
  refine e_call ?_
  refine e_lcons ?_
  refine e_dOf ?_
  refine e_lstT (e := (eT2 eI eI)) (xs := [v9, v10]) rfl ?_
  refine e_lcons ?_
  refine e_dOf ?_
  refine e_fn ?_
  refine e_lcons ?_
  refine e_var rfl ?_
  refine e_ret ?_
  refine e_ret ?_
  refine ⟨⟨rfl, rfl⟩, c_of (s_answer_mean hv9) ⟨rfl, ?_⟩⟩
  refine kk avd_fz ?_
  refine e_lcons ?_
  refine e_dOf ?_
  refine e_fn ?_
  refine e_ret ?_
  refine e_lcons ?_
  refine e_dOf ?_
  refine e_call ?_
  refine e_lcons ?_
  refine e_var rfl ?_
  refine e_ret ?_
  refine kk rfl ?_
  refine kk avd_fz ?_
  refine e_ret ?_
  refine ⟨⟨rfl, rfl⟩, c_of (s_answer_mean hv10) ⟨rfl, ?_⟩⟩
  refine kk avd_fz ?_
  refine e_ret ?_
  refine ⟨rfl, ?_⟩
  refine kk avd_ow ?_
  refine e_ret ?_
  refine kk (reprE hv11) ?_
  refine kk avd_fz ?_
  refine e_dOf ?_
  refine e_call ?_
  refine e_lcons ?_
  refine e_dOf ?_
  refine e_lstT (e := (eT2 eI eI)) (xs := [v8, v8]) rfl ?_
  refine e_lcons ?_
  refine e_var rfl ?_
  refine e_lcons ?_
  refine e_var rfl ?_
  refine e_ret ?_
  refine ⟨rfl, ?_⟩
  refine kk avd_ow ?_
  refine e_ret ?_
  refine kk (reprE hv12) ?_
  refine kk avd_fz ?_
  refine kk q_nes ?_
  refine ⟨fun hc => ?_, fun hc => ?_⟩
  · have h := ite_t h hc
    refine u_seq ?_
    refine u_ret ?_
    refine e_aOf ?_
    refine e_ret ?_
    repeat (with_reducible refine t_rt ?_)
    cases h
    refine n_rt rfl ?_
    exact ⟨rfl, rfl⟩
  · have h := ite_f h hc
    refine u_nil ?_
    refine t_nxN [_, _, _, _, _, _, _, _, _, _, _, _, _, _, _, _, _, _, _, _, _, _] rfl ?_
    refine u_seq ?_
    refine u_par ?_
    refine e_acons ?_
    refine e_lstT (e := (eT2 eI eI)) (xs := []) rfl ?_
    refine e_ret ?_
    refine ⟨rfl, ?_⟩
    refine e_acons ?_
    refine e_ret ?_
    refine e_acons ?_
    refine e_lstT (e := eI) (xs := []) rfl ?_
    refine e_ret ?_
    refine ⟨rfl, ?_⟩
    refine e_ret ?_
    refine ⟨rfl, ?_⟩
    refine t_nxN [_, _, _, _, _, _, _, _, _, _, _, _, _, _, _, _, _, _, _, _, _, _] rfl ?_
    obtain ⟨v13, hv13, h⟩ := bnd' h
    obtain ⟨o117, hl77, h⟩ := bnd' h
    refine u_seq ?_
    refine sp_forR (e := eI) hl77 (fun (s14, s15, s16) δ => ∃ (j17 : Option PyData) (j18 : Option PyData) (j19 : Option PyData) (j20 : Option PyData), δ = [some (potA v3.2), some (.fz (eI ((1 : Int) + v1.1))), some (.fz ((eL (eT2 (eV eI) eI)) v2.1)), some (.ow (fzs ((v3.1).map (eT2 eI eI)))), some (.fz (eS v4)), some (.fz (eI (v2.1.length : Int))), some (.fz ((eL eI) v7)), some (.fz ((eT2 eI eI) v8)), some (.ow (fzs ((s14).map (eT2 eI eI)))), some (.odT (od2 eI s15)), some (.ow (fzs ((s16).map eI))), (j17.map AV.fz), (j18.map AV.fz), (j19.map AV.fz), (j20.map AV.fz), none, none, none, none, none, none, none]) (fun r a δ => a = .fz (eB r.1) ∧ outsOf true δ = some [potA r.2]) ?_ ?_ ?_
    · refine e_rng1 ?_
      refine e_var rfl ?_
      refine kk (rng1E hv13) ?_
      refine ⟨rfl, ?_⟩
      exact ⟨none, none, none, none, rfl⟩
    · rintro ⟨s14, s15, s16⟩ x21 _ h δ ⟨j17, j18, j19, j20, rfl⟩
      try dsimp only at h
      refine ⟨[_, _, _, _, _, _, _, _, _, _, _, _, _, _, _, _, _, _, _, _, _, _], rfl, ?_⟩
      obtain ⟨v25, hv25, h⟩ := bnd' h
      refine u_seq ?_
      refine u_set ?_
      refine e_mpO (e := (eT2 (eV eI) eI)) (e' := eI) hv25 ?_
      refine e_seqT (v2.1.map (eT2 (eV eI) eI)) ?_
      refine e_var rfl ?_
      refine ⟨rfl, ?_⟩
      refine ⟨rfl, rfl, [_, _, _, _, _, _, _, _, _, _, _, _, _, _, _, _, _, _, _, _, _, _], rfl, [_, _, _, _, _, _, _, _, _, _, _, _, _, _, _, _, _, _, _, _, _, _], rfl, fun xx y _ h => ?_, ?_⟩
      · obtain ⟨x22, x23⟩ := xx
        refine ⟨[_, _, _, _, _, _, _, _, _, _, _, _, _, _, _, _, _, _, _, _, _, _], rfl, ?_⟩
        obtain ⟨v24, hv24, h⟩ := bnd' h
        refine e_aOf ?_
        refine e_ix rfl ?_
        refine e_var rfl ?_
        refine ⟨_, rfl, _, ixV_V (e := eI) (xs := x22) hv24, ?_⟩
        cases h
        exact ⟨rfl, rfl⟩
      refine t_nxN [_, _, _, _, _, _, _, _, _, _, _, _, _, _, _, _, _, _, _, _, _, _] rfl ?_
      obtain ⟨v26, hv26, h⟩ := bnd' h
      obtain ⟨v27, hv27, h⟩ := bnd' h
      refine u_seq ?_
      refine u_appT (e := (eT2 eI eI)) hv27 rfl ?_
      refine e_fn ?_
      refine e_lcons ?_
      refine e_dOf ?_
      refine e_call ?_
      refine e_lcons ?_
      refine e_varN [_, _, _, _, _, _, _, _, _, _, _, _, _, _, _, _, _, _, _, _, _, _] rfl avd_ow rfl ?_
      refine e_ret ?_
      refine kk (sumE (xs := v25)) ?_
      refine kk avd_fz ?_
      refine e_lcons ?_
      refine e_var rfl ?_
      refine e_ret ?_
      refine e_ret ?_
      refine ⟨⟨rfl, rfl⟩, c_of (s__law_cut hv26) ⟨rfl, ?_⟩⟩
      refine ⟨rfl, rfl, ?_⟩
      refine t_nxN [_, _, _, _, _, _, _, _, _, _, _, _, _, _, _, _, _, _, _, _, _, _] rfl ?_
      obtain ⟨v31, hv31, h⟩ := bnd' h
      obtain ⟨v32, hv32, h⟩ := bnd' h
      refine u_seq ?_
      refine u_appT (e := eI) hv32 rfl ?_
      refine e_call ?_
      refine e_lcons ?_
      refine e_dOf ?_
      refine e_mpO (e := (eT2 eI eI)) (e' := eI) hv31 ?_
      refine e_zipT (e := eI) (e' := eI) v25 v7 ?_
      refine e_var rfl ?_
      refine ⟨rfl, ?_⟩
      refine e_var rfl ?_
      refine ⟨rfl, ?_⟩
      refine ⟨rfl, (by cases j19 <;> rfl), [_, _, _, _, _, _, _, _, _, _, _, _, _, _, _, _, _, _, _, _, _, _], rfl, [_, _, _, _, _, _, _, _, _, _, _, _, _, _, _, _, _, _, _, _, _, _], rfl, fun xx y _ h => ?_, ?_⟩
      · obtain ⟨x28, x29⟩ := xx
        refine ⟨[_, _, _, _, _, _, _, _, _, _, _, _, _, _, _, _, _, _, _, _, _, _], rfl, ?_⟩
        obtain ⟨v30, hv30, h⟩ := bnd' h
        refine e_bin ?_
        refine e_var rfl ?_
        refine e_var rfl ?_
        refine kk (mulO_ok hv30) ?_
        cases h
        exact ⟨rfl, rfl⟩
      refine kk avd_ow ?_
      refine e_ret ?_
      refine kk (sumE (xs := v31)) ?_
      refine ⟨rfl, rfl, ?_⟩
      refine t_nxN [_, _, _, _, _, _, _, _, _, _, _, _, _, _, _, _, _, _, _, _, _, _] rfl ?_
      obtain ⟨v33, hv33, h⟩ := bnd' h
      obtain ⟨v34, hv34, h⟩ := bnd' h
      obtain ⟨v35, hv35, h⟩ := bnd' h
      obtain ⟨v36, hv36, h⟩ := bnd' h
      obtain ⟨v37, hv37, h⟩ := bnd' h
      obtain ⟨v38, hv38, h⟩ := bnd' h
      refine u_seq ?_
      refine u_if ?_
      refine e_cmp ?_
      refine e_dOf ?_
      refine e_call ?_
      refine e_lcons ?_
      refine e_dOf ?_
      refine e_lstT (e := (eT2 eI eI)) (xs := [v33, v34]) rfl ?_
      refine e_lcons ?_
      refine e_dOf ?_
      refine e_fn ?_
      refine e_lcons ?_
      refine e_var rfl ?_
      refine e_lcons ?_
      refine e_var rfl ?_
      refine e_ret ?_
      refine e_ret ?_
      refine ⟨⟨rfl, rfl⟩, c_of (s_column_mean hv33) ⟨rfl, ?_⟩⟩
      refine kk avd_fz ?_
      refine e_lcons ?_
      refine e_dOf ?_
      refine e_fn ?_
      refine e_ret ?_
      refine e_lcons ?_
      refine e_var rfl ?_
      refine e_lcons ?_
      refine e_var rfl ?_
      refine e_ret ?_
      refine ⟨⟨rfl, rfl⟩, c_of (s_column_mean hv34) ⟨rfl, ?_⟩⟩
      refine kk avd_fz ?_
      refine e_ret ?_
      refine ⟨rfl, ?_⟩
      refine kk avd_ow ?_
      refine e_ret ?_
      refine kk (reprE hv35) ?_
      refine kk avd_fz ?_
      refine e_dOf ?_
      refine e_call ?_
      refine e_lcons ?_
      refine e_dOf ?_
      refine e_bin ?_
      refine e_dOf ?_
      refine e_lstT (e := (eT2 eI eI)) (xs := [v36]) rfl ?_
      refine e_lcons ?_
      refine e_ix rfl ?_
      refine e_neg ?_
      refine e_ret ?_
      refine kk rfl ?_
      refine ⟨_, rfl, _, ixV_O (e := (eT2 eI eI)) (xs := v27) hv36, ?_⟩
      refine e_ret ?_
      refine ⟨rfl, ?_⟩
      refine kk avd_ow ?_
      refine e_ret ?_
      refine kk (repL_ok (e := (eT2 eI eI)) hv37) ?_
      refine kk avd_ow ?_
      refine e_ret ?_
      refine kk (reprE hv38) ?_
      refine kk avd_fz ?_
      refine kk q_nes ?_
      refine ⟨fun hc => ?_, fun hc => ?_⟩
      · have h := ite_t h hc
        refine u_seq ?_
        refine u_ret ?_
        refine e_aOf ?_
        refine e_ret ?_
        repeat (with_reducible refine t_rt ?_)
        cases h
        exact lp_ret ⟨rfl, rfl⟩
      · have h := ite_f h hc
        refine u_nil ?_
        refine t_nxN [_, _, _, _, _, _, _, _, _, _, _, _, _, _, _, _, _, _, _, _, _, _] rfl ?_
        obtain ⟨v39, hv39, h⟩ := bnd' h
        obtain ⟨v40, hv40, h⟩ := bnd' h
        obtain ⟨v41, hv41, h⟩ := bnd' h
        obtain ⟨v42, hv42, h⟩ := bnd' h
        obtain ⟨v43, hv43, h⟩ := bnd' h
        obtain ⟨v44, hv44, h⟩ := bnd' h
        refine u_seq ?_
        refine u_if ?_
        refine e_cmp ?_
        refine e_dOf ?_
        refine e_call ?_
        refine e_lcons ?_
        refine e_dOf ?_
        refine e_lstT (e := eI) (xs := [v39, v40]) rfl ?_
        refine e_lcons ?_
        refine e_dOf ?_
        refine e_fn ?_
        refine e_lcons ?_
        refine e_var rfl ?_
        refine e_lcons ?_
        refine e_var rfl ?_
        refine e_ret ?_
        refine e_ret ?_
        refine ⟨⟨rfl, rfl⟩, c_of (s_answer_sum hv39) ⟨rfl, ?_⟩⟩
        refine kk avd_fz ?_
        refine e_lcons ?_
        refine e_dOf ?_
        refine e_fn ?_
        refine e_ret ?_
        refine e_lcons ?_
        refine e_var rfl ?_
        refine e_lcons ?_
        refine e_var rfl ?_
        refine e_ret ?_
        refine ⟨⟨rfl, rfl⟩, c_of (s_answer_sum hv40) ⟨rfl, ?_⟩⟩
        refine kk avd_fz ?_
        refine e_ret ?_
        refine ⟨rfl, ?_⟩
        refine kk avd_ow ?_
        refine e_ret ?_
        refine kk (reprE hv41) ?_
        refine kk avd_fz ?_
        refine e_dOf ?_
        refine e_call ?_
        refine e_lcons ?_
        refine e_dOf ?_
        refine e_bin ?_
        refine e_dOf ?_
        refine e_lstT (e := eI) (xs := [v42]) rfl ?_
        refine e_lcons ?_
        refine e_ix rfl ?_
        refine e_neg ?_
        refine e_ret ?_
        refine kk rfl ?_
        refine ⟨_, rfl, _, ixV_O (e := eI) (xs := v32) hv42, ?_⟩
        refine e_ret ?_
        refine ⟨rfl, ?_⟩
        refine kk avd_ow ?_
        refine e_ret ?_
        refine kk (repL_ok (e := eI) hv43) ?_
        refine kk avd_ow ?_
        refine e_ret ?_
        refine kk (reprE hv44) ?_
        refine kk avd_fz ?_
        refine kk q_nes ?_
        refine ⟨fun hc => ?_, fun hc => ?_⟩
        · have h := ite_t h hc
          refine u_seq ?_
          refine u_ret ?_
          refine e_aOf ?_
          refine e_ret ?_
          repeat (with_reducible refine t_rt ?_)
          cases h
          exact lp_ret ⟨rfl, rfl⟩
        · have h := ite_f h hc
          refine u_nil ?_
          refine t_nxN [_, _, _, _, _, _, _, _, _, _, _, _, _, _, _, _, _, _, _, _, _, _] rfl ?_
          obtain ⟨v45, hv45, h⟩ := bnd' h
          obtain ⟨o73, hl67, h⟩ := bnd' h
          refine u_seq ?_
          refine sp_forR (e := eI) hl67 (fun (s46, s47) δ => ∃ (j48 : Option PyData) (j49 : Option PyData), δ = [some (potA v3.2), some (.fz (eI ((1 : Int) + v1.1))), some (.fz ((eL (eT2 (eV eI) eI)) v2.1)), some (.ow (fzs ((v3.1).map (eT2 eI eI)))), some (.fz (eS v4)), some (.fz (eI (v2.1.length : Int))), some (.fz ((eL eI) v7)), some (.fz ((eT2 eI eI) v8)), some (.ow (fzs ((v27).map (eT2 eI eI)))), some (.odT (od2 eI s46)), some (.ow (fzs ((v32).map eI))), some (.fz (eI s47)), some (.fz ((eL eI) v25)), (j48.map AV.fz), (j49.map AV.fz), none, none, none, none, none, none, none]) (fun r a δ => a = .fz (eB r.1) ∧ outsOf true δ = some [potA r.2]) ?_ ?_ ?_
          · refine e_rng1 ?_
            refine e_var rfl ?_
            refine kk (rng1E hv45) ?_
            refine ⟨rfl, ?_⟩
            exact ⟨j19, j20, rfl⟩
          · rintro ⟨s46, s47⟩ x50 _ h δ ⟨j48, j49, rfl⟩
            try dsimp only at h
            refine ⟨[_, _, _, _, _, _, _, _, _, _, _, _, _, _, _, _, _, _, _, _, _, _], rfl, ?_⟩
            obtain ⟨v56, hv56, h⟩ := bnd' h
            obtain ⟨v57, hv57, h⟩ := bnd' h
            refine u_seq ?_
            refine u_putDT (e := eI) hv57 ?_
            refine e_dOf ?_
            refine e_call ?_
            refine e_lcons ?_
            refine e_dOf ?_
            refine e_frz [some (potA v3.2), some (.fz (eI ((1 : Int) + v1.1))), some (.fz ((eL (eT2 (eV eI) eI)) v2.1)), some (.ow (fzs ((v3.1).map (eT2 eI eI)))), some (.fz (eS v4)), some (.fz (eI (v2.1.length : Int))), some (.fz ((eL eI) v7)), some (.fz ((eT2 eI eI) v8)), some (.ow (fzs ((v27).map (eT2 eI eI)))), some (.odT (od2 eI s46)), some (.ow (fzs ((v32).map eI))), some (.fz (eI s47)), some (.fz ((eL eI) v25)), some (.fz (eI x50)), (j49.map AV.fz), none, none, none, none, none, none, none] (frz_cons rfl avd_fz frz_nil) ?_
            refine e_mpO (e := (eT2 (eV eI) eI)) (e' := eI) hv56 ?_
            refine e_seqT (v2.1.map (eT2 (eV eI) eI)) ?_
            refine e_var rfl ?_
            refine ⟨rfl, ?_⟩
            refine ⟨rfl, rfl, [_, _, _, _, _, _, _, _, _, _, _, _, _, _, _, _, _, _, _, _, _, _], rfl, [_, _, _, _, _, _, _, _, _, _, _, _, _, _, _, _, _, _, _, _, _, _], rfl, fun xx y _ h => ?_, ?_⟩
            · obtain ⟨x51, x52⟩ := xx
              refine ⟨[_, _, _, _, _, _, _, _, _, _, _, _, _, _, _, _, _, _, _, _, _, _], rfl, ?_⟩
              obtain ⟨v53, hv53, h⟩ := bnd' h
              obtain ⟨v54, hv54, h⟩ := bnd' h
              obtain ⟨v55, hv55, h⟩ := bnd' h
              refine e_bin ?_
              refine e_ix rfl ?_
              refine e_var rfl ?_
              refine ⟨_, rfl, _, ixV_V (e := eI) (xs := x51) hv53, ?_⟩
              refine e_ix rfl ?_
              refine e_var rfl ?_
              refine ⟨_, rfl, _, ixV_V (e := eI) (xs := x51) hv54, ?_⟩
              refine kk (mulO_ok hv55) ?_
              cases h
              exact ⟨rfl, rfl⟩
            refine kk avd_ow ?_
            refine e_ret ?_
            refine kk (sumE (xs := v56)) ?_
            refine kk avd_fz ?_
            refine ⟨rfl, ?_⟩
            refine e_lcons ?_
            refine e_var rfl ?_
            refine e_lcons ?_
            refine e_var rfl ?_
            refine e_ret ?_
            refine ⟨rfl, rfl, rfl, ?_⟩
            refine t_nxN [_, _, _, _, _, _, _, _, _, _, _, _, _, _, _, _, _, _, _, _, _, _] rfl ?_
            obtain ⟨v58, hv58, h⟩ := bnd' h
            refine u_seq ?_
            refine u_set ?_
            refine e_aOf ?_
            refine e_getDT (e := eI) hv58 rfl ?_
            refine e_lcons ?_
            refine e_var rfl ?_
            refine e_lcons ?_
            refine e_var rfl ?_
            refine e_ret ?_
            refine ⟨rfl, rfl, ?_⟩
            refine t_nxN [_, _, _, _, _, _, _, _, _, _, _, _, _, _, _, _, _, _, _, _, _, _] rfl ?_
            obtain ⟨v59, hv59, h⟩ := bnd' h
            obtain ⟨v60, hv60, h⟩ := bnd' h
            obtain ⟨v61, hv61, h⟩ := bnd' h
            obtain ⟨v62, hv62, h⟩ := bnd' h
            obtain ⟨v63, hv63, h⟩ := bnd' h
            obtain ⟨v64, hv64, h⟩ := bnd' h
            refine u_seq ?_
            refine u_if ?_
            refine e_cmp ?_
            refine e_dOf ?_
            refine e_call ?_
            refine e_lcons ?_
            refine e_dOf ?_
            refine e_lstT (e := eI) (xs := [v59, v60, v61]) rfl ?_
            refine e_lcons ?_
            refine e_dOf ?_
            refine e_fn ?_
            refine e_lcons ?_
            refine e_var rfl ?_
            refine e_lcons ?_
            refine e_var rfl ?_
            refine e_lcons ?_
            refine e_var rfl ?_
            refine e_ret ?_
            refine e_ret ?_
            refine ⟨⟨rfl, rfl⟩, c_of (s_product_sum hv59) ⟨rfl, ?_⟩⟩
            refine kk avd_fz ?_
            refine e_lcons ?_
            refine e_dOf ?_
            refine e_fn ?_
            refine e_ret ?_
            refine e_lcons ?_
            refine e_var rfl ?_
            refine e_lcons ?_
            refine e_var rfl ?_
            refine e_lcons ?_
            refine e_var rfl ?_
            refine e_ret ?_
            refine ⟨⟨rfl, rfl⟩, c_of (s_product_sum hv60) ⟨rfl, ?_⟩⟩
            refine kk avd_fz ?_
            refine e_lcons ?_
            refine e_dOf ?_
            refine e_fn ?_
            refine e_lcons ?_
            refine e_var rfl ?_
            refine e_lcons ?_
            refine e_var rfl ?_
            refine e_lcons ?_
            refine e_var rfl ?_
            refine e_ret ?_
            refine e_ret ?_
            refine ⟨⟨rfl, rfl⟩, c_of (s_product_sum hv61) ⟨rfl, ?_⟩⟩
            refine kk avd_fz ?_
            refine e_ret ?_
            refine ⟨rfl, ?_⟩
            refine kk avd_ow ?_
            refine e_ret ?_
            refine kk (reprE hv62) ?_
            refine kk avd_fz ?_
            refine e_dOf ?_
            refine e_call ?_
            refine e_lcons ?_
            refine e_dOf ?_
            refine e_bin ?_
            refine e_dOf ?_
            refine e_lstT (e := eI) (xs := [v58]) rfl ?_
            refine e_lcons ?_
            refine e_var rfl ?_
            refine e_ret ?_
            refine ⟨rfl, ?_⟩
            refine kk avd_ow ?_
            refine e_ret ?_
            refine kk (repL_ok (e := eI) hv63) ?_
            refine kk avd_ow ?_
            refine e_ret ?_
            refine kk (reprE hv64) ?_
            refine kk avd_fz ?_
            refine kk q_nes ?_
            refine ⟨fun hc => ?_, fun hc => ?_⟩
            · have h := ite_t h hc
              refine u_seq ?_
              refine u_ret ?_
              refine e_aOf ?_
              refine e_ret ?_
              repeat (with_reducible refine t_rt ?_)
              cases h
              exact lp_ret ⟨rfl, rfl⟩
            · have h := ite_f h hc
              refine u_nil ?_
              refine t_nxN [_, _, _, _, _, _, _, _, _, _, _, _, _, _, _, _, _, _, _, _, _, _] rfl ?_
              refine u_nil ?_
              cases h
              exact lp_go ⟨(some (eI x50)), (some (eI v58)), rfl⟩
          · cases o73 with
            | brk st => cases h
            | go st =>
              obtain ⟨v65, v66⟩ := st
              rintro δ ⟨j48, j49, rfl⟩
              try dsimp only at h
              refine t_nxN [_, _, _, _, _, _, _, _, _, _, _, _, _, _, _, _, _, _, _, _, _, _] rfl ?_
              obtain ⟨v68, hv68, h⟩ := bnd' h
              obtain ⟨v69, hv69, h⟩ := bnd' h
              obtain ⟨v70, hv70, h⟩ := bnd' h
              obtain ⟨v71, hv71, h⟩ := bnd' h
              obtain ⟨v72, hv72, h⟩ := bnd' h
              refine u_seq ?_
              refine u_if ?_
              refine e_tB ?_
              refine e_dOf ?_
              refine e_fn ?_
              refine e_lcons ?_
              refine e_tup ?_
              refine e_lcons ?_
              refine e_getDT (e := eI) hv68 rfl ?_
              refine e_lcons ?_
              refine e_var rfl ?_
              refine e_lcons ?_
              refine e_var rfl ?_
              refine e_ret ?_
              refine ⟨rfl, rfl, ?_⟩
              refine e_lcons ?_
              refine e_var rfl ?_
              refine e_ret ?_
              refine ⟨ll rfl, ?_⟩
              refine e_lcons ?_
              refine e_dOf ?_
              refine e_fn ?_
              refine e_lcons ?_
              refine e_ix rfl ?_
              refine e_var rfl ?_
              refine ⟨_, rfl, _, ixV_O (e := (eT2 eI eI)) (xs := v27) hv69, ?_⟩
              refine e_lcons ?_
              refine e_ix rfl ?_
              refine e_var rfl ?_
              refine ⟨_, rfl, _, ixV_O (e := (eT2 eI eI)) (xs := v27) hv70, ?_⟩
              refine e_ret ?_
              refine e_ret ?_
              refine ⟨⟨rfl, rfl⟩, c_of (s__law_times hv71) ⟨rfl, ?_⟩⟩
              refine kk avd_fz ?_
              refine e_ret ?_
              refine e_ret ?_
              refine ⟨⟨rfl, rfl⟩, c_of (s__law_below hv72) ⟨rfl, ?_⟩⟩
              refine kk avd_fz ?_
              refine ⟨_, rfl, ?_⟩
              refine ⟨fun hc => ?_, fun hc => ?_⟩
              · have h := ite_t h hc
                refine u_seq ?_
                refine u_ret ?_
                refine e_aOf ?_
                refine e_ret ?_
                repeat (with_reducible refine t_rt ?_)
                cases h
                exact lp_ret ⟨rfl, rfl⟩
              · have h := ite_f h hc
                refine u_nil ?_
                refine t_nxN [_, _, _, _, _, _, _, _, _, _, _, _, _, _, _, _, _, _, _, _, _, _] rfl ?_
                refine u_nil ?_
                cases h
                exact lp_go ⟨(some (eI v66)), (some ((eL eI) v25)), j48, j49, rfl⟩
            | ret r =>
              rintro a δ hR
              repeat (with_reducible refine t_rt ?_)
              cases h
              exact lp_ret hR
    · cases o117 with
      | brk st => cases h
      | go st =>
        obtain ⟨v74, v75, v76⟩ := st
        rintro δ ⟨j17, j18, j19, j20, rfl⟩
        try dsimp only at h
        refine t_nxN [_, _, _, _, _, _, _, _, _, _, _, _, _, _, _, _, _, _, _, _, _, _] rfl ?_
        obtain ⟨v80, hv80, h⟩ := bnd' h
        refine u_seq ?_
        refine u_set ?_
        refine e_aOf ?_
        refine e_tup ?_
        refine e_lcons ?_
        refine e_dOf ?_
        refine e_call ?_
        refine e_lcons ?_
        refine e_dOf ?_
        refine e_mpO (e := eI) (e' := eI) hv80 ?_
        refine e_seqT (v7.map eI) ?_
        refine e_var rfl ?_
        refine ⟨rfl, ?_⟩
        refine ⟨rfl, rfl, [_, _, _, _, _, _, _, _, _, _, _, _, _, _, _, _, _, _, _, _, _, _], rfl, [_, _, _, _, _, _, _, _, _, _, _, _, _, _, _, _, _, _, _, _, _, _], rfl, fun x78 y _ h => ?_, ?_⟩
        · refine ⟨[_, _, _, _, _, _, _, _, _, _, _, _, _, _, _, _, _, _, _, _, _, _], rfl, ?_⟩
          obtain ⟨v79, hv79, h⟩ := bnd' h
          refine e_bin ?_
          refine e_var rfl ?_
          refine e_var rfl ?_
          refine kk (mulO_ok hv79) ?_
          cases h
          exact ⟨rfl, rfl⟩
        refine kk avd_ow ?_
        refine e_ret ?_
        refine kk (sumE (xs := v80)) ?_
        refine kk avd_fz ?_
        refine e_lcons ?_
        refine e_ret ?_
        refine e_ret ?_
        refine ⟨ll rfl, ?_⟩
        refine t_nxN [_, _, _, _, _, _, _, _, _, _, _, _, _, _, _, _, _, _, _, _, _, _] rfl ?_
        obtain ⟨v81, hv81, h⟩ := bnd' h
        obtain ⟨v103, hl104, h⟩ := bnd' h
        refine u_seq ?_
        refine sp_forO (e := eI) hl104 (fun s82 δ => ∃ (j83 : Option PyData) (j84 : Option PyData), δ = [some (potA v3.2), some (.fz (eI ((1 : Int) + v1.1))), some (.fz ((eL (eT2 (eV eI) eI)) v2.1)), some (.ow (fzs ((v3.1).map (eT2 eI eI)))), some (.fz (eS v4)), some (.fz (eI (v2.1.length : Int))), some (.fz ((eL eI) v7)), some (.fz ((eT2 eI eI) v8)), some (.ow (fzs ((v74).map (eT2 eI eI)))), some (.odT (od2 eI v75)), some (.ow (fzs ((v76).map eI))), (j83.map AV.fz), (j18.map AV.fz), (j84.map AV.fz), (j20.map AV.fz), some (.fz ((eT2 eI eI) s82)), none, none, none, none, none, none]) ?_ ?_ ?_
        · refine e_rng1 ?_
          refine e_var rfl ?_
          refine kk (rng1E hv81) ?_
          refine ⟨rfl, ?_⟩
          exact ⟨j17, j19, rfl⟩
        · rintro s82 x85 _ h δ ⟨j83, j84, rfl⟩
          try dsimp only at h
          refine ⟨[_, _, _, _, _, _, _, _, _, _, _, _, _, _, _, _, _, _, _, _, _, _], rfl, ?_⟩
          obtain ⟨v86, hv86, h⟩ := bnd' h
          obtain ⟨v87, hv87, h⟩ := bnd' h
          obtain ⟨v88, hv88, h⟩ := bnd' h
          obtain ⟨v89, hv89, h⟩ := bnd' h
          obtain ⟨v90, hv90, h⟩ := bnd' h
          refine u_seq ?_
          refine u_set ?_
          refine e_fn ?_
          refine e_lcons ?_
          refine e_var rfl ?_
          refine e_lcons ?_
          refine e_dOf ?_
          refine e_fn ?_
          refine e_lcons ?_
          refine e_tup ?_
          refine e_lcons ?_
          refine e_dOf ?_
          refine e_bin ?_
          refine e_ret ?_
          refine e_ix rfl ?_
          refine e_var rfl ?_
          refine ⟨_, rfl, _, ixV_O (e := eI) (xs := v76) hv86, ?_⟩
          refine kk (mulO_ok hv87) ?_
          refine kk avd_fz ?_
          refine e_lcons ?_
          refine e_ret ?_
          refine e_ret ?_
          refine ⟨ll rfl, ?_⟩
          refine e_lcons ?_
          refine e_ix rfl ?_
          refine e_var rfl ?_
          refine ⟨_, rfl, _, ixV_O (e := (eT2 eI eI)) (xs := v3.1) hv88, ?_⟩
          refine e_ret ?_
          refine e_ret ?_
          refine ⟨⟨rfl, rfl⟩, c_of (s__law_times hv89) ⟨rfl, ?_⟩⟩
          refine kk avd_fz ?_
          refine e_ret ?_
          refine e_ret ?_
          refine ⟨⟨rfl, rfl⟩, c_of (s__law_less hv90) ⟨rfl, ?_⟩⟩
          refine t_nxN [_, _, _, _, _, _, _, _, _, _, _, _, _, _, _, _, _, _, _, _, _, _] rfl ?_
          obtain ⟨v91, hv91, h⟩ := bnd' h
          obtain ⟨v101, hl102, h⟩ := bnd' h
          refine u_seq ?_
          refine sp_forO (e := eI) hl102 (fun s92 δ => ∃ (j93 : Option PyData), δ = [some (potA v3.2), some (.fz (eI ((1 : Int) + v1.1))), some (.fz ((eL (eT2 (eV eI) eI)) v2.1)), some (.ow (fzs ((v3.1).map (eT2 eI eI)))), some (.fz (eS v4)), some (.fz (eI (v2.1.length : Int))), some (.fz ((eL eI) v7)), some (.fz ((eT2 eI eI) v8)), some (.ow (fzs ((v74).map (eT2 eI eI)))), some (.odT (od2 eI v75)), some (.ow (fzs ((v76).map eI))), some (.fz (eI x85)), (j18.map AV.fz), (j93.map AV.fz), (j20.map AV.fz), some (.fz ((eT2 eI eI) s92)), none, none, none, none, none, none]) ?_ ?_ ?_
          · refine e_rng1 ?_
            refine e_var rfl ?_
            refine kk (rng1E hv91) ?_
            refine ⟨rfl, ?_⟩
            exact ⟨j84, rfl⟩
          · rintro s92 x94 _ h δ ⟨j93, rfl⟩
            try dsimp only at h
            refine ⟨[_, _, _, _, _, _, _, _, _, _, _, _, _, _, _, _, _, _, _, _, _, _], rfl, ?_⟩
            obtain ⟨v95, hv95, h⟩ := bnd' h
            obtain ⟨v96, hv96, h⟩ := bnd' h
            obtain ⟨v97, hv97, h⟩ := bnd' h
            obtain ⟨v98, hv98, h⟩ := bnd' h
            obtain ⟨v99, hv99, h⟩ := bnd' h
            obtain ⟨v100, hv100, h⟩ := bnd' h
            refine u_seq ?_
            refine u_set ?_
            refine e_fn ?_
            refine e_lcons ?_
            refine e_var rfl ?_
            refine e_lcons ?_
            refine e_dOf ?_
            refine e_fn ?_
            refine e_lcons ?_
            refine e_tup ?_
            refine e_lcons ?_
            refine e_getDT (e := eI) hv95 rfl ?_
            refine e_lcons ?_
            refine e_var rfl ?_
            refine e_lcons ?_
            refine e_var rfl ?_
            refine e_ret ?_
            refine ⟨rfl, rfl, ?_⟩
            refine e_lcons ?_
            refine e_ret ?_
            refine e_ret ?_
            refine ⟨ll rfl, ?_⟩
            refine e_lcons ?_
            refine e_dOf ?_
            refine e_fn ?_
            refine e_lcons ?_
            refine e_ix rfl ?_
            refine e_var rfl ?_
            refine ⟨_, rfl, _, ixV_O (e := (eT2 eI eI)) (xs := v3.1) hv96, ?_⟩
            refine e_lcons ?_
            refine e_ix rfl ?_
            refine e_var rfl ?_
            refine ⟨_, rfl, _, ixV_O (e := (eT2 eI eI)) (xs := v3.1) hv97, ?_⟩
            refine e_ret ?_
            refine e_ret ?_
            refine ⟨⟨rfl, rfl⟩, c_of (s__law_times hv98) ⟨rfl, ?_⟩⟩
            refine kk avd_fz ?_
            refine e_ret ?_
            refine e_ret ?_
            refine ⟨⟨rfl, rfl⟩, c_of (s__law_times hv99) ⟨rfl, ?_⟩⟩
            refine kk avd_fz ?_
            refine e_ret ?_
            refine e_ret ?_
            refine ⟨⟨rfl, rfl⟩, c_of (s__law_plus hv100) ⟨rfl, ?_⟩⟩
            refine t_nxN [_, _, _, _, _, _, _, _, _, _, _, _, _, _, _, _, _, _, _, _, _, _] rfl ?_
            refine u_nil ?_
            cases h
            exact lp_go ⟨(some (eI x94)), rfl⟩
          · rintro δ ⟨j93, rfl⟩
            try dsimp only at h
            refine t_nxN [_, _, _, _, _, _, _, _, _, _, _, _, _, _, _, _, _, _, _, _, _, _] rfl ?_
            refine u_nil ?_
            cases h
            exact lp_go ⟨(some (eI x85)), j93, rfl⟩
        · rintro δ ⟨j83, j84, rfl⟩
          try dsimp only at h
          refine t_nxN [_, _, _, _, _, _, _, _, _, _, _, _, _, _, _, _, _, _, _, _, _, _] rfl ?_
          obtain ⟨v105, hv105, h⟩ := bnd' h
          refine u_seq ?_
          refine u_if ?_
          refine e_cmp ?_
          refine e_dOf ?_
          refine e_fn ?_
          refine e_lcons ?_
          refine e_var rfl ?_
          refine e_lcons ?_
          refine e_varN [_, _, _, _, _, _, _, _, _, _, _, _, _, _, _, _, _, _, _, _, _, _] rfl avd_ow rfl ?_
          refine e_ret ?_
          refine e_ret ?_
          refine ⟨⟨rfl, rfl⟩, c_of (s_squares hv105) ⟨rfl, ?_⟩⟩
          refine kk avd_fz ?_
          refine e_var rfl ?_
          refine kk (neX_ok (eq2_ok eqI_ok eqI_ok (dpx dpI (by decide)) (dpx dpI (by decide))) v105 v103) ?_
          refine ⟨fun hc => ?_, fun hc => ?_⟩
          · have h := ite_t h hc
            refine u_seq ?_
            refine u_ret ?_
            refine e_aOf ?_
            refine e_ret ?_
            repeat (with_reducible refine t_rt ?_)
            cases h
            refine n_rt rfl ?_
            exact ⟨rfl, rfl⟩
          · have h := ite_f h hc
            refine u_nil ?_
            refine t_nxN [_, _, _, _, _, _, _, _, _, _, _, _, _, _, _, _, _, _, _, _, _, _] rfl ?_
            obtain ⟨v109, hv109, h⟩ := bnd' h
            obtain ⟨v110, hv110, h⟩ := bnd' h
            refine u_seq ?_
            refine u_set ?_
            refine e_fn ?_
            refine e_lcons ?_
            refine e_dOf ?_
            refine e_mpO (e := (eT2 (eT2 eI eI) (eT2 eI eI))) (e' := (eT2 eI eI)) hv109 ?_
            refine e_zipT (e := (eT2 eI eI)) (e' := (eT2 eI eI)) v74 v3.1 ?_
            refine e_varN [_, _, _, _, _, _, _, _, _, _, _, _, _, _, _, _, _, _, _, _, _, _] rfl avd_ow rfl ?_
            refine ⟨rfl, ?_⟩
            refine e_var rfl ?_
            refine ⟨rfl, ?_⟩
            refine ⟨rfl, rfl, [_, _, _, _, _, _, _, _, _, _, _, _, _, _, _, _, _, _, _, _, _, _], rfl, [_, _, _, _, _, _, _, _, _, _, _, _, _, _, _, _, _, _, _, _, _, _], rfl, fun xx y _ h => ?_, ?_⟩
            · obtain ⟨x106, x107⟩ := xx
              refine ⟨[_, _, _, _, _, _, _, _, _, _, _, _, _, _, _, _, _, _, _, _, _, _], rfl, ?_⟩
              obtain ⟨v108, hv108, h⟩ := bnd' h
              refine e_fn ?_
              refine e_lcons ?_
              refine e_var rfl ?_
              refine e_lcons ?_
              refine e_var rfl ?_
              refine e_ret ?_
              refine e_ret ?_
              refine ⟨⟨rfl, rfl⟩, c_of (s__law_times hv108) ⟨rfl, ?_⟩⟩
              cases h
              exact ⟨rfl, rfl⟩
            refine kk avd_ow ?_
            refine e_ret ?_
            refine e_ret ?_
            refine ⟨⟨rfl, rfl⟩, c_of (s__law_total hv110) ⟨rfl, ?_⟩⟩
            refine t_nxN [_, _, _, _, _, _, _, _, _, _, _, _, _, _, _, _, _, _, _, _, _, _] rfl ?_
            obtain ⟨v111, hv111, h⟩ := bnd' h
            obtain ⟨v112, hv112, h⟩ := bnd' h
            obtain ⟨v113, hv113, h⟩ := bnd' h
            refine u_seq ?_
            refine u_set ?_
            refine e_fn ?_
            refine e_lcons ?_
            refine e_dOf ?_
            refine e_fn ?_
            refine e_lcons ?_
            refine e_dOf ?_
            refine e_fn ?_
            refine e_lcons ?_
            refine e_var rfl ?_
            refine e_lcons ?_
            refine e_var rfl ?_
            refine e_ret ?_
            refine e_ret ?_
            refine ⟨⟨rfl, rfl⟩, c_of (s_misses hv111) ⟨rfl, ?_⟩⟩
            refine kk avd_ow ?_
            refine e_ret ?_
            refine e_ret ?_
            refine ⟨⟨rfl, rfl⟩, c_of (s__law_total hv112) ⟨rfl, ?_⟩⟩
            refine kk avd_fz ?_
            refine e_lcons ?_
            refine e_tup ?_
            refine e_lcons ?_
            refine e_ret ?_
            refine e_lcons ?_
            refine e_var rfl ?_
            refine e_ret ?_
            refine ⟨ll rfl, ?_⟩
            refine e_ret ?_
            refine e_ret ?_
            refine ⟨⟨rfl, rfl⟩, c_of (s__law_times hv113) ⟨rfl, ?_⟩⟩
            refine t_nxN [_, _, _, _, _, _, _, _, _, _, _, _, _, _, _, _, _, _, _, _, _, _] rfl ?_
            obtain ⟨v114, hv114, h⟩ := bnd' h
            obtain ⟨v116, hv116, h⟩ := bnd' h
            refine u_seq ?_
            refine u_ret ?_
            refine e_aOf ?_
            refine ep_eqS (PyData.bool v116) ?_ ?_
            · refine e_andV ?_
              refine e_bl ?_
              refine e_cmp ?_
              refine e_var rfl ?_
              refine e_dOf ?_
              refine e_fn ?_
              refine e_lcons ?_
              refine e_var rfl ?_
              refine e_lcons ?_
              refine e_var rfl ?_
              refine e_ret ?_
              refine e_ret ?_
              refine ⟨⟨rfl, rfl⟩, c_of (s__law_less hv114) ⟨rfl, ?_⟩⟩
              refine kk avd_fz ?_
              refine kk (eqX_ok (eq2_ok eqI_ok eqI_ok (dpx dpI (by decide)) (dpx dpI (by decide))) v113 v114) ?_
              refine ⟨_, rfl, fun hc => ?_, fun hc => ?_⟩
              · have h := ite_t hv116 hc
                obtain ⟨v115, hv115, h⟩ := bnd' h
                refine e_bor [some (.fz (.list [.int v3.2.1, .int v3.2.2])), some (.fz (eI ((1 : Int) + v1.1))), some (.fz ((eL (eT2 (eV eI) eI)) v2.1)), some (.fz ((eL (eT2 eI eI)) v3.1)), some (.fz (eS v4)), some (.fz (eI (v2.1.length : Int))), some (.fz ((eL eI) v7)), some (.fz ((eT2 eI eI) v8)), some (.fz ((eL (eT2 eI eI)) v74)), none, some (.fz ((eL eI) v76)), (j83.map AV.fz), (j18.map AV.fz), some (.fz ((eT2 eI eI) v113)), (j20.map AV.fz), some (.fz ((eT2 eI eI) v103)), some (.fz ((eT2 eI eI) v110)), none, none, none, none, none] (hd_av ⟨rfl, rfl⟩ (hd_av avd_fz (hd_av avd_fz (hd_av avd_fz (hd_av avd_fz (hd_av avd_fz (hd_av avd_fz (hd_av avd_fz (hd_av avd_fz (hd_odT (hd_av avd_ow (hd_jf (hd_jf (hd_av avd_fz (hd_jf (hd_av avd_fz (hd_av avd_fz (hd_none (hd_none (hd_none (hd_none (hd_none hd_nil)))))))))))))))))))))) ?_
                refine e_bl ?_
                refine e_cmp ?_
                refine e_dOf ?_
                refine e_call ?_
                refine e_lcons ?_
                refine e_var rfl ?_
                refine e_ret ?_
                refine kk (reprE hv115) ?_
                refine kk avd_fz ?_
                refine e_var rfl ?_
                refine kk q_eqs ?_
                refine ⟨rfl, ?_⟩
                cases h
                exact ⟨rfl, rfl⟩
              · have h := ite_f hv116 hc
                cases h
                exact ⟨rfl, rfl⟩
            repeat (with_reducible refine t_rt ?_)
            cases h
            refine n_rt rfl ?_
            exact ⟨rfl, rfl⟩
      | ret r =>
        rintro a δ hR
        repeat (with_reducible refine t_rt ?_)
        cases h
        refine n_rt hR.2 ?_
        exact ⟨hR.1, rfl⟩
def f_law (script : List Int) : Option (Bool) := (rng1O (if (if (script.length : Int) < (2 : Int) then (script.length : Int) else (2 : Int)) > (1 : Int) then (if (script.length : Int) < (2 : Int) then (script.length : Int) else (2 : Int)) else (1 : Int))).bind fun v1 => (mpO (fun x2 => (potO m__law_pot script x2).bind fun v3 => (f__law_right v3).bind fun v4 => some v4.1) v1).bind fun v5 => some (v5.all id)
theorem s_law {script : List Int} {r : Bool} (h : f_law script = some r) : m_law [.sc script] = some (.fz (eB r), []) := by
  unfold f_law at h
  refine cp_eq ?_
  unfold m_law b_law
  refine c_def rfl ?_
  refine sp_normN [_, _] rfl ?_
  obtain ⟨v1, hv1, h⟩ := bnd' h
  obtain ⟨v5, hv5, h⟩ := bnd' h
  refine u_seq ?_
  refine u_ret ?_
  refine e_call ?_
  refine e_lcons ?_
  refine e_dOf ?_
  refine e_mpO (e := eI) (e' := eB) hv5 ?_
  refine e_rng1 ?_
  refine e_dOf ?_
  refine e_call ?_
  refine e_lcons ?_
  refine e_ret ?_
  refine e_lcons ?_
  refine e_dOf ?_
  refine e_call ?_
  refine e_lcons ?_
  refine e_ret ?_
  refine e_lcons ?_
  refine e_len rfl rfl ?_
  refine e_ret ?_
  refine kk rfl ?_
  refine kk avd_fz ?_
  refine e_ret ?_
  refine kk rfl ?_
  refine kk avd_fz ?_
  refine kk (rng1E hv1) ?_
  refine ⟨rfl, rfl, [_, _], rfl, [_, _], rfl, fun x2 y _ h => ?_, ?_⟩
  · refine ⟨[_, _], rfl, ?_⟩
    obtain ⟨v3, hv3, h⟩ := bnd' h
    obtain ⟨v4, hv4, h⟩ := bnd' h
    refine e_fnT ?_
    refine e_fnS rfl ?_
    refine e_lcons ?_
    refine e_var rfl ?_
    refine e_ret ?_
    refine ⟨rfl, c_of (potO_ok hv3) ⟨rfl, ?_⟩⟩
    refine e_ret ?_
    refine ⟨rfl, c_of (s__law_right hv4) ⟨⟨_, rfl⟩, ?_⟩⟩
    cases h
    exact ⟨rfl, rfl⟩
  refine kk avd_ow ?_
  refine e_ret ?_
  refine kk (allE (xs := v5)) ?_
  repeat (with_reducible refine t_rt ?_)
  cases h
  refine n_rt rfl ?_
  exact ⟨rfl, rfl⟩
end Lw

namespace Lw
open PySem PySem.Spec L2 Pv
open PyProof.Rows hiding St
theorem hDr : Draws m__law_draw := draw_ok (a := 40014) (c := 11593) (m1 := 2147483563) (m2 := 2147483549) (q := 19) (by decide) (by decide) (by decide) (by decide)
theorem hPot : Pots m__law_pot := pot_ok (a1 := 3631) (a2 := 2939) (m1 := 2147483549) (a3 := 40692) (a4 := 33403) (a5 := 2237) (m2 := 2147483563) (by decide) (by decide) (by decide) (by decide) (by decide) (by decide) (by decide)
theorem lim_eq : lim = 1000000 := rfl
theorem hCut : CutOk f__law_cut := cutN_ok
theorem hRed : CutOk f_reduced := redT_ok
section
variable {n m : Nat} {a b : Rat}
theorem plus_ok (ha : Sz n a) (hb : Sz m b) (hn : n ≤ 4000) (hm : m ≤ 4000) : f__law_plus (frP a) (frP b) = some (frP (a + b)) := add_ok hCut ha hb hn hm
theorem less_ok (ha : Sz n a) (hb : Sz m b) (hn : n ≤ 4000) (hm : m ≤ 4000) : f__law_less (frP a) (frP b) = some (frP (a - b)) := take_ok hCut ha hb hn hm
theorem times_ok (ha : Sz n a) (hb : Sz m b) (hn : n ≤ 4000) (hm : m ≤ 4000) : f__law_times (frP a) (frP b) = some (frP (a * b)) := times_ok' hCut ha hb hn hm
theorem padd_ok (ha : Sz n a) (hb : Sz m b) (hn : n ≤ 4000) (hm : m ≤ 4000) : f_add (frP a) (frP b) = some (frP (a + b)) := add_ok hRed ha hb hn hm
theorem ptake_ok (ha : Sz n a) (hb : Sz m b) (hn : n ≤ 4000) (hm : m ≤ 4000) : f_take (frP a) (frP b) = some (frP (a - b)) := take_ok hRed ha hb hn hm
theorem pmul_ok (ha : Sz n a) (hb : Sz m b) (hn : n ≤ 4000) (hm : m ≤ 4000) : f_multiply (frP a) (frP b) = some (frP (a * b)) := times_ok' hRed ha hb hn hm
end
theorem mulb {a b : Int} (ha : -99 ≤ a ∧ a ≤ 99) (hb : -99 ≤ b ∧ b ≤ 99) : -9801 ≤ a * b ∧ a * b ≤ 9801 := by
  have h := Int.natAbs_mul a b
  have h2 : a.natAbs * b.natAbs ≤ 99 * 99 := Nat.mul_le_mul (by omega) (by omega)
  omega
def gx (xs : List Int) (i : Nat) : Int := xs.getD i 0
theorem gx_get {xs : List Int} {i : Nat} (h : i < xs.length) : gx xs i = xs[i] := by
  unfold gx; rw [List.getD_eq_getElem?_getD, List.getElem?_eq_getElem h]; rfl
theorem gx_ok {xs : List Int} {i : Nat} (h : i < xs.length) : atI xs (i : Int) = some (gx xs i) := by rw [atI_natS h, gx_get h]
/-! ### tables -/
abbrev Row := List Int × Int
structure Tb (tb : List Row) (c : Nat) : Prop where
  l1 : 1 ≤ tb.length
  l8 : tb.length ≤ 8
  c1 : 1 ≤ c
  c3 : c ≤ 3
  len : ∀ r ∈ tb, r.1.length = c
  inp : ∀ r ∈ tb, ∀ x ∈ r.1, -99 ≤ x ∧ x ≤ 99
  ans : ∀ r ∈ tb, -99 ≤ r.2 ∧ r.2 ≤ 99
section
variable {tb : List Row} {c : Nat}
theorem Tb.gx (h : Tb tb c) {r : Row} (hr : r ∈ tb) {k : Nat} (hk : k < c) : -99 ≤ Lw.gx r.1 k ∧ Lw.gx r.1 k ≤ 99 := by
  have := h.len r hr
  rw [gx_get (by omega)]
  exact h.inp r hr _ (List.getElem_mem _)
theorem table_ok (h : Tb tb c) (k : Bool) : f_check_table k tb = some () := by
  have l1 := h.l1
  have l8 := h.l8
  have c1 := h.c1
  have c3 := h.c3
  have row : ∀ r ∈ tb, f_is_row_of r = some true := fun r hr => by
    have a := h.ans r hr
    have l := h.len r hr
    unfold f_is_row_of
    have e1 : ((!true) || ((!decide ((2 : Int) = (2 : Int))) || (!(isInB (eI r.2) ((0 : Int) - (999 : Int)) (999 : Int))))) = false := by
      have : isInB (eI r.2) ((0 : Int) - (999 : Int)) (999 : Int) = true := by show (decide _ && decide _) = true; simp; omega
      rw [this]; rfl
    have e2 : ((!true) || (!((decide ((1 : Int) ≤ (r.1.length : Int))) && (decide ((r.1.length : Int) ≤ (3 : Int)))))) = false := by simp; omega
    rw [if_neg (by rw [e1]; decide), if_neg (by rw [e2]; decide), mpO_ok (fun _ => true) (by rw [lim_eq]; omega) (fun x hx => ?_), Option.bind_some]
    · simp
    · have := h.inp r hr x hx
      show some (decide _ && decide _) = _
      simp; omega
  have tab : f_is_table_of k tb = some true := by
    unfold f_is_table_of
    have hls : isLs (eQ k (eT2 (eV eI) eI) tb) = true := by cases k <;> rfl
    rw [if_neg (by rw [hls]; decide), if_neg (by simp; omega), mpO_ok (fun _ => true) (by rw [lim_eq]; omega) (fun r hr => by rw [row r hr, Option.bind_some]), Option.bind_some, Option.bind_some, Option.bind_some, if_neg (by simp), mpO_ok (fun _ => true) (by rw [lim_eq]; omega) (fun r hr => ?_), Option.bind_some]
    · simp
    · have e0 : atI tb 0 = some (tb[0]'(by omega)) := atI_get (by decide) (by omega)
      rw [e0, Option.bind_some, h.len r hr, h.len _ (List.getElem_mem _)]
      simp
  unfold f_check_table
  rw [tab]; rfl
theorem cols_ok (h : Tb tb c) (k : Bool) : f_columns_of k tb = some (c : Int) := by
  have l1 := h.l1
  unfold f_columns_of
  have e0 : atI tb 0 = some (tb[0]'(by omega)) := atI_get (by decide) (by omega)
  rw [e0, Option.bind_some, h.len _ (List.getElem_mem _)]
theorem column_ok (h : Tb tb c) (k : Bool) {j : Nat} (hj : j < c) : f_check_column k tb (j : Int) = some () := by
  unfold f_check_column
  rw [cols_ok h, Option.bind_some, if_neg]
  have : isInB (eI (j : Int)) (0 : Int) ((c : Int) - (1 : Int)) = true := by show (decide ((0 : Int) ≤ (j : Int)) && decide ((j : Int) ≤ (c : Int) - 1)) = true; simp; omega
  rw [this]; decide
def inpL (tb : List Row) (j : Nat) : List Int := tb.map fun r => gx r.1 j
def ansL (tb : List Row) : List Int := tb.map fun r => r.2
theorem inputs_ok (h : Tb tb c) (k : Bool) {j : Nat} (hj : j < c) : f_inputs_of k tb (j : Int) = some (inpL tb j) ∧ mpO (fun ((x22, x23) : Row) => (atI x22 (j : Int)).bind fun v24 => some v24) tb = some (inpL tb j) := by
  have l8 := h.l8
  constructor
  · unfold f_inputs_of
    rw [mpO_ok (fun r : Row => gx r.1 j) (by rw [lim_eq]; omega) (fun r hr => by rw [gx_ok (by rw [h.len r hr]; exact hj), Option.bind_some]), Option.bind_some]; rfl
  · refine mpO_ok (fun r : Row => gx r.1 j) (by rw [lim_eq]; omega) fun r hr => ?_
    show Option.bind (atI r.1 (j : Int)) _ = _
    rw [gx_ok (by rw [h.len r hr]; exact hj), Option.bind_some]
theorem answers_ok (h : Tb tb c) (k : Bool) : f_answers_of k tb = some (ansL tb) ∧ mpO (fun ((x5, x6) : Row) => some x6) tb = some (ansL tb) := by
  have l8 := h.l8
  have : mpO (fun r : Row => some r.2) tb = some (ansL tb) := mpO_ok (fun r : Row => r.2) (by rw [lim_eq]; omega) fun r hr => rfl
  constructor
  · unfold f_answers_of
    rw [this, Option.bind_some]
  · exact this
/-! ### sums -/
theorem sum_le {N : Int} (hN : 0 ≤ N) : ∀ {l : List Int}, (∀ x ∈ l, -N ≤ x ∧ x ≤ N) → l.length ≤ 8 → -(8 * N) ≤ l.sum ∧ l.sum ≤ 8 * N := by
  have go : ∀ {l : List Int}, (∀ x ∈ l, -N ≤ x ∧ x ≤ N) → -((l.length : Int) * N) ≤ l.sum ∧ l.sum ≤ (l.length : Int) * N := by
    intro l
    induction l with
    | nil => intro _; simp
    | cons a l ih =>
      intro h
      have h1 := h a (by simp)
      have h2 := ih fun x hx => h x (by simp [hx])
      have e : (((a :: l).length : Nat) : Int) * N = (l.length : Int) * N + N := by simp; grind
      rw [e, List.sum_cons]
      omega
  intro l h hl
  have q := go h
  have : (l.length : Int) * N ≤ 8 * N := Int.mul_le_mul_of_nonneg_right (by omega) hN
  omega
def sX (tb : List Row) (j : Nat) : Int := (inpL tb j).sum
def sA (tb : List Row) : Int := (ansL tb).sum
def prX (tb : List Row) (j k : Nat) : Int := (tb.map fun r => gx r.1 j * gx r.1 k).sum
def prA (tb : List Row) (j : Nat) : Int := (tb.map fun r => gx r.1 j * r.2).sum
def prAA (tb : List Row) : Int := (tb.map fun r => r.2 * r.2).sum
theorem sX_le (h : Tb tb c) {j : Nat} (hj : j < c) : -792 ≤ sX tb j ∧ sX tb j ≤ 792 := by
  have := sum_le (N := 99) (by decide) (l := inpL tb j) (fun x hx => by obtain ⟨r, hr, rfl⟩ := List.mem_map.mp hx; exact h.gx hr hj) (by unfold inpL; rw [List.length_map]; exact h.l8)
  unfold sX; omega
theorem sA_le (h : Tb tb c) : -792 ≤ sA tb ∧ sA tb ≤ 792 := by
  have := sum_le (N := 99) (by decide) (l := ansL tb) (fun x hx => by obtain ⟨r, hr, rfl⟩ := List.mem_map.mp hx; exact h.ans r hr) (by unfold ansL; rw [List.length_map]; exact h.l8)
  unfold sA; omega
theorem prX_le (h : Tb tb c) {j k : Nat} (hj : j < c) (hk : k < c) : -78408 ≤ prX tb j k ∧ prX tb j k ≤ 78408 := by
  have := sum_le (N := 9801) (by decide) (l := tb.map fun r => gx r.1 j * gx r.1 k) (fun x hx => by obtain ⟨r, hr, rfl⟩ := List.mem_map.mp hx; exact mulb (h.gx hr hj) (h.gx hr hk)) (by rw [List.length_map]; exact h.l8)
  unfold prX; omega
theorem prA_le (h : Tb tb c) {j : Nat} (hj : j < c) : -78408 ≤ prA tb j ∧ prA tb j ≤ 78408 := by
  have := sum_le (N := 9801) (by decide) (l := tb.map fun r => gx r.1 j * r.2) (fun x hx => by obtain ⟨r, hr, rfl⟩ := List.mem_map.mp hx; exact mulb (h.gx hr hj) (h.ans r hr)) (by rw [List.length_map]; exact h.l8)
  unfold prA; omega
theorem prAA_le (h : Tb tb c) : -78408 ≤ prAA tb ∧ prAA tb ≤ 78408 := by
  have := sum_le (N := 9801) (by decide) (l := tb.map fun r => r.2 * r.2) (fun x hx => by obtain ⟨r, hr, rfl⟩ := List.mem_map.mp hx; exact mulb (h.ans r hr) (h.ans r hr)) (by rw [List.length_map]; exact h.l8)
  unfold prAA; omega
theorem prX_comm (j k : Nat) : prX tb j k = prX tb k j := by
  unfold prX
  congr 1
  exact List.map_congr_left fun r _ => Int.mul_comm _ _
theorem mulo (h : Tb tb c) {x y : Int} (hx : -99 ≤ x ∧ x ≤ 99) (hy : -99 ≤ y ∧ y ≤ 99) : mulI x y = some (x * y) := mulI_sm (by omega) (by omega)
theorem prods_ok (h : Tb tb c) {j k : Nat} (hj : j < c) (hk : k < c) : mpO (fun ((x6, x7) : Int × Int) => (mulI x6 x7).bind fun v8 => some v8) ((inpL tb j).zip (inpL tb k)) = some (tb.map fun r => gx r.1 j * gx r.1 k) := by
  have l8 := h.l8
  unfold inpL
  rw [List.zip_map', mpO_map]
  refine mpO_ok (fun r : Row => gx r.1 j * gx r.1 k) (by rw [lim_eq]; omega) fun r hr => ?_
  show Option.bind (mulI (gx r.1 j) (gx r.1 k)) _ = _
  rw [mulo h (h.gx hr hj) (h.gx hr hk), Option.bind_some]
theorem prodA_ok (h : Tb tb c) {j : Nat} (hj : j < c) : mpO (fun ((x6, x7) : Int × Int) => (mulI x6 x7).bind fun v8 => some v8) ((inpL tb j).zip (ansL tb)) = some (tb.map fun r => gx r.1 j * r.2) := by
  have l8 := h.l8
  unfold inpL ansL
  rw [List.zip_map', mpO_map]
  refine mpO_ok (fun r : Row => gx r.1 j * r.2) (by rw [lim_eq]; omega) fun r hr => ?_
  show Option.bind (mulI (gx r.1 j) r.2) _ = _
  rw [mulo h (h.gx hr hj) (h.ans r hr), Option.bind_some]
theorem prodsR_ok (h : Tb tb c) {j k : Nat} (hj : j < c) (hk : k < c) : mpO (fun ((x51, x52) : Row) => (atI x51 (j : Int)).bind fun v53 => (atI x51 (k : Int)).bind fun v54 => (mulI v53 v54).bind fun v55 => some v55) tb = some (tb.map fun r => gx r.1 j * gx r.1 k) := by
  have l8 := h.l8
  refine mpO_ok (fun r : Row => gx r.1 j * gx r.1 k) (by rw [lim_eq]; omega) fun r hr => ?_
  show Option.bind (atI r.1 (j : Int)) _ = _
  rw [gx_ok (by rw [h.len r hr]; exact hj), Option.bind_some, gx_ok (by rw [h.len r hr]; exact hk), Option.bind_some, mulo h (h.gx hr hj) (h.gx hr hk), Option.bind_some]
theorem prodAA_ok (h : Tb tb c) : mpO (fun x78 => (mulI x78 x78).bind fun v79 => some v79) (ansL tb) = some (tb.map fun r => r.2 * r.2) := by
  have l8 := h.l8
  unfold ansL
  rw [mpO_map]
  refine mpO_ok (fun r : Row => r.2 * r.2) (by rw [lim_eq]; omega) fun r hr => ?_
  rw [mulo h (h.ans r hr) (h.ans r hr), Option.bind_some]
/-- a mean -/
def mn (s : Int) (n : Nat) : Rat := (s : Rat) / ((n : Int) : Rat)
theorem mn_ok (h : Tb tb c) {s : Int} (hs : -792 ≤ s ∧ s ≤ 792) : f__law_cut s (tb.length : Int) = some (frP (mn s tb.length)) ∧ f_reduced s (tb.length : Int) = some (frP (mn s tb.length)) ∧ Sz 10 (mn s tb.length) := by
  have l1 := h.l1
  have l8 := h.l8
  have nz : (tb.length : Int) ≠ 0 := by omega
  have b1 : Bt 10 (tb.length : Int) := by unfold Bt; omega
  exact ⟨hCut _ _ 10 nz b1 (by decide), hRed _ _ 10 nz b1 (by decide), Sz.frac nz (by unfold Bt; omega) b1⟩
theorem ameans_ok (h : Tb tb c) (k : Bool) : f_answer_mean k tb = some (frP (mn (sA tb) tb.length)) := by
  unfold f_answer_mean
  rw [table_ok h, Option.bind_some, (answers_ok h k).1, Option.bind_some]
  show Option.bind (f_reduced (sA tb) (tb.length : Int)) _ = _
  rw [(mn_ok h (sA_le h)).2.1, Option.bind_some]
theorem cmean_ok (h : Tb tb c) (k : Bool) {j : Nat} (hj : j < c) : f_column_mean k tb (j : Int) = some (frP (mn (sX tb j) tb.length)) := by
  unfold f_column_mean
  rw [table_ok h, Option.bind_some, column_ok h k hj, Option.bind_some, (inputs_ok h k hj).1, Option.bind_some]
  show Option.bind (f_reduced (sX tb j) (tb.length : Int)) _ = _
  rw [(mn_ok h (sX_le h hj)).2.1, Option.bind_some]
theorem asum_ok (h : Tb tb c) (k : Bool) {j : Nat} (hj : j < c) : f_answer_sum k tb (j : Int) = some (prA tb j) := by
  unfold f_answer_sum
  rw [table_ok h, Option.bind_some, column_ok h k hj, Option.bind_some, (inputs_ok h k hj).1, Option.bind_some, (answers_ok h k).1, Option.bind_some, prodA_ok h hj, Option.bind_some]; rfl
theorem psum_ok (h : Tb tb c) (k : Bool) {i j : Nat} (hi : i < c) (hj : j < c) : f_product_sum k tb (i : Int) (j : Int) = some (prX tb i j) := by
  unfold f_product_sum
  rw [table_ok h, Option.bind_some, column_ok h k hi, Option.bind_some, column_ok h k hj, Option.bind_some, (inputs_ok h k hi).1, Option.bind_some, (inputs_ok h k hj).1, Option.bind_some, prods_ok h hi hj, Option.bind_some]; rfl
/-! ### no mean's square is greater than the mean of squares -/
theorem near_sq (a : Int) : ∀ l : List Int, 2 * a * l.sum ≤ (l.length : Int) * (a * a) + (l.map fun x => x * x).sum
  | [] => by simp
  | x :: l => by
    have ih := near_sq a l
    have sq : 0 ≤ (a - x) * (a - x) := by
      rcases Int.le_total 0 (a - x) with q | q
      · exact Int.mul_nonneg q q
      · exact Int.mul_nonneg_of_nonpos_of_nonpos q q
    simp only [List.sum_cons, List.map_cons, List.length_cons]
    push_cast
    grind
theorem cauchy : ∀ l : List Int, l.sum * l.sum ≤ (l.length : Int) * (l.map fun x => x * x).sum
  | [] => by simp
  | a :: l => by
    have ih := cauchy l
    have q := near_sq a l
    simp only [List.sum_cons, List.map_cons, List.length_cons]
    push_cast
    grind
theorem prX_sq (j : Nat) : sX tb j * sX tb j ≤ (tb.length : Int) * prX tb j j := by
  have := cauchy (inpL tb j)
  have e1 : (inpL tb j).length = tb.length := by unfold inpL; simp
  have e2 : ((inpL tb j).map fun x => x * x) = tb.map fun r => gx r.1 j * gx r.1 j := by unfold inpL; rw [List.map_map]; rfl
  rw [e1, e2] at this
  exact this
end
end Lw

namespace Lw
open PySem PySem.Spec L2 Pv
open PyProof.Rows hiding St
structure Ru (R : List Rat) (c : Nat) : Prop where
  len : R.length = c
  sz : ∀ q ∈ R, Sz 5 q
section
variable {tb : List Row} {c : Nat} {R : List Rat}
theorem short_ok {q : Rat} (h : Sz 5 q) : f_is_short (frP q) = some true := by
  unfold f_is_short
  have e1 : isFr (eT2 eI eI (frP q)) = true := isFr_frP q
  have h1 := bt_abs h.1
  have h2 := h.2
  unfold Bt at h1 h2
  have c1 : decide (absI (frP q).1 < 1000000000000) = true := by simp; omega
  have c2 : decide ((frP q).2 < 1000000000000) = true := by simp; omega
  rw [e1, c1, c2]; rfl
theorem rule_ok (h : Tb tb c) (r : Ru R c) : f_check_told false false tb (R.map frP) = some () := by
  have c3 := h.c3
  have rl := r.len
  have c0 : f_is_rule_of false false tb (R.map frP) = some true := by
    unfold f_is_rule_of
    have hls : isLs (eQ false (eT2 eI eI) (R.map frP)) = true := rfl
    rw [if_pos hls, cols_ok h, Option.bind_some, if_pos (by rw [List.length_map, rl]; simp), mpO_ok (fun _ => true) (by rw [lim_eq, List.length_map]; omega) (fun p hp => ?_), Option.bind_some, Option.bind_some, Option.bind_some]
    · simp
    · obtain ⟨q, _, rfl⟩ := List.mem_map.mp hp
      exact congrArg some (isFr_frP q)
  have c1 : f_check_rule false false tb (R.map frP) = some () := by
    unfold f_check_rule
    rw [c0, Option.bind_some, if_neg (by decide), mpO_ok (fun _ => true) (by rw [lim_eq, List.length_map]; omega) (fun p hp => ?_), Option.bind_some, Option.bind_some, if_neg (by simp)]
    obtain ⟨q, hq, rfl⟩ := List.mem_map.mp hp
    rw [short_ok (r.sz q hq), Option.bind_some]
  unfold f_check_told
  rw [table_ok h, Option.bind_some, c1, Option.bind_some]
/-! ### what a rule tells -/
def tl : List (Int × Rat) → Rat
  | [] => 0
  | p :: l => ((p.1 : Int) : Rat) * p.2 + tl l
theorem told_fold : ∀ (L : List (Int × Rat)) {s : Rat} {N : Nat}, Sz N s → (∀ p ∈ L, Sz 10 ((p.1 : Int) : Rat) ∧ Sz 5 p.2) → N + L.length * 16 ≤ 4000 →
    forO (fun s1 ((x4, x5) : Int × (Int × Int)) => (f_multiply (x4, (1 : Int)) x5).bind fun v6 => (f_add s1 v6).bind fun v7 => some v7) (L.map fun p => (p.1, frP p.2)) (frP s) = some (frP (s + tl L)) ∧ Sz (N + L.length * 16) (s + tl L)
  | [], s, N, hs, _, _ => ⟨by show some (frP s) = some (frP (s + 0)); rw [show s + 0 = s by grind], by show Sz _ (s + 0); rw [show s + 0 = s by grind]; simpa using hs⟩
  | p :: L, s, N, hs, hp, hl => by
    have hl' : N + (L.length + 1) * 16 ≤ 4000 := by rw [List.length_cons] at hl; exact hl
    obtain ⟨p1, p2⟩ := hp p (by simp)
    have e1 : (p.1, (1 : Int)) = frP ((p.1 : Int) : Rat) := (frP_int _).symm
    obtain ⟨e, z⟩ := told_fold L (s := s + ((p.1 : Int) : Rat) * p.2) (N := N + 16) (hs.add (p1.mul p2)) (fun x hx => hp x (by simp [hx])) (by omega)
    have es : s + ((p.1 : Int) : Rat) * p.2 + tl L = s + tl (p :: L) := by show _ = s + (((p.1 : Int) : Rat) * p.2 + tl L); grind
    rw [es] at e z
    refine ⟨?_, ?_⟩
    · show Option.bind (Option.bind (f_multiply (p.1, 1) (frP p.2)) _) _ = _
      rw [e1, pmul_ok p1 p2 (by decide) (by decide), Option.bind_some, padd_ok hs (p1.mul p2) (by omega) (by decide), Option.bind_some, Option.bind_some]
      exact e
    · rw [List.length_cons]
      have : N + (L.length + 1) * 16 = N + 16 + L.length * 16 := by omega
      rw [this]; exact z
def told (r : Row) (R : List Rat) : Rat := tl (r.1.zip R)
theorem told_ok (h : Tb tb c) (ru : Ru R c) {r : Row} (hr : r ∈ tb) (k : Bool) : f_told_by true k r.1 (R.map frP) = some (frP (told r R)) ∧ Sz 49 (told r R) := by
  have c3 := h.c3
  have len : (r.1.zip R).length = c := by rw [List.length_zip, h.len r hr, ru.len]; simp
  obtain ⟨e, z⟩ := told_fold (r.1.zip R) (s := 0) (N := 1) Sz.zero (fun p hp => by
    have m := List.of_mem_zip (a := p.1) (b := p.2) hp
    exact ⟨Sz.small (by have := h.inp r hr _ m.1; omega), ru.sz _ m.2⟩) (by rw [len]; omega)
  have e0 : (0 : Rat) + tl (r.1.zip R) = told r R := by unfold told; grind
  rw [e0] at e z
  refine ⟨?_, z.mono (by rw [len]; omega)⟩
  unfold f_told_by
  rw [List.zip_map_right]
  rw [frP_zero] at e
  show Option.bind (forO _ ((r.1.zip R).map fun p => (p.1, frP p.2)) _) _ = _
  rw [e, Option.bind_some]
def mis (r : Row) (R : List Rat) : Rat := ((r.2 : Int) : Rat) - told r R
theorem mis_sz (h : Tb tb c) (ru : Ru R c) {r : Row} (hr : r ∈ tb) : Sz 60 (mis r R) := (Sz.small (i := r.2) (by have := h.ans r hr; omega)).sub (told_ok h ru hr false).2
theorem misses_ok (h : Tb tb c) (ru : Ru R c) : f_misses_of false false tb (R.map frP) = some ((tb.map fun r => mis r R).map frP) := by
  have l8 := h.l8
  unfold f_misses_of
  have m1 : mpO (fun ((x1, x2) : Row) => (f_told_by true false x1 (R.map frP)).bind fun v3 => (f_take (x2, (1 : Int)) v3).bind fun v4 => some v4) tb = some (tb.map fun r => frP (mis r R)) := by
    refine mpO_ok (fun r : Row => frP (mis r R)) (by rw [lim_eq]; omega) fun r hr => ?_
    obtain ⟨e, z⟩ := told_ok h ru hr false
    have e1 : (r.2, (1 : Int)) = frP ((r.2 : Int) : Rat) := (frP_int _).symm
    show Option.bind (f_told_by true false r.1 (R.map frP)) _ = _
    rw [e, Option.bind_some, e1, ptake_ok (Sz.small (i := r.2) (by have := h.ans r hr; omega)) z (by decide) (by decide), Option.bind_some]; rfl
  rw [m1, Option.bind_some, List.map_map]; rfl
/-- sums -/
def tot : List Rat → Rat
  | [] => 0
  | q :: l => q + tot l
theorem fold_add {g : Int × Int → Int × Int → Option (Int × Int)} (hg : ∀ {a b : Rat} {n m : Nat}, Sz n a → Sz m b → n ≤ 4000 → m ≤ 4000 → g (frP a) (frP b) = some (frP (a + b))) {m : Nat} (hm : m ≤ 200) : ∀ (qs : List Rat) {s : Rat} {N : Nat}, Sz N s → (∀ q ∈ qs, Sz m q) → N + qs.length * (m + 1) ≤ 4000 →
    forO (fun s1 x3 => (g s1 x3).bind fun v4 => some v4) (qs.map frP) (frP s) = some (frP (s + tot qs)) ∧ Sz (N + qs.length * (m + 1)) (s + tot qs)
  | [], s, N, hs, _, _ => ⟨by show some (frP s) = some (frP (s + 0)); rw [show s + 0 = s by grind], by show Sz _ (s + 0); rw [show s + 0 = s by grind]; simpa using hs⟩
  | q :: qs, s, N, hs, hq, hl => by
    have hl' : N + (qs.length * (m + 1) + (m + 1)) ≤ 4000 := by rw [List.length_cons, Nat.succ_mul] at hl; exact hl
    have hq1 := hq q (by simp)
    obtain ⟨e, z⟩ := fold_add hg hm qs (s := s + q) (N := N + m + 1) (hs.add hq1) (fun x hx => hq x (by simp [hx])) (by omega)
    have es : s + q + tot qs = s + tot (q :: qs) := by show _ = s + (q + tot qs); grind
    rw [es] at e z
    refine ⟨?_, ?_⟩
    · show Option.bind (Option.bind (g (frP s) (frP q)) _) _ = _
      rw [hg hs hq1 (by omega) (by omega), Option.bind_some, Option.bind_some]
      exact e
    · rw [List.length_cons, Nat.succ_mul]
      have : N + (qs.length * (m + 1) + (m + 1)) = N + m + 1 + qs.length * (m + 1) := by omega
      rw [this]
      exact z
theorem total_of {g : Int × Int → Int × Int → Option (Int × Int)} (hg : ∀ {a b : Rat} {n m : Nat}, Sz n a → Sz m b → n ≤ 4000 → m ≤ 4000 → g (frP a) (frP b) = some (frP (a + b))) {m : Nat} (hm : m ≤ 200) {qs : List Rat} (hl : qs.length ≤ 8) (hq : ∀ q ∈ qs, Sz m q) :
    (forO (fun s1 x3 => (g s1 x3).bind fun v4 => some v4) (qs.map frP) ((0 : Int), (1 : Int))).bind (fun v5 => some v5) = some (frP (tot qs)) ∧ Sz (1 + 8 * (m + 1)) (tot qs) := by
  have l2 : qs.length * (m + 1) ≤ 8 * (m + 1) := Nat.mul_le_mul_right _ hl
  obtain ⟨e, z⟩ := fold_add hg hm qs (s := 0) (N := 1) Sz.zero hq (by omega)
  have e0 : (0 : Rat) + tot qs = tot qs := by grind
  rw [e0] at e z
  refine ⟨?_, z.mono (by omega)⟩
  rw [← frP_zero, e, Option.bind_some]
def sqT (tb : List Row) (R : List Rat) : Rat := tot (tb.map fun r => mis r R * mis r R)
theorem squares_ok (h : Tb tb c) (ru : Ru R c) : f_squares false false tb (R.map frP) = some (frP (sqT tb R)) := by
  have l8 := h.l8
  unfold f_squares f_squares_by
  rw [rule_ok h ru, Option.bind_some, misses_ok h ru, Option.bind_some, mpO_map, mpO_map, mpO_ok (fun r : Row => frP (mis r R * mis r R)) (by rw [lim_eq]; omega) (fun r hr => by
    have z := mis_sz h ru hr
    rw [pmul_ok z z (by decide) (by decide), Option.bind_some]), Option.bind_some]
  have e : (tb.map fun r : Row => frP (mis r R * mis r R)) = (tb.map fun r : Row => mis r R * mis r R).map frP := by rw [List.map_map]; rfl
  rw [e]
  have q := (total_of (g := f_add) (fun a b c d => padd_ok a b c d) (m := 120) (by decide) (qs := tb.map fun r => mis r R * mis r R) (by rw [List.length_map]; exact l8) (fun q hq => by
    obtain ⟨r, hr, rfl⟩ := List.mem_map.mp hq
    exact (mis_sz h ru hr).mul (mis_sz h ru hr))).1
  show Option.bind (Option.bind (f_total false _) _) _ = _
  have : f_total false ((tb.map fun r : Row => mis r R * mis r R).map frP) = some (frP (sqT tb R)) := q
  rw [this, Option.bind_some, Option.bind_some]
theorem missesT_ok (h : Tb tb c) (ru : Ru R c) : f_misses false false tb (R.map frP) = some ((tb.map fun r => mis r R).map frP) := by
  unfold f_misses
  rw [rule_ok h ru, Option.bind_some, misses_ok h ru, Option.bind_some]
def msT (tb : List Row) (R : List Rat) : Rat := tot (tb.map fun r => mis r R)
theorem mtotal_ok (h : Tb tb c) (ru : Ru R c) : f__law_total ((tb.map fun r => mis r R).map frP) = some (frP (msT tb R)) ∧ Sz 500 (msT tb R) := by
  obtain ⟨e, z⟩ := total_of (g := f__law_plus) (fun a b c d => plus_ok a b c d) (m := 60) (by decide) (qs := tb.map fun r => mis r R) (by rw [List.length_map]; exact h.l8) (fun q hq => by
    obtain ⟨r, hr, rfl⟩ := List.mem_map.mp hq
    exact mis_sz h ru hr)
  exact ⟨e, z.mono (by decide)⟩
/-! ### the plain laws -/
def rt (R : List Rat) (k : Nat) : Rat := R.getD k 0
/-- sums over columns -/
def sm (g : Nat → Rat) : Nat → Rat
  | 0 => 0
  | n + 1 => sm g n + g n
theorem told_sm (h : Tb tb c) (ru : Ru R c) {r : Row} (hr : r ∈ tb) : told r R = sm (fun k => ((gx r.1 k : Int) : Rat) * rt R k) c := by
  have l := h.len r hr
  have rl := ru.len
  have c1 := h.c1
  have c3 := h.c3
  obtain ⟨xs, a⟩ := r
  unfold told
  have l : xs.length = c := l
  have hc : c = 1 ∨ c = 2 ∨ c = 3 := by omega
  rcases hc with rfl | rfl | rfl
  · match xs, l, R, rl with
    | [x], _, [q], _ => show (x : Rat) * q + 0 = 0 + ((x : Int) : Rat) * q; grind
  · match xs, l, R, rl with
    | [x, y], _, [q, p], _ => show (x : Rat) * q + ((y : Rat) * p + 0) = 0 + ((x : Int) : Rat) * q + ((y : Int) : Rat) * p; grind
  · match xs, l, R, rl with
    | [x, y, z], _, [q, p, s], _ => show (x : Rat) * q + ((y : Rat) * p + ((z : Rat) * s + 0)) = 0 + ((x : Int) : Rat) * q + ((y : Int) : Rat) * p + ((z : Int) : Rat) * s; grind
/-- the squares by product sums -/
def sqF (tb : List Row) (R : List Rat) (c : Nat) : Rat := ((prAA tb : Int) : Rat) + sm (fun k => sm (fun l => ((prX tb k l : Int) : Rat) * (rt R k * rt R l)) c - ((2 * prA tb k : Int) : Rat) * rt R k) c
theorem cons_AA (r : Row) (tb : List Row) : ((prAA (r :: tb) : Int) : Rat) = ((r.2 : Int) : Rat) * ((r.2 : Int) : Rat) + ((prAA tb : Int) : Rat) := by
  unfold prAA; rw [List.map_cons, List.sum_cons]; push_cast; rfl
theorem cons_X (r : Row) (tb : List Row) (j k : Nat) : ((prX (r :: tb) j k : Int) : Rat) = ((gx r.1 j : Int) : Rat) * ((gx r.1 k : Int) : Rat) + ((prX tb j k : Int) : Rat) := by
  unfold prX; rw [List.map_cons, List.sum_cons]; push_cast; rfl
theorem cons_A (r : Row) (tb : List Row) (j : Nat) : ((prA (r :: tb) j : Int) : Rat) = ((gx r.1 j : Int) : Rat) * ((r.2 : Int) : Rat) + ((prA tb j : Int) : Rat) := by
  unfold prA; rw [List.map_cons, List.sum_cons]; push_cast; rfl
theorem cons_sA (r : Row) (tb : List Row) : ((sA (r :: tb) : Int) : Rat) = ((r.2 : Int) : Rat) + ((sA tb : Int) : Rat) := by
  unfold sA ansL; rw [List.map_cons, List.sum_cons]; push_cast; rfl
theorem cons_sX (r : Row) (tb : List Row) (j : Nat) : ((sX (r :: tb) j : Int) : Rat) = ((gx r.1 j : Int) : Rat) + ((sX tb j : Int) : Rat) := by
  unfold sX inpL; rw [List.map_cons, List.sum_cons]; push_cast; rfl
theorem squares_law (c : Nat) (hc : c = 1 ∨ c = 2 ∨ c = 3) : ∀ tb : List Row, tot (tb.map fun r => (((r.2 : Int) : Rat) - sm (fun k => ((gx r.1 k : Int) : Rat) * rt R k) c) * (((r.2 : Int) : Rat) - sm (fun k => ((gx r.1 k : Int) : Rat) * rt R k) c)) = sqF tb R c
  | [] => by
    unfold sqF
    have z : ∀ j k, ((prX [] j k : Int) : Rat) = 0 := fun _ _ => rfl
    have z2 : ∀ k, ((2 * prA [] k : Int) : Rat) = 0 := fun _ => rfl
    have z3 : ((prAA [] : Int) : Rat) = 0 := rfl
    simp only [z, z2, z3]
    show (0 : Rat) = _
    rcases hc with rfl | rfl | rfl <;> simp only [sm] <;> grind
  | r :: tb => by
    have ih := squares_law c hc tb
    rw [List.map_cons]
    show _ * _ + tot _ = _
    rw [ih]
    unfold sqF
    have e2 : ∀ k (t : List Row), ((2 * prA t k : Int) : Rat) = 2 * ((prA t k : Int) : Rat) := fun k t => by push_cast; rfl
    simp only [cons_AA, cons_X, e2, cons_A]
    rcases hc with rfl | rfl | rfl <;> simp only [sm] <;> grind
theorem sqT_eq (h : Tb tb c) (ru : Ru R c) : sqT tb R = sqF tb R c := by
  have c1 := h.c1
  have c3 := h.c3
  rw [← squares_law (R := R) c (by omega) tb]
  unfold sqT
  congr 1
  refine List.map_congr_left fun r hr => ?_
  unfold mis
  rw [told_sm h ru hr]
theorem misses_law (c : Nat) (hc : c = 1 ∨ c = 2 ∨ c = 3) : ∀ tb : List Row, tot (tb.map fun r => (((r.2 : Int) : Rat) - sm (fun k => ((gx r.1 k : Int) : Rat) * rt R k) c)) = ((sA tb : Int) : Rat) - sm (fun k => ((sX tb k : Int) : Rat) * rt R k) c
  | [] => by
    have z : ∀ k, ((sX [] k : Int) : Rat) = 0 := fun _ => rfl
    have z3 : ((sA [] : Int) : Rat) = 0 := rfl
    simp only [z, z3]
    show (0 : Rat) = _
    rcases hc with rfl | rfl | rfl <;> simp only [sm] <;> grind
  | r :: tb => by
    have ih := misses_law c hc tb
    rw [List.map_cons]
    show _ + tot _ = _
    rw [ih]
    simp only [cons_sA, cons_sX]
    rcases hc with rfl | rfl | rfl <;> simp only [sm] <;> grind
theorem msT_eq (h : Tb tb c) (ru : Ru R c) : msT tb R * (1 / ((tb.length : Int) : Rat)) = mn (sA tb) tb.length - sm (fun k => mn (sX tb k) tb.length * rt R k) c := by
  have c1 := h.c1
  have c3 := h.c3
  have e : msT tb R = ((sA tb : Int) : Rat) - sm (fun k => ((sX tb k : Int) : Rat) * rt R k) c := by
    rw [← misses_law (R := R) c (by omega) tb]
    unfold msT
    congr 1
    refine List.map_congr_left fun r hr => ?_
    unfold mis
    rw [told_sm h ru hr]
  rw [e]
  unfold mn
  have hc : c = 1 ∨ c = 2 ∨ c = 3 := by omega
  rcases hc with rfl | rfl | rfl <;> simp only [sm] <;> grind
end
end Lw

namespace Lw
open PySem PySem.Spec L2 Pv
open PyProof.Rows hiding St
abbrev Dk := List ((Int × Int) × Int)
def stepB (tb : List Row) (p : Int × Int) : Dk × Int → Int → Option (Lp (Dk × Int) (Bool × (Int × Int))) := fun (s46, s47) x50 => (mpO (fun (x51, x52) => (atI x51 s47).bind fun v53 => (atI x51 x50).bind fun v54 => (mulI v53 v54).bind fun v55 => some v55) tb).bind fun v56 => (putDO s46 (s47, x50) v56.sum).bind fun v57 => (getO v57 (s47, x50)).bind fun v58 => (f_product_sum false tb s47 x50).bind fun v59 => (f_product_sum false tb s47 x50).bind fun v60 => (f_product_sum false tb x50 s47).bind fun v61 => (reprO ((eL eI) ([v59, v60, v61] : List Int))).bind fun v62 => (repO ([v58] : List Int) (3 : Int)).bind fun v63 => (reprO ((eL eI) v63)).bind fun v64 => (if (!decide (v62 = v64)) = true then some (.ret (false, p)) else some (.go (v57, s47)))
def stepA (tb : List Row) (p : Int × Int) (cc : Int) (an : List Int) : List (Int × Int) × Dk × List Int → Int → Option (Lp (List (Int × Int) × Dk × List Int) (Bool × (Int × Int))) := fun (s14, s15, s16) x21 => (mpO (fun (x22, x23) => (atI x22 x21).bind fun v24 => some v24) tb).bind fun v25 => (f__law_cut v25.sum (tb.length : Int)).bind fun v26 => (appO s14 v26).bind fun v27 => (mpO (fun (x28, x29) => (mulI x28 x29).bind fun v30 => some v30) (v25.zip an)).bind fun v31 => (appO s16 v31.sum).bind fun v32 => (f_column_mean false tb x21).bind fun v33 => (f_column_mean false tb x21).bind fun v34 => (reprO ((eL (eT2 eI eI)) ([v33, v34] : List (Int × Int)))).bind fun v35 => (atI v27 (-(1 : Int))).bind fun v36 => (repO ([v36] : List (Int × Int)) (2 : Int)).bind fun v37 => (reprO ((eL (eT2 eI eI)) v37)).bind fun v38 => (if (!decide (v35 = v38)) = true then some (.ret (false, p)) else (f_answer_sum false tb x21).bind fun v39 => (f_answer_sum false tb x21).bind fun v40 => (reprO ((eL eI) ([v39, v40] : List Int))).bind fun v41 => (atI v32 (-(1 : Int))).bind fun v42 => (repO ([v42] : List Int) (2 : Int)).bind fun v43 => (reprO ((eL eI) v43)).bind fun v44 => (if (!decide (v41 = v44)) = true then some (.ret (false, p)) else (rng1O (cc)).bind fun v45 => (forR (σ := List ((Int × Int) × Int) × Int) (ρ := Bool × (Int × Int)) (stepB tb p) v45 (s15, x21)).bind fun | .go (v65, v66) => (getO v65 (v66, v66)).bind fun v68 => (atI v27 v66).bind fun v69 => (atI v27 v66).bind fun v70 => (f__law_times v69 v70).bind fun v71 => (f__law_below (v68, (tb.length : Int)) v71).bind fun v72 => (if v72 = true then some (.ret (false, p)) else some (.go (v27, v65, v32))) | .brk _ => none | .ret r => some (.ret r)))
def stepD (v75 : Dk) (rl : List (Int × Int)) (x85 : Int) (s92 : Int × Int) (x94 : Int) : Option (Int × Int) := (getO v75 (x85, x94)).bind fun v95 => (atI rl x85).bind fun v96 => (atI rl x94).bind fun v97 => (f__law_times v96 v97).bind fun v98 => (f__law_times (v95, (1 : Int)) v98).bind fun v99 => (f__law_plus s92 v99).bind fun v100 => some v100
def stepC (v75 : Dk) (v76 : List Int) (rl : List (Int × Int)) (cc : Int) (s82 : Int × Int) (x85 : Int) : Option (Int × Int) := (atI v76 x85).bind fun v86 => (mulI (2 : Int) v86).bind fun v87 => (atI rl x85).bind fun v88 => (f__law_times (v87, (1 : Int)) v88).bind fun v89 => (f__law_less s82 v89).bind fun v90 => (rng1O (cc)).bind fun v91 => (forO (stepD v75 rl x85) v91 v90).bind fun v101 => some v101
theorem right_T (pot : Int × Int) : f__law_right pot = (drawO m__law_draw pot (3 : Int)).bind fun v1 => (f__law_table v1.2 ((1 : Int) + v1.1) (8 : Int)).bind fun v2 => (f__law_rule v2.2 ((1 : Int) + v1.1)).bind fun v3 => (reprO ((eL (eT2 (eV eI) eI)) v2.1)).bind fun v4 => (mpO (fun (x5, x6) => some x6) v2.1).bind fun v7 => (f__law_cut v7.sum (v2.1.length : Int)).bind fun v8 => (f_answer_mean false v2.1).bind fun v9 => (f_answer_mean true v2.1).bind fun v10 => (reprO ((eL (eT2 eI eI)) ([v9, v10] : List (Int × Int)))).bind fun v11 => (reprO ((eL (eT2 eI eI)) ([v8, v8] : List (Int × Int)))).bind fun v12 => (if (!decide (v11 = v12)) = true then some (false, v3.2) else (rng1O ((1 : Int) + v1.1)).bind fun v13 => (forR (σ := List (Int × Int) × List ((Int × Int) × Int) × List Int) (ρ := Bool × (Int × Int)) (stepA v2.1 v3.2 ((1 : Int) + v1.1) v7) v13 (([] : List (Int × Int)), ([] : List ((Int × Int) × Int)), ([] : List Int))).bind fun | .go (v74, v75, v76) => (mpO (fun x78 => (mulI x78 x78).bind fun v79 => some v79) v7).bind fun v80 => (rng1O ((1 : Int) + v1.1)).bind fun v81 => (forO (stepC v75 v76 v3.1 ((1 : Int) + v1.1)) v81 (v80.sum, (1 : Int))).bind fun v103 => (f_squares false false v2.1 v3.1).bind fun v105 => (if (!decide (v105 = v103)) = true then some (false, v3.2) else (mpO (fun (x106, x107) => (f__law_times x106 x107).bind fun v108 => some v108) (v74.zip v3.1)).bind fun v109 => (f__law_total v109).bind fun v110 => (f_misses false false v2.1 v3.1).bind fun v111 => (f__law_total v111).bind fun v112 => (f__law_times v112 ((1 : Int), (v2.1.length : Int))).bind fun v113 => (f__law_less v8 v110).bind fun v114 => (if (decide (v113 = v114)) = true then (reprO ((eL (eT2 (eV eI) eI)) v2.1)).bind fun v115 => some (decide (v115 = v4)) else some false).bind fun v116 => some (v116, v3.2)) | .brk _ => none | .ret r => some r) := rfl
def row (n : Nat) (F : Nat → Rat) : List (Int × Int) := (List.range n).map fun i => frP (F i)
section
variable {tb : List Row} {c n : Nat} {R : List Rat} {F : Nat → Rat}
theorem row_len : (row n F).length = n := by unfold row; simp
theorem row_at {i : Nat} (h : i < n) : atI (row n F) (i : Int) = some (frP (F i)) := by
  rw [atI_natS (by rw [row_len]; exact h)]
  unfold row; simp
theorem row_succ {i : Nat} : row (i + 1) F = row i F ++ [frP (F i)] := by unfold row; rw [List.range_succ, List.map_append]; rfl
theorem app_last {α : Type} {l : List α} {x : α} : atI (l ++ [x]) (-1) = some x := by
  rw [Pv.atI_last (by simp)]; simp
theorem rp_two1 {q : Rat} (h : Sz 100 q) : reprO (eL (eT2 eI eI) [frP q, frP q]) = some (eL (eT2 eI eI) [frP q, frP q]).shown :=
  repr_ok ((rp_list (D := 1) (W := 4008) (L := 2) (fun x hx => by
    have hx : x = frP q := by simpa using hx
    subst hx
    exact rp_fr h (by decide)) (by simp)).mono (D' := 2) (W' := 8100) (by decide) (by decide)) (by decide) (by decide)
theorem rp_intl {l : List Int} (hl : l.length ≤ 9) (h : ∀ x ∈ l, -100000 ≤ x ∧ x ≤ 100000) : reprO (eL eI l) = some (eL eI l).shown :=
  repr_ok ((rp_list (D := 0) (W := 2000) (L := 9) (fun x hx => rp_int (n := 20) (by have := h x hx; unfold Bt; omega) (by decide)) hl).mono (D' := 1) (W' := 18022) (by decide) (by decide)) (by decide) (by decide)
theorem rep_int (x : Int) (k : Int) (hk : 0 ≤ k ∧ k ≤ 1000) : repO [x] k = some (List.replicate k.toNat x) := by
  refine (gd_ok ⟨by omega, by omega, by simp⟩).trans ?_
  congr 1
  generalize k.toNat = m
  induction m with
  | zero => rfl
  | succ m ih => rw [List.replicate_succ, List.flatten_cons, ih, List.replicate_succ]; rfl
theorem rngI_cut {k n : Nat} (h : k < n) : rngI (k : Int) (n - k) = (k : Int) :: rngI ((k + 1 : Nat) : Int) (n - (k + 1)) := by
  have e : n - k = (n - (k + 1)) + 1 := by omega
  rw [e]; rfl
/-- what the dict holds -/
def Has (d : Dk) (tb : List Row) (P : Nat → Nat → Prop) : Prop := ∀ j l, P j l → getO d ((j : Int), (l : Int)) = some (prX tb j l)
theorem stepB_ok (h : Tb tb c) {p : Int × Int} {d : Dk} {i k : Nat} (hi : i < c) (hk : k < c) {P : Nat → Nat → Prop} (hd : Has d tb P) (hl : d.length < lim) :
    ∃ d', stepB tb p (d, (i : Int)) (k : Int) = some (.go (d', (i : Int))) ∧ Has d' tb (fun j l => P j l ∨ j = i ∧ l = k) ∧ d'.length ≤ d.length + 1 := by
  have pb := prX_le h hi hk
  refine ⟨putL d ((i : Int), (k : Int)) (prX tb i k), ?_, fun j l hP => ?_, putL_len⟩
  · show Option.bind (mpO _ tb) _ = _
    rw [prodsR_ok h hi hk, Option.bind_some]
    have e1 : putDO d ((i : Int), (k : Int)) (tb.map fun r => gx r.1 i * gx r.1 k).sum = some (putL d ((i : Int), (k : Int)) (prX tb i k)) := gd_ok hl
    have e2 : getO (putL d ((i : Int), (k : Int)) (prX tb i k)) ((i : Int), (k : Int)) = some (prX tb i k) := by rw [getO_put, if_pos rfl]
    rw [e1, Option.bind_some, e2, Option.bind_some, psum_ok h false hi hk, Option.bind_some, Option.bind_some, psum_ok h false hk hi, Option.bind_some, prX_comm k i, rep_int _ 3 (by decide)]
    have e3 : List.replicate (3 : Int).toNat (prX tb i k) = [prX tb i k, prX tb i k, prX tb i k] := rfl
    have rp := rp_intl (l := [prX tb i k, prX tb i k, prX tb i k]) (by simp) (fun x hx => by
      have hx : x = prX tb i k := by simpa using hx
      subst hx; omega)
    rw [e3, rp, Option.bind_some, Option.bind_some, rp, Option.bind_some, if_neg (by simp)]
  · rw [getO_put]
    by_cases q : ((j : Int), (l : Int)) = ((i : Int), (k : Int))
    · rw [if_pos q]
      injection q with q1 q2
      have : j = i := by omega
      have : l = k := by omega
      subst_vars; rfl
    · rw [if_neg q]
      rcases hP with hP | ⟨rfl, rfl⟩
      · exact hd j l hP
      · exact absurd rfl q
/-- the mean's square -/
theorem below_no (h : Tb tb c) {i : Nat} (hi : i < c) : f__law_below (prX tb i i, (tb.length : Int)) (frP (mn (sX tb i) tb.length * mn (sX tb i) tb.length)) = some false := by
  have l1 := h.l1
  have l8 := h.l8
  have z := (mn_ok h (sX_le h hi)).2.2
  have z2 := z.mul z
  have pb := prX_le h hi hi
  have b1 : Bt 20 (prX tb i i) := by unfold Bt; omega
  have b2 : Bt 20 (tb.length : Int) := by unfold Bt; omega
  generalize hm : mn (sX tb i) tb.length * mn (sX tb i) tb.length = m at *
  unfold f__law_below
  rw [mulI_bt b1 z2.2 (by decide) (by decide), Option.bind_some, mulI_bt z2.1 b2 (by decide) (by decide), Option.bind_some, decide_eq_false]
  refine Int.not_lt.mpr ?_
  have cs := prX_sq (tb := tb) i
  have cs' : ((sX tb i : Int) : Rat) * ((sX tb i : Int) : Rat) ≤ ((tb.length : Int) : Rat) * ((prX tb i i : Int) : Rat) := by exact_mod_cast cs
  have qv : ((frP m).1 : Rat) / (((frP m).2 : Int) : Rat) = m := frP_qv m
  have dp : (0 : Rat) < (((frP m).2 : Int) : Rat) := by have := frP_pos m; exact_mod_cast this
  have np : (0 : Rat) < ((tb.length : Int) : Rat) := by
    have : (0 : Int) < (tb.length : Int) := by omega
    exact_mod_cast this
  have e1 : ((frP m).1 : Rat) = m * (((frP m).2 : Int) : Rat) := by rw [← qv]; grind
  have e2 : m * ((tb.length : Int) : Rat) * ((tb.length : Int) : Rat) = ((sX tb i : Int) : Rat) * ((sX tb i : Int) : Rat) := by
    rw [← hm]; unfold mn; grind
  have le : m * ((tb.length : Int) : Rat) ≤ ((prX tb i i : Int) : Rat) := by
    refine Rat.le_of_mul_le_mul_right (c := ((tb.length : Int) : Rat)) ?_ np
    rw [e2]; grind
  have fin : ((frP m).1 : Rat) * ((tb.length : Int) : Rat) ≤ ((prX tb i i : Int) : Rat) * (((frP m).2 : Int) : Rat) := by
    rw [e1]
    have := Rat.mul_le_mul_of_nonneg_right (c := (((frP m).2 : Int) : Rat)) le (Rat.le_of_lt dp)
    grind
  exact_mod_cast fin
/-- one column's turn -/
theorem stepA_ok (h : Tb tb c) {p : Int × Int} {d : Dk} {i : Nat} (hi : i < c) (hd : Has d tb fun j l => j < i ∧ l < c) (hl : d.length ≤ i * 3) :
    ∃ d', stepA tb p (c : Int) (ansL tb) (row i (fun k => mn (sX tb k) tb.length), d, (List.range i).map (prA tb)) (i : Int) = some (.go (row (i + 1) (fun k => mn (sX tb k) tb.length), d', (List.range (i + 1)).map (prA tb))) ∧ Has d' tb (fun j l => j < i + 1 ∧ l < c) ∧ d'.length ≤ (i + 1) * 3 := by
  have c3 := h.c3
  obtain ⟨m1, m2, mz⟩ := mn_ok h (sX_le h hi)
  have ab := prA_le h hi
  obtain ⟨⟨d', x⟩, eL, k, hkc, hk, e2, hd', hl'⟩ := forR_inv (f := stepB tb p) (fun rest (t : Dk × Int) => ∃ k : Nat, k ≤ c ∧ rest = rngI (k : Int) (c - k) ∧ t.2 = (i : Int) ∧ Has t.1 tb (fun j l => j < i ∧ l < c ∨ j = i ∧ l < k) ∧ t.1.length ≤ i * 3 + k) (xs := rngI 0 c) (s := (d, (i : Int))) ⟨0, by omega, by simp, rfl, fun j l hP => hd j l (by omega), by simpa using hl⟩ (by
    rintro x xs ⟨t1, t2⟩ ⟨k, hkc, er, e2, hd', hl'⟩
    have e2 : t2 = (i : Int) := e2
    subst e2
    by_cases ck : k < c
    · rw [rngI_cut ck] at er
      injection er with e3 e4
      subst e3
      have hl' : t1.length ≤ i * 3 + k := hl'
      obtain ⟨d2, eB, hd2, hl2⟩ := stepB_ok h (p := p) hi ck hd' (by rw [lim_eq]; omega)
      exact ⟨(d2, (i : Int)), eB, k + 1, by omega, e4, rfl, fun j l hP => hd2 j l (by omega), by show d2.length ≤ _; omega⟩
    · have : c - k = 0 := by omega
      rw [this] at er
      cases er)
  have ek : k = c := by
    by_cases ck : k < c
    · rw [rngI_cut ck] at hk; cases hk
    · omega
  subst ek
  have e2 : x = (i : Int) := e2
  subst e2
  have hl' : d'.length ≤ i * 3 + k := hl'
  refine ⟨d', ?_, fun j l hP => hd' j l (by omega), by omega⟩
  show Option.bind (mpO _ tb) _ = _
  rw [(inputs_ok h false hi).2, Option.bind_some]
  show Option.bind (f__law_cut (sX tb i) (tb.length : Int)) _ = _
  have ea : appO (row i (fun k => mn (sX tb k) tb.length)) (frP (mn (sX tb i) tb.length)) = some (row (i + 1) (fun k => mn (sX tb k) tb.length)) := by
    rw [row_succ]; exact gd_ok (by rw [row_len, lim_eq]; omega)
  have eb : appO ((List.range i).map (prA tb)) (prA tb i) = some ((List.range (i + 1)).map (prA tb)) := by
    rw [List.range_succ, List.map_append]; exact gd_ok (by simp; rw [lim_eq]; omega)
  have el1 : atI (row (i + 1) (fun k => mn (sX tb k) tb.length)) (-1) = some (frP (mn (sX tb i) tb.length)) := by rw [row_succ, app_last]
  have el2 : atI ((List.range (i + 1)).map (prA tb)) (-1) = some (prA tb i) := by rw [List.range_succ, List.map_append, List.map_cons, List.map_nil, app_last]
  have er2 : repO [frP (mn (sX tb i) tb.length)] (2 : Int) = some [frP (mn (sX tb i) tb.length), frP (mn (sX tb i) tb.length)] := (gd_ok ⟨by decide, by decide, by simp⟩).trans rfl
  rw [m1, Option.bind_some, ea, Option.bind_some, prodA_ok h hi, Option.bind_some]
  show Option.bind (appO _ (prA tb i)) _ = _
  rw [eb, Option.bind_some, cmean_ok h false hi, Option.bind_some, Option.bind_some, rp_two1 (mz.mono (by decide)), Option.bind_some, el1, Option.bind_some, er2, Option.bind_some, rp_two1 (mz.mono (by decide)), Option.bind_some, if_neg (by simp), asum_ok h false hi, Option.bind_some, Option.bind_some]
  rw [rp_intl (by simp) (fun x hx => by
      have hx : x = prA tb i := by simpa using hx
      subst hx; omega), Option.bind_some, el2, Option.bind_some, rep_int _ 2 (by decide)]
  have e3 : List.replicate (2 : Int).toNat (prA tb i) = [prA tb i, prA tb i] := rfl
  rw [e3, Option.bind_some, rp_intl (by simp) (fun x hx => by
      have hx : x = prA tb i := by simpa using hx
      subst hx; omega), Option.bind_some, if_neg (by simp), rng1O_nat (by omega), Option.bind_some]
  show Option.bind (forR (stepB tb p) (rngI 0 k) (d, (i : Int))) _ = _
  rw [eL, Option.bind_some]
  dsimp only
  have g1 : getO d' ((i : Int), (i : Int)) = some (prX tb i i) := hd' i i (by omega)
  have g2 : atI (row (i + 1) (fun k => mn (sX tb k) tb.length)) (i : Int) = some (frP (mn (sX tb i) tb.length)) := row_at (by omega)
  rw [g1, Option.bind_some, g2, Option.bind_some, Option.bind_some, times_ok mz mz (by decide) (by decide), Option.bind_some, below_no h hi, Option.bind_some, if_neg (by decide)]
theorem loopA_ok (h : Tb tb c) {p : Int × Int} : ∃ d, forR (stepA tb p (c : Int) (ansL tb)) (rngI 0 c) (([] : List (Int × Int)), ([] : Dk), ([] : List Int)) = some (.go (row c (fun k => mn (sX tb k) tb.length), d, (List.range c).map (prA tb))) ∧ Has d tb fun j l => j < c ∧ l < c := by
  have c3 := h.c3
  obtain ⟨s, e, i, hic, hr, es1, es2, hd, hl⟩ := forR_inv (f := stepA tb p (c : Int) (ansL tb)) (fun rest (s : List (Int × Int) × Dk × List Int) => ∃ i : Nat, i ≤ c ∧ rest = rngI (i : Int) (c - i) ∧ s.1 = row i (fun k => mn (sX tb k) tb.length) ∧ s.2.2 = (List.range i).map (prA tb) ∧ Has s.2.1 tb (fun j l => j < i ∧ l < c) ∧ s.2.1.length ≤ i * 3) (xs := rngI 0 c) (s := (([] : List (Int × Int)), ([] : Dk), ([] : List Int))) ⟨0, by omega, by simp, rfl, rfl, fun j l hP => by omega, by simp⟩ (by
    rintro x xs ⟨s1, s2, s3⟩ ⟨i, hic, er, e1, e2, hd, hl⟩
    have e1 : s1 = row i (fun k => mn (sX tb k) tb.length) := e1
    have e2 : s3 = (List.range i).map (prA tb) := e2
    subst e1 e2
    by_cases ci : i < c
    · rw [rngI_cut ci] at er
      injection er with e3 e4
      subst e3
      obtain ⟨d', eA, hd', hl'⟩ := stepA_ok h (p := p) ci hd hl
      exact ⟨_, eA, i + 1, by omega, e4, rfl, rfl, hd', hl'⟩
    · have : c - i = 0 := by omega
      rw [this] at er
      cases er)
  have ei : i = c := by
    by_cases ci : i < c
    · rw [rngI_cut ci] at hr; cases hr
    · omega
  subst ei
  obtain ⟨s1, s2, s3⟩ := s
  have es1 : s1 = _ := es1
  have es2 : s3 = _ := es2
  subst es1 es2
  exact ⟨s2, e, hd⟩
/-! ### the squares by product sums -/
theorem rt_at (ru : Ru R c) {k : Nat} (hk : k < c) : atI (R.map frP) (k : Int) = some (frP (rt R k)) ∧ Sz 5 (rt R k) := by
  have rl := ru.len
  have e : rt R k = R[k]'(by omega) := by unfold rt; rw [List.getD_eq_getElem?_getD, List.getElem?_eq_getElem (by omega)]; rfl
  rw [e, atI_natS (by rw [List.length_map]; omega), List.getElem_map]
  exact ⟨rfl, ru.sz _ (List.getElem_mem _)⟩
theorem stepD_ok (h : Tb tb c) (ru : Ru R c) {d : Dk} (hd : Has d tb fun j l => j < c ∧ l < c) {i k : Nat} (hi : i < c) (hk : k < c) {q : Rat} {N : Nat} (hq : Sz N q) (hN : N ≤ 3000) :
    stepD d (R.map frP) (i : Int) (frP q) (k : Int) = some (frP (q + ((prX tb i k : Int) : Rat) * (rt R i * rt R k))) ∧ Sz (N + 31) (q + ((prX tb i k : Int) : Rat) * (rt R i * rt R k)) := by
  obtain ⟨a1, z1⟩ := rt_at ru hi
  obtain ⟨a2, z2⟩ := rt_at ru hk
  have pb := prX_le h hi hk
  have zp : Sz 20 ((prX tb i k : Int) : Rat) := Sz.int (by unfold Bt; omega) (by decide)
  have e1 : (prX tb i k, (1 : Int)) = frP ((prX tb i k : Int) : Rat) := (frP_int _).symm
  refine ⟨?_, hq.add (zp.mul (z1.mul z2))⟩
  unfold stepD
  rw [hd i k ⟨hi, hk⟩, Option.bind_some, a1, Option.bind_some, a2, Option.bind_some, times_ok z1 z2 (by decide) (by decide), Option.bind_some, e1, times_ok zp (z1.mul z2) (by decide) (by decide), Option.bind_some, plus_ok hq (zp.mul (z1.mul z2)) (by omega) (by decide), Option.bind_some]
def Qp (tb : List Row) (R : List Rat) (c i : Nat) : Rat := ((prAA tb : Int) : Rat) + sm (fun k => sm (fun l => ((prX tb k l : Int) : Rat) * (rt R k * rt R l)) c - ((2 * prA tb k : Int) : Rat) * rt R k) i
theorem stepC_ok (h : Tb tb c) (ru : Ru R c) {d : Dk} (hd : Has d tb fun j l => j < c ∧ l < c) {i : Nat} (hi : i < c) {N : Nat} (hq : Sz N (Qp tb R c i)) (hN : N ≤ 2000) :
    stepC d ((List.range c).map (prA tb)) (R.map frP) (c : Int) (frP (Qp tb R c i)) (i : Int) = some (frP (Qp tb R c (i + 1))) ∧ Sz (N + 119) (Qp tb R c (i + 1)) := by
  have c3 := h.c3
  obtain ⟨a1, z1⟩ := rt_at ru hi
  have ab := prA_le h hi
  have e0 : atI ((List.range c).map (prA tb)) (i : Int) = some (prA tb i) := by rw [atI_natS (by simp; exact hi)]; simp
  have m2 : mulI 2 (prA tb i) = some (2 * prA tb i) := mulI_sm (by decide) (by omega)
  have e1 : ((2 * prA tb i : Int), (1 : Int)) = frP ((2 * prA tb i : Int) : Rat) := (frP_int _).symm
  have za : Sz 20 ((2 * prA tb i : Int) : Rat) := Sz.int (by unfold Bt; omega) (by decide)
  have zu := hq.sub (za.mul z1)
  obtain ⟨s, eL, k, hkc, hr, es, hz⟩ := forO_inv (f := stepD d (R.map frP) (i : Int)) (fun rest s => ∃ k : Nat, k ≤ c ∧ rest = rngI (k : Int) (c - k) ∧ s = frP (Qp tb R c i - ((2 * prA tb i : Int) : Rat) * rt R i + sm (fun l => ((prX tb i l : Int) : Rat) * (rt R i * rt R l)) k) ∧ Sz (N + 26 + k * 31) (Qp tb R c i - ((2 * prA tb i : Int) : Rat) * rt R i + sm (fun l => ((prX tb i l : Int) : Rat) * (rt R i * rt R l)) k)) (xs := rngI 0 c) (s := frP (Qp tb R c i - ((2 * prA tb i : Int) : Rat) * rt R i)) (by
      have e : Qp tb R c i - ((2 * prA tb i : Int) : Rat) * rt R i + sm (fun l => ((prX tb i l : Int) : Rat) * (rt R i * rt R l)) 0 = Qp tb R c i - ((2 * prA tb i : Int) : Rat) * rt R i := by simp only [sm]; grind
      exact ⟨0, by omega, by simp, by rw [e], by rw [e]; exact zu.mono (by omega)⟩) (by
    rintro x xs s ⟨k, hkc, er, rfl, hz⟩
    by_cases ck : k < c
    · rw [rngI_cut ck] at er
      injection er with e3 e4
      subst e3
      obtain ⟨q1, q2⟩ := stepD_ok h ru hd hi ck hz (by omega)
      have es : Qp tb R c i - ((2 * prA tb i : Int) : Rat) * rt R i + sm (fun l => ((prX tb i l : Int) : Rat) * (rt R i * rt R l)) k + ((prX tb i k : Int) : Rat) * (rt R i * rt R k) = Qp tb R c i - ((2 * prA tb i : Int) : Rat) * rt R i + sm (fun l => ((prX tb i l : Int) : Rat) * (rt R i * rt R l)) (k + 1) := by
        show _ = _ + (sm _ k + _); grind
      rw [es] at q1 q2
      exact ⟨_, q1, k + 1, by omega, e4, rfl, q2.mono (by omega)⟩
    · have : c - k = 0 := by omega
      rw [this] at er
      cases er)
  have ek : k = c := by
    by_cases ck : k < c
    · rw [rngI_cut ck] at hr; cases hr
    · omega
  subst ek
  have eq : Qp tb R k i - ((2 * prA tb i : Int) : Rat) * rt R i + sm (fun l => ((prX tb i l : Int) : Rat) * (rt R i * rt R l)) k = Qp tb R k (i + 1) := by
    unfold Qp
    show _ = _ + (sm _ i + _)
    grind
  rw [eq] at es hz
  refine ⟨?_, hz.mono (by omega)⟩
  unfold stepC
  rw [e0, Option.bind_some, m2, Option.bind_some, a1, Option.bind_some, e1, times_ok za z1 (by decide) (by decide), Option.bind_some, less_ok hq (za.mul z1) (by omega) (by decide), Option.bind_some, rng1O_nat (by omega), Option.bind_some, eL, Option.bind_some, es]
theorem loopC_ok (h : Tb tb c) (ru : Ru R c) {d : Dk} (hd : Has d tb fun j l => j < c ∧ l < c) :
    forO (stepC d ((List.range c).map (prA tb)) (R.map frP) (c : Int)) (rngI 0 c) (prAA tb, (1 : Int)) = some (frP (sqF tb R c)) := by
  have c3 := h.c3
  have ab := prAA_le h
  obtain ⟨s, eL, i, hic, hr, es, hz⟩ := forO_inv (f := stepC d ((List.range c).map (prA tb)) (R.map frP) (c : Int)) (fun rest s => ∃ i : Nat, i ≤ c ∧ rest = rngI (i : Int) (c - i) ∧ s = frP (Qp tb R c i) ∧ Sz (20 + i * 119) (Qp tb R c i)) (xs := rngI 0 c) (s := (prAA tb, (1 : Int))) (by
      have e : Qp tb R c 0 = ((prAA tb : Int) : Rat) := by unfold Qp; simp only [sm]; grind
      exact ⟨0, by omega, by simp, by rw [e, frP_int], by rw [e]; exact Sz.int (by unfold Bt; omega) (by decide)⟩) (by
    rintro x xs s ⟨i, hic, er, rfl, hz⟩
    by_cases ci : i < c
    · rw [rngI_cut ci] at er
      injection er with e3 e4
      subst e3
      obtain ⟨q1, q2⟩ := stepC_ok h ru hd ci hz (by omega)
      exact ⟨_, q1, i + 1, by omega, e4, rfl, q2.mono (by omega)⟩
    · have : c - i = 0 := by omega
      rw [this] at er
      cases er)
  have ei : i = c := by
    by_cases ci : i < c
    · rw [rngI_cut ci] at hr; cases hr
    · omega
  subst ei
  rw [eL, es]; rfl
/-! ### draws -/
theorem pick_ok {p : Int × Int} (hp : PotZ p) : ∃ w p', f__law_pick p [2, 9, 99] = some (w, p') ∧ PotZ p' ∧ 1 ≤ w ∧ w ≤ 99 := by
  unfold f__law_pick
  obtain ⟨d, p', e, hp', a, b⟩ := drawO_of hDr hp (many := 3) (by decide) (by decide)
  have e : drawO m__law_draw p (([2, 9, 99] : List Int).length : Int) = some (d, p') := e
  rw [e, Option.bind_some]
  have hd : d = 0 ∨ d = 1 ∨ d = 2 := by omega
  rcases hd with rfl | rfl | rfl
  · exact ⟨2, p', rfl, hp', by decide, by decide⟩
  · exact ⟨9, p', rfl, hp', by decide, by decide⟩
  · exact ⟨99, p', rfl, hp', by decide, by decide⟩
theorem table_made {p : Int × Int} (hp : PotZ p) (c1 : 1 ≤ c) (c3 : c ≤ 3) : ∃ tb p', f__law_table p (c : Int) 8 = some (tb, p') ∧ PotZ p' ∧ Tb tb c := by
  unfold f__law_table
  obtain ⟨w, p1, e1, hp1, w1, w2⟩ := pick_ok hp
  rw [e1, Option.bind_some]
  obtain ⟨d, p2, e2, hp2, a2, b2⟩ := drawO_of hDr hp1 (many := 8) (by decide) (by decide)
  rw [e2, Option.bind_some, rng1O_ok (by omega), Option.bind_some]
  have m2 : mulI 2 w = some (2 * w) := mulI_sm (by decide) (by omega)
  obtain ⟨⟨q, l⟩, e3, hq, hl, hr⟩ := forO_inv (f := fun ((s4, s5) : (Int × Int) × List Row) (x8 : Int) => (rng1O (c : Int)).bind fun v9 => (mpsO (fun p11 x10 => (mulI (2 : Int) w).bind fun v12 => (drawO m__law_draw p11 (v12 + (1 : Int))).bind fun v13 => some ((v13.1 - w), v13.2)) v9 s4).bind fun v14 => (mulI (2 : Int) w).bind fun v15 => (drawO m__law_draw v14.2 (v15 + (1 : Int))).bind fun v16 => (appO s5 (v14.1, (v16.1 - w))).bind fun v17 => some (v16.2, v17)) (fun rest (s : (Int × Int) × List Row) => PotZ s.1 ∧ s.2.length + rest.length = ((1 : Int) + d).toNat ∧ ∀ r ∈ s.2, r.1.length = c ∧ (∀ x ∈ r.1, -99 ≤ x ∧ x ≤ 99) ∧ -99 ≤ r.2 ∧ r.2 ≤ 99) (xs := rngI 0 ((1 : Int) + d).toNat) (s := (p2, [])) ⟨hp2, by rw [rngI_len]; simp, fun r hr => absurd hr List.not_mem_nil⟩ (by
    rintro x rest ⟨q, l⟩ ⟨hq, hl, hr⟩
    have hl : l.length + (rest.length + 1) = _ := hl
    obtain ⟨ys, q1, e4, hq1, ly, hy⟩ := mpsO_all (f := fun (p11 : Int × Int) (x10 : Int) => (mulI (2 : Int) w).bind fun v12 => (drawO m__law_draw p11 (v12 + (1 : Int))).bind fun v13 => some ((v13.1 - w), v13.2)) PotZ (fun y : Int => -99 ≤ y ∧ y ≤ 99) (xs := rngI 0 c) (s := q) (by rw [rngI_len, lim_eq]; omega) hq (fun s x _ hs' => by
      obtain ⟨d, q, e, hq, a, b⟩ := drawO_of hDr hs' (many := 2 * w + 1) (by omega) (by omega)
      refine ⟨d - w, q, ?_, hq, by omega, by omega⟩
      show Option.bind (mulI 2 w) _ = _
      rw [m2, Option.bind_some, e, Option.bind_some])
    obtain ⟨d5, q5, e5, hq5, a5, b5⟩ := drawO_of hDr hq1 (many := 2 * w + 1) (by omega) (by omega)
    have ea : appO l (ys, d5 - w) = some (l ++ [(ys, d5 - w)]) := gd_ok (by rw [lim_eq]; omega)
    refine ⟨(q5, l ++ [(ys, d5 - w)]), ?_, hq5, by rw [List.length_append]; simp; omega, fun r hr' => ?_⟩
    · show Option.bind (rng1O (c : Int)) _ = _
      rw [rng1O_nat (by omega), Option.bind_some]
      show Option.bind (mpsO _ (rngI 0 c) q) _ = _
      rw [e4, Option.bind_some, m2, Option.bind_some, e5, Option.bind_some, ea, Option.bind_some]
    · rcases List.mem_append.mp hr' with hr' | hr'
      · exact hr r hr'
      · have hr' : r = (ys, d5 - w) := by simpa using hr'
        subst hr'
        exact ⟨by rw [ly, rngI_len], hy, by show -99 ≤ d5 - w; omega, by show d5 - w ≤ 99; omega⟩)
  have hl : l.length + 0 = _ := hl
  refine ⟨l, q, ?_, hq, ⟨by omega, by omega, c1, c3, fun r h => (hr r h).1, fun r h => (hr r h).2.1, fun r h => (hr r h).2.2⟩⟩
  show Option.bind (forO _ (rngI 0 ((1 : Int) + d).toNat) (p2, [])) _ = _
  rw [e3, Option.bind_some]
theorem of_all {P : Rat → Prop} : ∀ {ys : List (Int × Int)}, (∀ y ∈ ys, ∃ q, y = frP q ∧ P q) → ∃ R : List Rat, ys = R.map frP ∧ ∀ q ∈ R, P q
  | [], _ => ⟨[], rfl, fun q h => absurd h List.not_mem_nil⟩
  | y :: ys, h => by
    obtain ⟨q, rfl, hq⟩ := h y (by simp)
    obtain ⟨R, rfl, hR⟩ := of_all (ys := ys) fun z hz => h z (by simp [hz])
    exact ⟨q :: R, rfl, fun x hx => by
      rcases List.mem_cons.mp hx with rfl | hx
      · exact hq
      · exact hR x hx⟩
theorem rule_made {p : Int × Int} (hp : PotZ p) (c3 : c ≤ 3) : ∃ R p', f__law_rule p (c : Int) = some (R.map frP, p') ∧ PotZ p' ∧ Ru R c := by
  unfold f__law_rule
  rw [rng1O_nat (by omega), Option.bind_some]
  obtain ⟨ys, q1, e4, hq1, ly, hy⟩ := mpsO_all (f := fun (p3 : Int × Int) (x2 : Int) => (drawO m__law_draw p3 (41 : Int)).bind fun v4 => (drawO m__law_draw v4.2 (6 : Int)).bind fun v5 => (f__law_cut (v4.1 - (20 : Int)) ((1 : Int) + v5.1)).bind fun v6 => some (v6, v5.2)) PotZ (fun y : Int × Int => ∃ q, y = frP q ∧ Sz 5 q) (xs := rngI 0 c) (s := p) (by rw [rngI_len, lim_eq]; omega) hp (fun s x _ hs' => by
    obtain ⟨d, q, e, hq, a, b⟩ := drawO_of hDr hs' (many := 41) (by decide) (by decide)
    obtain ⟨d2, q2, e2, hq2, a2, b2⟩ := drawO_of hDr hq (many := 6) (by decide) (by decide)
    have nz : (1 : Int) + d2 ≠ 0 := by omega
    have bb : Bt 5 ((1 : Int) + d2) := by unfold Bt; omega
    refine ⟨frP (((d - 20 : Int) : Rat) / (((1 : Int) + d2 : Int) : Rat)), q2, ?_, hq2, _, rfl, Sz.frac nz (by unfold Bt; omega) bb⟩
    show Option.bind (drawO m__law_draw s 41) _ = _
    rw [e, Option.bind_some, e2, Option.bind_some, hCut _ _ 5 nz bb (by decide), Option.bind_some])
  obtain ⟨R, rfl, hR⟩ := of_all hy
  rw [List.length_map, rngI_len] at ly
  exact ⟨R, q1, by rw [e4, Option.bind_some], hq1, ly, hR⟩
theorem tot_app (x : Rat) : ∀ l : List Rat, tot (l ++ [x]) = tot l + x
  | [] => by show x + 0 = 0 + x; grind
  | q :: l => by show q + tot (l ++ [x]) = q + tot l + x; rw [tot_app x l]; grind
theorem tot_range {g : Nat → Rat} : ∀ {n : Nat}, tot ((List.range n).map g) = sm g n
  | 0 => rfl
  | n + 1 => by
    rw [List.range_succ, List.map_append, List.map_cons, List.map_nil, tot_app, tot_range]; rfl
theorem rp_tab (h : Tb tb c) : reprO (eL (eT2 (eV eI) eI) tb) = some (eL (eT2 (eV eI) eI) tb).shown := by
  have c3 := h.c3
  refine repr_ok ((rp_list (D := 2) (W := 10000) (L := 8) (fun r hr => ?_) h.l8).mono (D' := 3) (W' := 90000) (by decide) (by decide)) (by decide) (by decide)
  exact (rp_two (e := eV eI) (e' := eI) (x := r.1) (y := r.2) (rp_tup (D := 0) (W := 2000) (L := 3) (fun x hx => rp_int (n := 10) (bt_small (by have := h.inp r hr x hx; omega)) (by decide)) (by rw [h.len r hr]; exact c3)) (rp_int (n := 10) (bt_small (by have := h.ans r hr; omega)) (by decide))).mono (by decide) (by decide)
theorem right_ok {p : Int × Int} (hp : PotZ p) : ∃ p', f__law_right p = some (true, p') := by
  rw [right_T]
  obtain ⟨d, p1, e1, hp1, a1, b1⟩ := drawO_of hDr hp (many := 3) (by decide) (by decide)
  obtain ⟨m, rfl⟩ := Int.eq_ofNat_of_zero_le a1
  have ec : (1 : Int) + (m : Int) = ((m + 1 : Nat) : Int) := by omega
  obtain ⟨tb, p2, e2, hp2, h⟩ := table_made (c := m + 1) hp1 (by omega) (by omega)
  obtain ⟨R, p3, e3, hp3, ru⟩ := rule_made (c := m + 1) hp2 (by omega)
  generalize hc : m + 1 = c at *
  have c1 := h.c1
  have c3 := h.c3
  have l1 := h.l1
  have l8 := h.l8
  have rl := ru.len
  obtain ⟨d, eA, hd⟩ := loopA_ok h (p := p3)
  have eC := loopC_ok h ru hd
  have rt0 := rp_tab h
  obtain ⟨q1, q2, q3⟩ := mn_ok h (sA_le h)
  have rd := rp_two1 (q3.mono (show 10 ≤ 100 by decide))
  have eS := squares_ok h ru
  rw [sqT_eq h ru] at eS
  have eM := missesT_ok h ru
  obtain ⟨eT, zT⟩ := mtotal_ok h ru
  have nz : (tb.length : Int) ≠ 0 := by omega
  have en : ((1 : Int), (tb.length : Int)) = frP (1 / ((tb.length : Int) : Rat)) := by
    have cn : Can ((1 : Int), (tb.length : Int)) := ⟨by show (0 : Int) < (tb.length : Int); omega, by show Int.gcd 1 (tb.length : Int) = 1; simp⟩
    have := can_frP cn
    rw [this]
    congr 1
  have zn : Sz 10 (1 / ((tb.length : Int) : Rat)) := by
    have : ((1 : Int) : Rat) / ((tb.length : Int) : Rat) = 1 / ((tb.length : Int) : Rat) := by congr 1
    rw [← this]
    exact Sz.frac nz (by unfold Bt; omega) (by unfold Bt; omega)
  have ez : mpO (fun ((x106, x107) : (Int × Int) × (Int × Int)) => (f__law_times x106 x107).bind fun v108 => some v108) ((row c (fun k => mn (sX tb k) tb.length)).zip (R.map frP)) = some (((List.range c).map fun k => mn (sX tb k) tb.length * rt R k).map frP) := by
    have eR : R.map frP = (List.range c).map fun k => frP (rt R k) := by
      refine List.ext_getElem (by simp [rl]) fun i h1 h2 => ?_
      simp only [List.getElem_map, List.getElem_range]
      congr 1
      unfold rt; rw [List.getD_eq_getElem?_getD, List.getElem?_eq_getElem (by simp at h1; exact h1)]; rfl
    unfold row
    rw [eR, List.zip_map', mpO_map, List.map_map]
    refine mpO_ok _ (by rw [lim_eq]; simp; omega) fun k hk => ?_
    have hk := List.mem_range.mp hk
    show Option.bind (f__law_times (frP (mn (sX tb k) tb.length)) (frP (rt R k))) _ = _
    rw [times_ok (mn_ok h (sX_le h hk)).2.2 (rt_at ru hk).2 (by decide) (by decide), Option.bind_some]; rfl
  obtain ⟨eW, zW⟩ := total_of (g := f__law_plus) (fun a b c d => plus_ok a b c d) (m := 15) (by decide) (qs := (List.range c).map fun k => mn (sX tb k) tb.length * rt R k) (by simp; omega) (fun q hq => by
    obtain ⟨k, hk, rfl⟩ := List.mem_map.mp hq
    have hk := List.mem_range.mp hk
    exact (mn_ok h (sX_le h hk)).2.2.mul (rt_at ru hk).2)
  rw [tot_range] at eW zW
  have eW : f__law_total (((List.range c).map fun k => mn (sX tb k) tb.length * rt R k).map frP) = _ := eW
  have eF := msT_eq h ru
  refine ⟨p3, ?_⟩
  rw [e1, Option.bind_some]
  show Option.bind (f__law_table p1 (1 + (m : Int)) 8) _ = _
  rw [ec, e2, Option.bind_some]
  show Option.bind (f__law_rule p2 (c : Int)) _ = _
  rw [e3, Option.bind_some]
  dsimp only
  rw [rt0, Option.bind_some, (answers_ok h false).2, Option.bind_some]
  show Option.bind (f__law_cut (sA tb) (tb.length : Int)) _ = _
  rw [q1, Option.bind_some, ameans_ok h, Option.bind_some, ameans_ok h, Option.bind_some, rd, Option.bind_some, Option.bind_some, if_neg (by simp), rng1O_nat (by omega), Option.bind_some]
  show Option.bind (forR (stepA tb p3 (c : Int) (ansL tb)) (rngI 0 c) _) _ = _
  rw [eA, Option.bind_some]
  dsimp only
  rw [prodAA_ok h, Option.bind_some, Option.bind_some]
  show Option.bind (forO _ (rngI 0 c) (prAA tb, 1)) _ = _
  rw [eC, Option.bind_some, eS, Option.bind_some, if_neg (by simp), ez, Option.bind_some, eW, Option.bind_some, eM, Option.bind_some, eT, Option.bind_some, en, times_ok zT zn (by decide) (by decide), Option.bind_some, less_ok q3 zW (by decide) (by decide), Option.bind_some, eF, if_pos (by simp), Option.bind_some, Option.bind_some]
  simp
theorem pure_law {ns : List Int} (h : ns.length ≤ 63) : f_law ns = some true := by
  unfold f_law
  generalize hk : (if (if (ns.length : Int) < (2 : Int) then (ns.length : Int) else (2 : Int)) > (1 : Int) then (if (ns.length : Int) < (2 : Int) then (ns.length : Int) else (2 : Int)) else (1 : Int)) = k
  have hk2 : 1 ≤ k ∧ k ≤ 2 := by
    rw [← hk]; split <;> split at * <;> omega
  rw [rng1O_ok (by omega), Option.bind_some, mpO_ok (fun _ => true) (by rw [rngI_len, lim_eq]; omega) (fun x hx => ?_), Option.bind_some]
  · simp
  · rw [rngI_mem] at hx
    obtain ⟨p, e, hp⟩ := potO_of hPot (ns := ns) (k := x) (by omega) (by omega)
    obtain ⟨p', e'⟩ := right_ok hp
    rw [e, Option.bind_some, e', Option.bind_some]
theorem t_law (ns : List Int) (h : ns.length ≤ 63) : m_law [.sc ns] = some (.fz (.bool true), []) := s_law (pure_law h)
end
end Lw

namespace Hd
open PySem PySem.Spec PyProof.Rows L2
abbrev R : PySem.W.OpenRow := PySem.W.OpenLaw.row PySem.Challenge.rw_fitpapers_k12_whole_means_and_product_su
abbrev hk : PySem.W.Hook := He.hookX 4 fa fn [] [] ex
def ob (s : PySem.W.SharedT) : He.AlX := He.obsX 4 fa fn [] [] ex (HandSHeadRun.getT s)
theorem ob_eq (s : PySem.W.SharedT) : ob s = hk.obs s.abs := He.obsX_eq (HandSHeadRun.getT_eq s)
theorem run (w : World) : HandSHeadRun.RunEq R (PySem.W.view R.prog [59]) hk ob 3000 names w := by
  intro os
  kernel_rfl
end Hd

open PySem PySem.W PySem.Calls PyProof.Rows L2
theorem PySem.Challenge.cw_fitpapers_k12_whole_means_and_product_su_holds : PySem.Challenge.rw_fitpapers_k12_whole_means_and_product_su.Holds := by
  w_on; o_law
  refine HandSHeadRun.head_any (r := OpenLaw.row PySem.Challenge.rw_fitpapers_k12_whole_means_and_product_su) (q := view (OpenLaw.row PySem.Challenge.rw_fitpapers_k12_whole_means_and_product_su).prog [59]) (H := Hd.hk) (ob := Hd.ob) (M := 3000) (loose := Hd.names) (d := HandSHeadRun.topDef (OpenLaw.row PySem.Challenge.rw_fitpapers_k12_whole_means_and_product_su).prog 59) (kwd := []) Hd.ob_eq
    (by kernel_rfl) (fun s => by kernel_rfl) Hd.run (by kernel_rfl) (by kernel_rfl) (by kernel_rfl) (by rfl) (by first | assumption | decide +kernel) (by decide +kernel) ⟨rfl, rfl, rfl, rfl, rfl, by decide +kernel⟩ ?hw ?hc
  case hw => w_witness2
  case hc =>
    refine Pv.law_end (n := 63) (k := 9) (x := "script") (params := defArgs (Hd.top 59)) (g := Lw.m_law) rfl (by decide) (by kernel_rfl) ⟨rfl, by decide, by decide⟩ Lw.bn_law_1 (by kernel_rfl) (fun w mg h Y G => ?_) Lw.t_law
    obtain ⟨K, KX, c⟩ := Y
    exact ⟨K, KX, fun base kb gb => Lw.ok_law (Pv.saysX_D c) c.more kb gb⟩


